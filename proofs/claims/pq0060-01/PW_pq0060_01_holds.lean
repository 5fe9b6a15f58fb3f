import PyProof.Rows.All
import Wide.All
import OpenK.AllK
import Wide.FinOn
import Lean
import PySem.Challenge.RW_pq0060_01
set_option Elab.async false
set_option maxRecDepth 100000
set_option linter.all false
set_option tactic.hygienic false
set_option compiler.extract_closed false
set_option genSizeOf false
set_option genSizeOfSpec false
namespace Mine
noncomputable section
open PySem PySem.W PySem.Calls PyProof.Rows
inductive At where
 | i (n:Int)
 | s (x:Str)
 deriving DecidableEq
inductive V where
 | none | bool (b:Bool) | int (i:Int) | str (x:Str)
 | tup (l:List V) | lst (l:List V)
 | dI (l:List (Int×V)) | dS (l:List (Str×V)) | dT (l:List (List At×V)) | fld (l:List (Str×V))
 | sI (l:List Int) | sT (l:List (List At))
 | inst (c:Addr) (d:V) | ref (a:Addr)
noncomputable def At.isV:At→Value→Bool
 | .i n,v=>Value.isInt n v
 | .s x,v=>Value.isStrOf x v
noncomputable def At.hash (w:World):At→Int
 | .i n=>hashInt n
 | .s x=>hashStr w x
noncomputable def At.v:At→V
 | .i n=>.int n
 | .s x=>.str x
noncomputable def T (l:List At):V:=.tup (l.map At.v)
theorem At.isI {n:Int} {v:Value} (h:At.isV (.i n) v=true):∃ t,v=.int n t:=Value.isInt_shape h
theorem At.isS {x:Str} {v:Value} (h:At.isV (.s x) v=true):∃ t,v=.str x t:=Value.isStrOf_shape h
theorem At.isV_inj (v:Value) (a b:At) (ha:a.isV v=true) (hb:b.isV v=true):a=b:=by
 cases a with
 | i n=>
  cases b with
  | i m=>exact congrArg At.i (Value.isInt_inj v n m ha hb)
  | s y=>obtain ⟨t,rfl⟩:=At.isI ha;obtain ⟨u,h⟩:=At.isS hb;contradiction
 | s x=>
  cases b with
  | i m=>obtain ⟨t,rfl⟩:=At.isS ha;obtain ⟨u,h⟩:=At.isI hb;contradiction
  | s y=>exact congrArg At.s (Value.isStrOf_inj v x y ha hb)
theorem At.eqBool {prog:Program} {w:World} {A:Around} {E:Value→Shared→Prop} {s:Shared} {a b:At} {u v:Value} {Q:Bool→Shared→Prop}
  (hu:a.isV u=true) (hv:b.isV v=true) (h:Q (decide (a=b)) s):wpAny (model prog w) A (PySem.eqBool u v) Q E s:=by
 cases a with
 | i n=>
  obtain ⟨t,rfl⟩:=At.isI hu
  cases b with
  | i m=>
   obtain ⟨u,rfl⟩:=At.isI hv
   refine wpAny_eqBool_int ?_
   have e:decide (At.i n=At.i m)=(n==m):=by by_cases q:n=m <;> simp [q]
   rw [e] at h;exact h
  | s y=>obtain ⟨u,rfl⟩:=At.isS hv;exact SeqAt.EqAt.int_str n t y u prog w E Q (h)
 | s x=>
  obtain ⟨t,rfl⟩:=At.isS hu
  cases b with
  | i m=>obtain ⟨u,rfl⟩:=At.isI hv;exact SeqAt.EqAt.str_int x t m u prog w E Q (h)
  | s y=>
   obtain ⟨u,rfl⟩:=At.isS hv
   refine wpAny_eqBool_str ?_
   have e:decide (At.s x=At.s y)=decide (x=y):=by by_cases q:x=y <;> simp [q]
   rw [e] at h;exact h
theorem At.pyHash {prog:Program} {w:World} {A:Around} {E:Value→Shared→Prop} {s:Shared} {a:At} {v:Value} {Q:Int→Shared→Prop}
  (hv:a.isV v=true) (h:Q (a.hash w) { s with toks:=s.toks+1 }):wpAny (model prog w) A (PySem.pyHash v) Q E s:=by
 cases a with
 | i n=>obtain ⟨t,rfl⟩:=At.isI hv;exact wpAny_pyHash_int h
 | s x=>obtain ⟨t,rfl⟩:=At.isS hv;exact wpAny_pyHash_str h
theorem At.byValue (k:At) (v:Value) (h:k.isV v=true):carriedByValue v=true:=by
 cases k with
 | i n=>obtain ⟨t,rfl⟩:=At.isI h;rfl
 | s x=>obtain ⟨t,rfl⟩:=At.isS h;rfl
theorem At.keyStr (k:At) (x:Str) (t:Tok) (v:Value) (h:k.isV (.str x t)=true):k.isV v=v.isStr x:=by
 cases k with
 | i n=>obtain ⟨u,hu⟩:=At.isI h;contradiction
 | s y=>
  obtain ⟨u,hu⟩:=At.isS h
  (injection hu with hu;subst hu)
  cases v <;> rfl
noncomputable def atKind (prog:Program) (w:World):KeyKind prog w At where
 is:=At.isV
 hash:=At.hash w
 inj:=At.isV_inj
 byValue:=At.byValue
 pyHash:=At.pyHash
 eqBool:=At.eqBool
 «strs»:=At.keyStr
structure Cf where
 w:World
 h:Heap
 bad:Addr→Prop
noncomputable def intEs:List Int→List (Int×Value)→Prop
 | [],es=>es=[]
 | i::l,es=>∃ t r,es=(hashInt i,.int i t)::r∧intEs l r
inductive IsT (C:Cf) (ks:List At) (a:Addr):Prop
 | mk (hb:¬ C.bad a) (items:Array Value) (n:Nat) (ho:C.h.get? a=some (seqObj "tuple" items n)) (hi:ItemsAre (atKind default C.w) ks items.toList)
noncomputable def tupEs (C:Cf):List (List At)→List (Int×Value)→Prop
 | [],es=>es=[]
 | k::l,es=>∃ a r,es=(tupleKeyHash (atKind default C.w) k,.ref a)::r∧IsT C k a∧tupEs C l r
inductive SeqG (C:Cf) (f:Bool) (cls:String) (P:List Value→Prop) (x:Value):Prop
 | mk (a:Addr) (items:Array Value) (n:Nat) (e:x=.ref a) (hb:f=true→¬ C.bad a) (ho:C.h.get? a=some (seqObj cls items n)) (hl:P items.toList)
inductive DctG (C:Cf) (f:Bool) (P:List DictEntry→Prop) (Q:Addr→Prop) (x:Value):Prop
 | mk (a:Addr) (es:List DictEntry) (n:Nat) (e:x=.ref a) (hb:f=true→¬ C.bad a) (ho:C.h.get? a=some (dictOf es n)) (hl:P es) (hq:Q a)
inductive SetG (C:Cf) (f:Bool) (P:List (Int×Value)→Prop) (Q:Prop) (x:Value):Prop
 | mk (a:Addr) (es:Array (Int×Value)) (ep:Nat) (tb:SetTable) (e:x=.ref a) (hb:f=true→¬ C.bad a) (ho:C.h.get? a=some { cls:=.type "set",data:=.set es ep tb }) (hf:tb.fits es.size=true) (hl:P es.toList) (hn:Q)
inductive FldG (C:Cf) (f:Bool) (P:List DictEntry→Prop) (x:Value):Prop
 | mk (a:Addr) (es:List DictEntry) (n:Nat) (e:x=.ref a) (hb:f=true→¬ C.bad a) (ho:C.h.get? a=some (dictOf es n)) (hl:P es)
inductive InsG (C:Cf) (f:Bool) (c:Addr) (P:Value→Prop) (x:Value):Prop
 | mk (a dx:Addr) (e:x=.ref a) (hb:f=true→¬ C.bad a) (ho:C.h.get? a=some (instObj c dx)) (hd:P (.ref dx))
inductive ConsG (P:Value→Prop) (R:List Value→Prop) (xs:List Value):Prop
 | mk (x:Value) (r:List Value) (e:xs=x::r) (h:P x) (t:R r)
mutual
noncomputable def G (C:Cf):Bool→V→Value→Prop
 | _,.none,x=>x=.none
 | _,.bool b,x=>x=.bool b
 | _,.int i,x=>∃ t,x=.int i t
 | _,.str y,x=>∃ t,x=.str y t
 | f,.tup l,x=>SeqG C f "tuple" (GL C l) x
 | f,.lst l,x=>SeqG C f "list" (GL C l) x
 | f,.dI l,x=>DctG C f (GI C l) (fun _=>(l.map (·.1)).Nodup) x
 | f,.dS l,x=>DctG C f (GS C l) (fun _=>(l.map (·.1)).Nodup) x
 | f,.dT l,x=>DctG C f (GT C l) (fun a=>(l.map (·.1)).Nodup∧(a==sysModules)=false) x
 | f,.fld l,x=>FldG C f (GF C l) x
 | f,.sI l,x=>SetG C f (intEs l) l.Nodup x
 | f,.sT l,x=>SetG C f (tupEs C l) l.Nodup x
 | f,.inst c d,x=>InsG C f c (G C true d) x
 | _,.ref a,x=>x=.ref a
noncomputable def GL (C:Cf):List V→List Value→Prop
 | [],xs=>xs=[]
 | v::l,xs=>ConsG (G C true v) (GL C l) xs
noncomputable def GI (C:Cf):List (Int×V)→List DictEntry→Prop
 | [],es=>es=[]
 | (i,v)::l,es=>∃ t x r,es=⟨hashInt i,.int i t,x⟩::r∧G C true v x∧GI C l r
noncomputable def GS (C:Cf):List (Str×V)→List DictEntry→Prop
 | [],es=>es=[]
 | (y,v)::l,es=>∃ t x r,es=⟨hashStr C.w y,.str y t,x⟩::r∧G C true v x∧GS C l r
noncomputable def GT (C:Cf):List (List At×V)→List DictEntry→Prop
 | [],es=>es=[]
 | (k,v)::l,es=>∃ a x r,es=⟨tupleKeyHash (atKind default C.w) k,.ref a,x⟩::r∧IsT C k a∧G C true v x∧GT C l r
noncomputable def GF (C:Cf):List (Str×V)→List DictEntry→Prop
 | [],es=>es=[]
 | (y,v)::l,es=>∃ hh t x r,es=⟨hh,.str y t,x⟩::r∧G C true v x∧GF C l r
end
noncomputable abbrev Rp (C:Cf) (v:V) (x:Value):Prop:=G C true v x
noncomputable abbrev RpL (C:Cf) (l:List V) (xs:List Value):Prop:=GL C l xs
section
variable {C C':Cf} (hw:C'.w=C.w) (k:∀ a o,¬ C.bad a→C.h.get? a=some o→C'.h.get? a=some o∧¬ C'.bad a)
include hw k
theorem IsT.mono {ks:List At} {a:Addr} (h:IsT C ks a):IsT C' ks a:=by
 obtain ⟨hb,items,n,ho,hi⟩:=h
 obtain ⟨h1,h2⟩:=k _ _ hb ho
 exact ⟨h2,items,n,h1,by rw [hw];exact hi⟩
theorem tupEs_mono:∀ {l:List (List At)} {es:List (Int×Value)},tupEs C l es→tupEs C' l es
 | [],_,h=>h
 | ks::l,_,h=>by
  obtain ⟨a,r,e,hk,hr⟩:=h
  exact ⟨a,r,by rw [hw];exact e,hk.mono hw k,tupEs_mono hr⟩
omit hw in
theorem hmid {f:Bool} {a:Addr} {o:Obj} (p:f=false→∀ a' o,Value.ref a=.ref a'→C.h.get? a'=some o→C'.h.get? a'=some o) (hb:f=true→¬ C.bad a) (ho:C.h.get? a=some o):C'.h.get? a=some o:=
 match f,p,hb with
 | true,_,hb=>(k _ _ (hb rfl) ho).1
 | false,p,_=>p rfl _ _ rfl ho
mutual
theorem G_mono:∀ (f:Bool) (v:V) (x:Value),(f=false→∀ a o,x=.ref a→C.h.get? a=some o→C'.h.get? a=some o)→G C f v x→G C' f v x
 | _,.none,_,_,h=>h
 | _,.bool _,_,_,h=>h
 | _,.int _,_,_,h=>h
 | _,.str _,_,_,h=>h
 | _,.ref _,_,_,h=>h
 | f,.tup l,x,p,h=>by
  obtain ⟨a,items,n,rfl,hb,ho,hl⟩:=h
  exact ⟨a,items,n,rfl,fun e=>(k _ _ (hb e) ho).2,hmid k p hb ho,GL_mono l _ hl⟩
 | f,.lst l,x,p,h=>by
  obtain ⟨a,items,n,rfl,hb,ho,hl⟩:=h
  exact ⟨a,items,n,rfl,fun e=>(k _ _ (hb e) ho).2,hmid k p hb ho,GL_mono l _ hl⟩
 | f,.dI l,x,p,h=>by
  obtain ⟨a,es,n,rfl,hb,ho,hl,hn⟩:=h
  exact ⟨a,es,n,rfl,fun e=>(k _ _ (hb e) ho).2,hmid k p hb ho,GI_mono l _ hl,hn⟩
 | f,.dS l,x,p,h=>by
  obtain ⟨a,es,n,rfl,hb,ho,hl,hn⟩:=h
  exact ⟨a,es,n,rfl,fun e=>(k _ _ (hb e) ho).2,hmid k p hb ho,GS_mono l _ hl,hn⟩
 | f,.dT l,x,p,h=>by
  obtain ⟨a,es,n,rfl,hb,ho,hl,hn⟩:=h
  exact ⟨a,es,n,rfl,fun e=>(k _ _ (hb e) ho).2,hmid k p hb ho,GT_mono l _ hl,hn⟩
 | f,.fld l,x,p,h=>by
  obtain ⟨a,es,n,rfl,hb,ho,hl⟩:=h
  exact ⟨a,es,n,rfl,fun e=>(k _ _ (hb e) ho).2,hmid k p hb ho,GF_mono l _ hl⟩
 | f,.sI l,x,p,h=>by
  obtain ⟨a,es,ep,tb,rfl,hb,ho,hf,hl,hn⟩:=h
  exact ⟨a,es,ep,tb,rfl,fun e=>(k _ _ (hb e) ho).2,hmid k p hb ho,hf,hl,hn⟩
 | f,.sT l,x,p,h=>by
  obtain ⟨a,es,ep,tb,rfl,hb,ho,hf,hl,hn⟩:=h
  exact ⟨a,es,ep,tb,rfl,fun e=>(k _ _ (hb e) ho).2,hmid k p hb ho,hf,tupEs_mono hw k hl,hn⟩
 | f,.inst c d,x,p,h=>by
  obtain ⟨a,dx,rfl,hb,ho,hd⟩:=h
  exact ⟨a,dx,rfl,fun e=>(k _ _ (hb e) ho).2,hmid k p hb ho,G_mono true d _ (fun e=>by contradiction) hd⟩
theorem GL_mono:∀ (l:List V) (xs:List Value),GL C l xs→GL C' l xs
 | [],_,h=>h
 | v::l,_,h=>by
  obtain ⟨x,r,e,hv,hl⟩:=h
  exact ⟨x,r,e,G_mono true v x (fun e=>by contradiction) hv,GL_mono l r hl⟩
theorem GI_mono:∀ (l:List (Int×V)) (xs:List DictEntry),GI C l xs→GI C' l xs
 | [],_,h=>h
 | (i,v)::l,_,h=>by
  obtain ⟨t,x,r,e,hv,hl⟩:=h
  exact ⟨t,x,r,e,G_mono true v x (fun e=>by contradiction) hv,GI_mono l r hl⟩
theorem GS_mono:∀ (l:List (Str×V)) (xs:List DictEntry),GS C l xs→GS C' l xs
 | [],_,h=>h
 | (i,v)::l,_,h=>by
  obtain ⟨t,x,r,e,hv,hl⟩:=h
  exact ⟨t,x,r,by rw [hw];exact e,G_mono true v x (fun e=>by contradiction) hv,GS_mono l r hl⟩
theorem GT_mono:∀ (l:List (List At×V)) (xs:List DictEntry),GT C l xs→GT C' l xs
 | [],_,h=>h
 | (i,v)::l,_,h=>by
  obtain ⟨a,x,r,e,hk,hv,hl⟩:=h
  exact ⟨a,x,r,by rw [hw];exact e,hk.mono hw k,G_mono true v x (fun e=>by contradiction) hv,GT_mono l r hl⟩
theorem GF_mono:∀ (l:List (Str×V)) (xs:List DictEntry),GF C l xs→GF C' l xs
 | [],_,h=>h
 | (i,v)::l,_,h=>by
  obtain ⟨hh,t,x,r,e,hv,hl⟩:=h
  exact ⟨hh,t,x,r,e,G_mono true v x (fun e=>by contradiction) hv,GF_mono l r hl⟩
end
end
set_option genInjectivity false in
structure Cx where
 prog:Program
 w:World
 K:Frag
 h₀:Heap
 os₀:OsState
 X:K.In h₀
 lim:h₀.NoLimit
 mg:Str→Option Value
 mb:Str→Option Value
 g:h₀.Ns mainGlobals mg
 b:h₀.Ns builtinsNs mb
 builtins:∀ x:Str,x ≠ "__name__" → mb x=bootBuiltins x
noncomputable abbrev Store:=Addr→Option V
noncomputable def bad (B:Addr→Prop) (σ:Store):Addr→Prop:=fun a=>B a∨σ a≠none
noncomputable def cf (cx:Cx) (B:Addr→Prop) (σ:Store) (h:Heap):Cf:=⟨cx.w,h,bad B σ⟩
noncomputable def V.isMut:V→Bool
 | .lst _ | .dI _ | .dS _ | .dT _ | .fld _=>true
 | _=>false
structure St (cx:Cx) (B:Addr→Prop) (σ:Store) (s:Shared):Prop where
 keep:∀ b o,cx.h₀.get? b=some o→s.heap.get? b=some o
 gens:s.gens = #[]
 os:s.os=cx.os₀
 own:∀ a v,σ a=some v→¬ B a∧cx.h₀.get? a=none∧v.isMut=true∧G (cf cx B σ s.heap) false v (.ref a)
 alive:∀ a,B a→∃ o,s.heap.get? a=some o
structure Step (σ:Store) (h:Heap) (σ':Store) (h':Heap):Prop where
 keep:∀ b o,σ b=none→h.get? b=some o→h'.get? b=some o
 dom:∀ a,σ' a≠none→σ a≠none∨h.get? a=none
 live:∀ a o,h.get? a=some o→∃ o',h'.get? a=some o'
theorem Step.refl (σ:Store) (h:Heap):Step σ h σ h:=⟨fun o_ o_ o_ e=>e,fun o_ e=>.inl e,fun o_ o e=>⟨o,e⟩⟩
theorem Step.stay {σ σ':Store} {h h':Heap} (x:Step σ h σ' h') {b:Addr} {o:Obj} (hb:σ b=none) (e:h.get? b=some o):σ' b=none:=by
 refine Classical.byContradiction fun q=>?_
 rcases x.dom b q with q|q
 ·exact q hb
 ·rw [e] at q;contradiction
theorem Step.trans {σ σ₁ σ₂:Store} {h h₁ h₂:Heap} (x:Step σ h σ₁ h₁) (y:Step σ₁ h₁ σ₂ h₂):Step σ h σ₂ h₂ where
 keep b o hb e:=y.keep b o (x.stay hb e) (x.keep b o hb e)
 dom a q:=by
  rcases y.dom a q with q|q
  ·exact x.dom a q
  ·right
   rcases e:h.get? a with _|o
   ·rfl
   ·obtain ⟨o',e'⟩:=x.live a o e;rw [e'] at q;contradiction
 live a o e:=by obtain ⟨o',e'⟩:=x.live a o e;exact y.live a o' e'
section
variable {cx:Cx} {B:Addr→Prop} {σ σ':Store} {h h':Heap}
theorem Step.kept (x:Step σ h σ' h'):∀ a o,¬ (cf cx B σ h).bad a→(cf cx B σ h).h.get? a=some o→(cf cx B σ' h').h.get? a=some o∧¬ (cf cx B σ' h').bad a:=by
 intro a o hb e
 have hb':¬ (B a∨σ a≠none):=hb
 have n:σ a=none:=Classical.byContradiction fun q=>hb' (.inr q)
 refine ⟨x.keep a o n e,?_⟩
 rintro (q|q)
 ·exact hb' (.inl q)
 ·exact q (x.stay n e)
theorem Step.rp (x:Step σ h σ' h') {v:V} {y:Value} (r:Rp (cf cx B σ h) v y):Rp (cf cx B σ' h') v y:=
 G_mono (C:=cf cx B σ h) (C':=cf cx B σ' h') rfl (x.kept (cx:=cx) (B:=B)) true v y (fun e=>by contradiction) r
theorem Step.rpL (x:Step σ h σ' h') {l:List V} {ys:List Value} (r:RpL (cf cx B σ h) l ys):RpL (cf cx B σ' h') l ys:=
 GL_mono (C:=cf cx B σ h) (C':=cf cx B σ' h') rfl (x.kept (cx:=cx) (B:=B)) l ys r
theorem rp_less {B':Addr→Prop} (hB:∀ a,B a→B' a) {v:V} {y:Value} (r:Rp (cf cx B' σ h) v y):Rp (cf cx B σ h) v y:=
 G_mono (C:=cf cx B' σ h) (C':=cf cx B σ h) rfl (fun a o hb e=>⟨e,fun q=>hb (Or.elim q (fun q=>.inl (hB a q)) .inr)⟩) true v y (fun e=>by contradiction) r
end
noncomputable def Store.set (σ:Store) (a:Addr) (v:V):Store:=fun b=>if b=a then some v else σ b
noncomputable def Store.del (σ:Store) (a:Addr):Store:=fun b=>if b=a then none else σ b
section
variable {cx:Cx} {B:Addr→Prop} {σ σ':Store} {s s':Shared}
theorem step_all (k:∀ b o,s.heap.get? b=some o→s'.heap.get? b=some o):Step σ s.heap σ s'.heap:=
 ⟨fun b o o_ e=>k b o e,fun o_ e=>.inl e,fun a o e=>⟨o,k a o e⟩⟩
theorem own_mono {σ₁:Store} (x:Step σ s.heap σ₁ s'.heap) {a:Addr} {v:V} (hs:G (cf cx B σ s.heap) false v (.ref a)) (ha:∀ o,s.heap.get? a=some o→s'.heap.get? a=some o) :
  G (cf cx B σ₁ s'.heap) false v (.ref a):=
 G_mono (C:=cf cx B σ s.heap) (C':=cf cx B σ₁ s'.heap) rfl (x.kept (cx:=cx) (B:=B)) false v _ (fun o_ b o e ho=>by (injection e with e;subst e);exact ha o ho) hs
theorem St.all (X:St cx B σ s) (k:∀ b o,s.heap.get? b=some o→s'.heap.get? b=some o) (hg:s'.gens=s.gens) (ho:s'.os=s.os):St cx B σ s' where
 keep b o e:=k b o (X.keep b o e)
 gens:=hg.trans X.gens
 os:=ho.trans X.os
 own a v e:=by
  obtain ⟨h1,h2,h3,h4⟩:=X.own a v e
  exact ⟨h1,h2,h3,own_mono (step_all k) h4 (k a)⟩
 alive a e:=by obtain ⟨o,h⟩:=X.alive a e;exact ⟨o,k a o h⟩
theorem St.toks (X:St cx B σ s) (t:Nat):St cx B σ { s with toks:=t }:=X.all (fun o_ o_ e=>e) rfl rfl
theorem get_none_size (h:Heap):h.get? h.objs.size=none:=by
 rcases e:h.get? h.objs.size with _|o
 ·rfl
 ·exact absurd (Heap.lt_size e) (Nat.lt_irrefl _)
theorem St.base_none (X:St cx B σ s) {a:Addr} (e:s.heap.get? a=none):cx.h₀.get? a=none:=by
 rcases q:cx.h₀.get? a with _|o
 ·rfl
 ·rw [X.keep a o q] at e;contradiction
theorem G_sh {C:Cf} {f:Bool} {v:V} {x:Value} (h:G C f v x):(∃ a o,x=.ref a∧C.h.get? a=some o∧∀ f',(f'=true→¬ C.bad a)→G C f' v x)∨v.isMut=false∧∀ f',G C f' v x:=by
 cases v
 case tup=>obtain ⟨a,i,n,e,hb,ho,r⟩:=h;exact .inl ⟨a,_,e,ho,fun f' h'=>⟨a,i,n,e,h',ho,r⟩⟩
 case lst=>obtain ⟨a,i,n,e,hb,ho,r⟩:=h;exact .inl ⟨a,_,e,ho,fun f' h'=>⟨a,i,n,e,h',ho,r⟩⟩
 case dI=>obtain ⟨a,i,n,e,hb,ho,r,q⟩:=h;exact .inl ⟨a,_,e,ho,fun f' h'=>⟨a,i,n,e,h',ho,r,q⟩⟩
 case dS=>obtain ⟨a,i,n,e,hb,ho,r,q⟩:=h;exact .inl ⟨a,_,e,ho,fun f' h'=>⟨a,i,n,e,h',ho,r,q⟩⟩
 case dT=>obtain ⟨a,i,n,e,hb,ho,r,q⟩:=h;exact .inl ⟨a,_,e,ho,fun f' h'=>⟨a,i,n,e,h',ho,r,q⟩⟩
 case fld=>obtain ⟨a,i,n,e,hb,ho,r⟩:=h;exact .inl ⟨a,_,e,ho,fun f' h'=>⟨a,i,n,e,h',ho,r⟩⟩
 case sI=>obtain ⟨a,i,n,m,e,hb,ho,r,q,z⟩:=h;exact .inl ⟨a,_,e,ho,fun f' h'=>⟨a,i,n,m,e,h',ho,r,q,z⟩⟩
 case sT=>obtain ⟨a,i,n,m,e,hb,ho,r,q,z⟩:=h;exact .inl ⟨a,_,e,ho,fun f' h'=>⟨a,i,n,m,e,h',ho,r,q,z⟩⟩
 case inst=>obtain ⟨a,i,e,hb,ho,r⟩:=h;exact .inl ⟨a,_,e,ho,fun f' h'=>⟨a,i,e,h',ho,r⟩⟩
 all_goals exact .inr ⟨rfl,fun o_=>h⟩
theorem G_alive {C:Cf} {f:Bool} {v:V} {a:Addr} (h:G C f v (.ref a)) (hm:v.isMut=true):∃ o,C.h.get? a=some o:=by
 rcases G_sh h with ⟨b,o,e,ho,-⟩|⟨q,-⟩
 ·(injection e with e;subst e);exact ⟨o,ho⟩
 ·rw [q] at hm;contradiction
theorem St.dom_some (X:St cx B σ s) {a:Addr} {v:V} (e:σ a=some v):∃ o,s.heap.get? a=some o:=G_alive (X.own a v e).2.2.2 (X.own a v e).2.2.1
theorem St.new_none (X:St cx B σ s) {a:Addr} (e:s.heap.get? a=none):σ a=none:=by
 rcases q:σ a with _|v
 ·rfl
 ·obtain ⟨o,ho⟩:=X.dom_some q;rw [ho] at e;contradiction
theorem new_step (X:St cx B σ s) (k:∀ b o,s.heap.get? b=some o→s'.heap.get? b=some o) {a:Addr} {v:V} (ha:s.heap.get? a=none):Step σ s.heap (σ.set a v) s'.heap:=
 ⟨fun b o o_ e=>k b o e,fun b e=>by
  by_cases q:b=a
  ·subst q;exact .inr ha
  ·exact .inl (by simpa [Store.set,q] using e),fun a o e=>⟨o,k a o e⟩⟩
theorem St.new (X:St cx B σ s) (k:∀ b o,s.heap.get? b=some o→s'.heap.get? b=some o) (hg:s'.gens=s.gens) (ho:s'.os=s.os) {a:Addr} {v:V} (ha:s.heap.get? a=none) (hB:¬ B a)
  (hm:v.isMut=true) (hv:G (cf cx B (σ.set a v) s'.heap) false v (.ref a)):St cx B (σ.set a v) s' where
 keep b o e:=k b o (X.keep b o e)
 gens:=hg.trans X.gens
 os:=ho.trans X.os
 own b u e:=by
  by_cases q:b=a
  ·subst q
   simp only [Store.set,if_true] at e
   (injection e with e;subst e)
   exact ⟨hB,X.base_none ha,hm,hv⟩
  ·simp only [Store.set,q,if_false] at e
   obtain ⟨h1,h2,h3,h4⟩:=X.own b u e
   exact ⟨h1,h2,h3,own_mono (new_step X k ha) h4 (k b)⟩
 alive a e:=by obtain ⟨o,h⟩:=X.alive a e;exact ⟨o,k a o h⟩
theorem set_step {a:Addr} {v v':V} (e:σ a=some v) (la:∃ o,s'.heap.get? a=some o) (k:∀ b o,b≠a→s.heap.get? b=some o→s'.heap.get? b=some o):Step σ s.heap (σ.set a v') s'.heap:=
 ⟨fun b o hb q=>k b o (fun z=>by subst z;rw [e] at hb;contradiction) q,fun b q=>by
  by_cases z:b=a
  ·subst z;exact .inl (by rw [e];exact fun x=>by contradiction)
  ·exact .inl (by simpa [Store.set,z] using q),fun b o q=>by
  by_cases z:b=a
  ·subst z;exact la
  ·exact ⟨o,k b o z q⟩⟩
theorem St.set (X:St cx B σ s) {a:Addr} {v v':V} (e:σ a=some v) (k:∀ b o,b≠a→s.heap.get? b=some o→s'.heap.get? b=some o) (hg:s'.gens=s.gens) (ho:s'.os=s.os)
  (hm:v'.isMut=true) (hv:G (cf cx B (σ.set a v') s'.heap) false v' (.ref a)):St cx B (σ.set a v') s' where
 keep b o q:=k b o (fun z=>by subst z;rw [(X.own _ _ e).2.1] at q;contradiction) (X.keep b o q)
 gens:=hg.trans X.gens
 os:=ho.trans X.os
 own b u q:=by
  by_cases z:b=a
  ·subst z
   simp only [Store.set,if_true] at q
   (injection q with q;subst q)
   exact ⟨(X.own _ _ e).1,(X.own _ _ e).2.1,hm,hv⟩
  ·simp only [Store.set,z,if_false] at q
   obtain ⟨h1,h2,h3,h4⟩:=X.own b u q
   exact ⟨h1,h2,h3,own_mono (set_step e (G_alive hv hm) k) h4 (fun o ho=>k b o z ho)⟩
 alive b hb:=by obtain ⟨o,h⟩:=X.alive b hb;exact ⟨o,k b o (fun z=>by subst z;exact (X.own _ _ e).1 hb) h⟩
theorem less_step (h:Heap) (hs:∀ a,σ' a=none∨σ' a=σ a):Step σ h σ' h:=
 ⟨fun o_ o_ o_ e=>e,fun a e=>.inl ((hs a).elim (fun q=>absurd q e) fun q=>q▸e),fun o_ o e=>⟨o,e⟩⟩
theorem St.less (X:St cx B σ s) (hs:∀ a,σ' a=none∨σ' a=σ a):St cx B σ' s where
 keep:=X.keep
 gens:=X.gens
 os:=X.os
 own b u e:=by
  obtain ⟨h1,h2,h3,h4⟩:=X.own b u ((hs b).elim (fun q=>by rw [q] at e;contradiction) fun q=>q▸e)
  exact ⟨h1,h2,h3,own_mono (s':=s) (less_step s.heap hs) h4 fun o_ e=>e⟩
 alive:=X.alive
theorem del_less (σ:Store) (a:Addr):∀ b,σ.del a b=none∨σ.del a b=σ b:=fun b=>by
 by_cases q:b=a
 ·exact .inl (by simp [Store.del,q])
 ·exact .inr (by simp [Store.del,q])
theorem G_fz {C:Cf} {v:V} {a:Addr} (h:G C false v (.ref a)) (hb:¬ C.bad a):G C true v (.ref a):=by
 rcases G_sh h with ⟨b,o,e,ho,k⟩|⟨-,q⟩
 ·(injection e with e;subst e);exact k true fun o_=>hb
 ·exact q true
theorem St.freeze (X:St cx B σ s) {a:Addr} {v:V} (e:σ a=some v):St cx B (σ.del a) s∧Step σ s.heap (σ.del a) s.heap∧Rp (cf cx B (σ.del a) s.heap) v (.ref a):=by
 obtain ⟨h1,h2,h3,h4⟩:=X.own a v e
 refine ⟨X.less (del_less σ a),less_step s.heap (del_less σ a),G_fz (own_mono (s':=s) (less_step s.heap (del_less σ a)) h4 fun o_ e=>e) ?_⟩
 rintro (q|q)
 ·exact h1 q
 ·exact q (by simp [Store.del])
end
noncomputable def lk (σ:Store):V→Option V
 | .ref a=>σ a
 | v=>some v
section
variable {cx:Cx} {B:Addr→Prop} {σ σ':Store} {s s':Shared} {f:Bool}
theorem G_any {C:Cf} {f:Bool} {v:V} {x:Value} (h:G C f v x):G C false v x:=by
 rcases G_sh h with ⟨a,o,-,-,k⟩|⟨-,q⟩
 ·exact k false (fun z=>by contradiction)
 ·exact q false
theorem looked (X:St cx B σ s) {v c:V} {x:Value} (r:Rp (cf cx B σ s.heap) v x) (e:lk σ v=some c) (hc:∀ a,c≠.ref a):G (cf cx B σ s.heap) false c x:=by
 cases v with
 | ref a=>
  have r:x=.ref a:=r
  subst r
  exact (X.own a c e).2.2.2
 | _=>(obtain rfl:=Option.some.inj e;exact G_any r)
end
inductive CellOk (cx:Cx) (B:Addr→Prop) (σ:Store) (env:Env) (h:Heap) (Γ:Str→Option V) (x:Str):Prop
 | mk (c:Addr) (cv:Option Value) (h1:env.cells.lookup x=some c) (h2:B c) (h3:cx.h₀.get? c=none) (h4:h.IsCell c cv) (h5:∀ v,Γ x=some v→∃ y,cv=some y∧Rp (cf cx B σ h) v y)
structure EnvOk (cx:Cx) (sc:Scope) (Γ:Str→Option V) (B:Addr→Prop) (σ:Store) (env:Env) (h:Heap):Prop where
 sc_:env.scope=sc
 kind:sc.kind=.function
 gl:env.globals=mainGlobals
 bi:env.builtins=builtinsNs
 ownL:B env.locals
 newL:cx.h₀.get? env.locals=none
 ns:∃ m,h.Ns env.locals m∧∀ x v,Γ x=some v→sc.names.lookup x=some .local→∃ y,m x=some y∧Rp (cf cx B σ h) v y
 cells:∀ x,(sc.names.lookup x=some .cell∨sc.names.lookup x=some .free)→CellOk cx B σ env h Γ x
 apart:∀ x y c,env.cells.lookup x=some c→env.cells.lookup y=some c→x=y
noncomputable def Rd (n:Nat) (A:Around):Prop:=A.handled=none∧A.depth+n<1000∧A.units+8*n+100<9900
section
variable {cx:Cx} {B:Addr→Prop} {σ σ':Store} {s s':Shared} {h h':Heap} {sc:Scope} {Γ:Str→Option V} {env:Env}
theorem EnvOk.step (E:EnvOk cx sc Γ B σ env h) (hB:∀ a,B a→σ a=none) (x:Step σ h σ' h'):EnvOk cx sc Γ B σ' env h' where
 sc_:=E.sc_
 kind:=E.kind
 gl:=E.gl
 bi:=E.bi
 ownL:=E.ownL
 newL:=E.newL
 ns:=by
  obtain ⟨m,⟨o,es,ep,ho,r⟩,hm⟩:=E.ns
  exact ⟨m,⟨o,es,ep,x.keep _ _ (hB _ E.ownL) ho,r⟩,fun y v e l=>by obtain ⟨z,h1,h2⟩:=hm y v e l;exact ⟨z,h1,x.rp h2⟩⟩
 cells y hy:=by
  obtain ⟨c,cv,h1,h2,h3,⟨o,ho,hd⟩,h4⟩:=E.cells y hy
  exact ⟨c,cv,h1,h2,h3,⟨o,x.keep _ _ (hB _ h2) ho,hd⟩,fun v e=>by obtain ⟨z,h1,h2⟩:=h4 v e;exact ⟨z,h1,x.rp h2⟩⟩
 apart:=E.apart
theorem St.shut (X:St cx B σ s):∀ a,B a→σ a=none:=fun a hb=>by
 rcases e:σ a with _|v
 ·rfl
 ·exact absurd hb (X.own a v e).1
end
noncomputable def ownOf' (env:Env) (sc:Scope) (a:Addr):Prop:=a=env.locals∨∃ x,sc.names.lookup x=some .cell∧env.cells.lookup x=some a
structure StepX (own:Addr→Prop) (σ:Store) (h:Heap) (σ':Store) (h':Heap):Prop where
 keep:∀ b o,σ b=none→¬ own b→h.get? b=some o→h'.get? b=some o
 dom:∀ a,σ' a≠none→σ a≠none∨h.get? a=none
 live:∀ a o,h.get? a=some o→∃ o',h'.get? a=some o'
theorem Step.toX {own:Addr→Prop} {σ σ':Store} {h h':Heap} (x:Step σ h σ' h') (_hs:∀ a,own a→σ a=none):StepX own σ h σ' h':=
 ⟨fun b o hb o_ e=>x.keep b o hb e,x.dom,x.live⟩
theorem StepX.stay {own:Addr→Prop} {σ σ':Store} {h h':Heap} (x:StepX own σ h σ' h') {b:Addr} {o:Obj} (hb:σ b=none) (e:h.get? b=some o):σ' b=none:=by
 refine Classical.byContradiction fun q=>?_
 rcases x.dom b q with q|q
 ·exact q hb
 ·rw [e] at q;contradiction
theorem StepX.trans {own:Addr→Prop} {σ σ₁ σ₂:Store} {h h₁ h₂:Heap} (x:StepX own σ h σ₁ h₁) (y:StepX own σ₁ h₁ σ₂ h₂):StepX own σ h σ₂ h₂ where
 keep b o hb q e:=y.keep b o (x.stay hb e) q (x.keep b o hb q e)
 dom a q:=by
  rcases y.dom a q with q|q
  ·exact x.dom a q
  ·right
   rcases e:h.get? a with _|o
   ·rfl
   ·obtain ⟨o',e'⟩:=x.live a o e;rw [e'] at q;contradiction
 live a o e:=by obtain ⟨o',e'⟩:=x.live a o e;exact y.live a o' e'
theorem StepX.wide {own own':Addr→Prop} {σ σ':Store} {h h':Heap} (x:StepX own σ h σ' h') (hle:∀ a,own a→own' a):StepX own' σ h σ' h':=
 ⟨fun b o hb q e=>x.keep b o hb (fun z=>q (hle b z)) e,x.dom,x.live⟩
section
variable {cx:Cx} {B own:Addr→Prop} {σ σ':Store} {s s':Shared} {h h':Heap}
theorem StepX.kept (x:StepX own σ h σ' h') (ho:∀ a,own a→B a):∀ a o,¬ (cf cx B σ h).bad a→(cf cx B σ h).h.get? a=some o→(cf cx B σ' h').h.get? a=some o∧¬ (cf cx B σ' h').bad a:=by
 intro a o hb e
 have hb':¬ (B a∨σ a≠none):=hb
 have n:σ a=none:=Classical.byContradiction fun q=>hb' (.inr q)
 refine ⟨x.keep a o n (fun q=>hb' (.inl (ho a q))) e,?_⟩
 rintro (q|q)
 ·exact hb' (.inl q)
 ·exact q (x.stay n e)
theorem StepX.rp (x:StepX own σ h σ' h') (ho:∀ a,own a→B a) {v:V} {y:Value} (r:Rp (cf cx B σ h) v y):Rp (cf cx B σ' h') v y:=
 G_mono (C:=cf cx B σ h) (C':=cf cx B σ' h') rfl (x.kept (cx:=cx) (B:=B) ho) true v y (fun e=>by contradiction) r
theorem StepX.rpL (x:StepX own σ h σ' h') (ho:∀ a,own a→B a) {v:List V} {y:List Value} (r:RpL (cf cx B σ h) v y):RpL (cf cx B σ' h') v y:=
 GL_mono (C:=cf cx B σ h) (C':=cf cx B σ' h') rfl (x.kept (cx:=cx) (B:=B) ho) v y r
theorem own_monoX {a:Addr} {v:V} (x:StepX own σ h σ' h') (ho:∀ a,own a→B a) (hs:G (cf cx B σ h) false v (.ref a)) (ha:∀ o,h.get? a=some o→h'.get? a=some o) :
  G (cf cx B σ' h') false v (.ref a):=
 G_mono (C:=cf cx B σ h) (C':=cf cx B σ' h') rfl (x.kept (cx:=cx) (B:=B) ho) false v _ (fun o_ b o e ho=>by (injection e with e;subst e);exact ha o ho) hs
theorem St.frame (X:St cx B σ s) (ho:∀ a,own a→B a∧cx.h₀.get? a=none∧∃ o,s'.heap.get? a=some o) (k:∀ b o,¬ own b→s.heap.get? b=some o→s'.heap.get? b=some o) (hg:s'.gens=s.gens) (hos:s'.os=s.os) :
  St cx B σ s'∧StepX own σ s.heap σ s'.heap:=by
 have S:StepX own σ s.heap σ s'.heap:=⟨fun b o o_ q e=>k b o q e,fun o_ e=>.inl e,fun a o e=>by
  by_cases q:own a
  ·exact (ho a q).2.2
  ·exact ⟨o,k a o q e⟩⟩
 refine ⟨⟨fun b o e=>k b o (fun q=>by rw [(ho b q).2.1] at e;contradiction) (X.keep b o e),hg.trans X.gens,hos.trans X.os,fun a v e=>?_,fun a q=>?_⟩,S⟩
 ·obtain ⟨h1,h2,h3,h4⟩:=X.own a v e
  exact ⟨h1,h2,h3,own_monoX S (fun a q=>(ho a q).1) h4 (fun o q=>k a o (fun q=>h1 (ho a q).1) q)⟩
 ·by_cases w:own a
  ·exact (ho a w).2.2
  ·obtain ⟨o,e⟩:=X.alive a q;exact ⟨o,k a o w e⟩
theorem St.setX (X:St cx B σ s) {a:Addr} {v v':V} (e:σ a=some v) (ho:∀ a,own a→B a∧cx.h₀.get? a=none∧∃ o,s'.heap.get? a=some o) (k:∀ b o,b≠a→¬ own b→s.heap.get? b=some o→s'.heap.get? b=some o) (hg:s'.gens=s.gens) (hos:s'.os=s.os)
  (hm:v'.isMut=true) (la:∃ o,s'.heap.get? a=some o) (hv:StepX own σ s.heap (σ.set a v') s'.heap→G (cf cx B (σ.set a v') s'.heap) false v' (.ref a)):St cx B (σ.set a v') s'∧StepX own σ s.heap (σ.set a v') s'.heap:=by
 have S:StepX own σ s.heap (σ.set a v') s'.heap:=⟨fun b o hb q z=>k b o (fun w=>by subst w;rw [e] at hb;contradiction) q z,fun b q=>by
  by_cases z:b=a
  ·subst z;exact .inl (by rw [e];exact fun x=>by contradiction)
  ·exact .inl (by simpa [Store.set,z] using q),fun b o e=>by
  by_cases q:own b
  ·exact (ho b q).2.2
  ·by_cases z:b=a
   ·subst z;exact la
   ·exact ⟨o,k b o z q e⟩⟩
 refine ⟨⟨fun b o q=>k b o (fun z=>by subst z;rw [(X.own _ _ e).2.1] at q;contradiction) (fun z=>by rw [(ho b z).2.1] at q;contradiction) (X.keep b o q),hg.trans X.gens,hos.trans X.os,fun b u q=>?_,fun b q=>?_⟩,S⟩
 ·by_cases z:b=a
  ·subst z
   simp only [Store.set,if_true] at q
   (injection q with q;subst q)
   exact ⟨(X.own _ _ e).1,(X.own _ _ e).2.1,hm,hv S⟩
  ·simp only [Store.set,z,if_false] at q
   obtain ⟨h1,h2,h3,h4⟩:=X.own b u q
   exact ⟨h1,h2,h3,own_monoX S (fun a q=>(ho a q).1) h4 (fun o w=>k b o z (fun q=>h1 (ho b q).1) w)⟩
 ·by_cases w:own b
  ·exact (ho b w).2.2
  ·obtain ⟨o,z⟩:=X.alive b q;exact ⟨o,k b o (fun z=>by subst z;exact (X.own _ _ e).1 q) w z⟩
end
theorem StepX.wider {own own':Addr→Prop} {σ σ':Store} {h h':Heap} (x:StepX own σ h σ' h') (hle:∀ a,own a→own' a) (hs:∀ a,own' a→σ a=none):StepX own' σ h σ' h' where
 keep b o hb q e:=x.keep b o hb (fun z=>q (hle b z)) e
 dom:=x.dom
 live:=x.live
section
variable {cx:Cx} {B own:Addr→Prop} {σ σ':Store} {s s':Shared} {h h':Heap} {sc:Scope} {Γ:Str→Option V} {env:Env}
theorem EnvOk.own_B (E:EnvOk cx sc Γ B σ env h):∀ a,ownOf' env sc a→B a∧cx.h₀.get? a=none∧∃ o,h.get? a=some o:=by
 rintro a (rfl|⟨x,hx,hc⟩)
 ·obtain ⟨m,⟨o,_,_,ho,_⟩,_⟩:=E.ns
  exact ⟨E.ownL,E.newL,o,ho⟩
 ·obtain ⟨c,cv,h1,h2,h3,⟨o,ho,_⟩,_⟩:=E.cells x (.inl hx)
  rw [h1] at hc;(injection hc with hc;subst hc)
  exact ⟨h2,h3,o,ho⟩
theorem EnvOk.cell_ne (E:EnvOk cx sc Γ B σ env h) {c:Addr} {cv:Option Value} (hc:h.IsCell c cv):c≠env.locals:=by
 rintro rfl
 obtain ⟨m,⟨o,es,ep,ho,hd,_⟩,_⟩:=E.ns
 obtain ⟨o',ho',hd'⟩:=hc
 rw [ho] at ho';cases ho';rw [hd] at hd';cases hd'
theorem EnvOk.stepL (E:EnvOk cx sc Γ B σ env h) (hB:∀ a,B a→σ a=none) (x:StepX (fun a=>a=env.locals) σ h σ' h') (hn:∀ m,h.Ns env.locals m→h'.Ns env.locals m):EnvOk cx sc Γ B σ' env h' where
 sc_:=E.sc_
 kind:=E.kind
 gl:=E.gl
 bi:=E.bi
 ownL:=E.ownL
 newL:=E.newL
 ns:=by
  obtain ⟨m,h1,h2⟩:=E.ns
  exact ⟨m,hn m h1,fun y v e l=>by obtain ⟨z,a,b⟩:=h2 y v e l;exact ⟨z,a,x.rp (fun a q=>q▸E.ownL) b⟩⟩
 cells y hy:=by
  obtain ⟨c,cv,h1,h2,h3,hc,h4⟩:=E.cells y hy
  have:=E.cell_ne hc
  obtain ⟨o,ho,hd⟩:=hc
  exact ⟨c,cv,h1,h2,h3,⟨o,x.keep _ _ (hB _ h2) this ho,hd⟩,fun v e=>by obtain ⟨z,a,b⟩:=h4 v e;exact ⟨z,a,x.rp (fun a q=>q▸E.ownL) b⟩⟩
 apart:=E.apart
end
noncomputable abbrev NoE:Value→Shared→Prop:=fun o_ o_=>False
inductive Out (cx:Cx) (B:Addr→Prop) (σ:Store) (h:Heap) (Q:V→Store→Prop) (x:Value) (s':Shared):Prop
 | mk (v:V) (σ':Store) (X:St cx B σ' s') (S:Step σ h σ' s'.heap) (r:Rp (cf cx B σ' s'.heap) v x) (q:Q v σ')
inductive OutB (cx:Cx) (B:Addr→Prop) (σ:Store) (h:Heap) (Q:Bool→Store→Prop) (b:Bool) (s':Shared):Prop
 | mk (σ':Store) (X:St cx B σ' s') (S:Step σ h σ' s'.heap) (q:Q b σ')
noncomputable def Ev (cx:Cx) (n:Nat) (sc:Scope) (Γ:Str→Option V) (σ:Store) (e:Expr) (Q:V→Store→Prop):Prop:=
 ∀ (B:Addr→Prop) (env:Env) (A:Around) (s:Shared),Rd n A→St cx B σ s→EnvOk cx sc Γ B σ env s.heap →
  wpAny (model cx.prog cx.w) A (eval e env) (Out cx B σ s.heap Q) NoE s
noncomputable def Cl (cx:Cx) (n:Nat) (σ:Store) (f:Value) (args:List V) (Q:V→Store→Prop):Prop:=
 ∀ (B:Addr→Prop) (A:Around) (s:Shared) (xs:List Value),Rd n A→St cx B σ s→RpL (cf cx B σ s.heap) args xs →
  wpAny (model cx.prog cx.w) A (call f xs) (Out cx B σ s.heap Q) NoE s
inductive Fl where
 | next | brk | cont
 | ret (v:V)
noncomputable def FlIs (C:Cf):Fl→Flow→Prop
 | .next,f=>f=.next
 | .brk,f=>f=.brk
 | .cont,f=>f=.cont
 | .ret v,f=>∃ x,f=.ret x∧Rp C v x
inductive OutX (cx:Cx) (B:Addr→Prop) (sc:Scope) (env:Env) (σ:Store) (h:Heap) (Q:Fl→(Str→Option V)→Store→Prop) (f:Flow) (s':Shared):Prop
 | mk (φ:Fl) (Γ':Str→Option V) (σ':Store) (X:St cx B σ' s') (E:EnvOk cx sc Γ' B σ' env s'.heap) (S:StepX (ownOf' env sc) σ h σ' s'.heap) (r:FlIs (cf cx B σ' s'.heap) φ f) (q:Q φ Γ' σ')
noncomputable def Exs (cx:Cx) (n:Nat) (sc:Scope) (Γ:Str→Option V) (σ:Store) (ss:List Stmt) (Q:Fl→(Str→Option V)→Store→Prop):Prop:=
 ∀ (B:Addr→Prop) (env:Env) (A:Around) (s:Shared),Rd n A→St cx B σ s→EnvOk cx sc Γ B σ env s.heap →
  wpAny (model cx.prog cx.w) A (execs ss env) (OutX cx B sc env σ s.heap Q) NoE s
noncomputable def Ex (cx:Cx) (n:Nat) (sc:Scope) (Γ:Str→Option V) (σ:Store) (st:Stmt) (Q:Fl→(Str→Option V)→Store→Prop):Prop:=
 ∀ (B:Addr→Prop) (env:Env) (A:Around) (s:Shared),Rd n A→St cx B σ s→EnvOk cx sc Γ B σ env s.heap →
  wpAny (model cx.prog cx.w) A (exec st env) (OutX cx B sc env σ s.heap Q) NoE s
noncomputable def Te (cx:Cx) (n:Nat) (sc:Scope) (Γ:Str→Option V) (σ:Store) (e:Expr) (Q:Bool→Store→Prop):Prop:=
 ∀ (B:Addr→Prop) (env:Env) (A:Around) (s:Shared),Rd n A→St cx B σ s→EnvOk cx sc Γ B σ env s.heap →
  wpAny (model cx.prog cx.w) A (isTrue e env (eval e env)) (OutB cx B σ s.heap Q) NoE s
theorem Out.pre {cx:Cx} {B:Addr→Prop} {σ σ₁:Store} {h h₁:Heap} {Q:V→Store→Prop} {x:Value} {s':Shared} (S:Step σ h σ₁ h₁) (o:Out cx B σ₁ h₁ Q x s'):Out cx B σ h Q x s':=
 by obtain ⟨v,σ',a,b,c,d⟩:=o;exact ⟨v,σ',a,S.trans b,c,d⟩
theorem Out.mono {cx:Cx} {B:Addr→Prop} {σ:Store} {h:Heap} {Q Q':V→Store→Prop} {x:Value} {s':Shared} (hq:∀ v σ',Q v σ'→Q' v σ') (o:Out cx B σ h Q x s'):Out cx B σ h Q' x s':=
 by obtain ⟨v,σ',a,b,c,d⟩:=o;exact ⟨v,σ',a,b,c,hq _ _ d⟩
theorem Ev.mono {cx:Cx} {n:Nat} {sc:Scope} {Γ:Str→Option V} {σ:Store} {e:Expr} {Q Q':V→Store→Prop} (h:Ev cx n sc Γ σ e Q) (hq:∀ v σ',Q v σ'→Q' v σ'):Ev cx n sc Γ σ e Q':=
 fun B env A s r X E=>wpAny_mono (h B env A s r X E) (fun o_ o_ o=>o.mono hq) fun o_ o_ x=>x
section
variable {cx:Cx} {n:Nat} {sc:Scope} {Γ:Str→Option V} {σ:Store} {Q:V→Store→Prop} {B:Addr→Prop} {s:Shared} {A:Around}
theorem out_here (X:St cx B σ s) {v:V} {x:Value} (r:Rp (cf cx B σ s.heap) v x) (h:Q v σ):Out cx B σ s.heap Q x s:=⟨v,σ,X,Step.refl _ _,r,h⟩
theorem out_tok (X:St cx B σ s) {v:V} {x:Value} {t:Nat} (r:Rp (cf cx B σ s.heap) v x) (h:Q v σ):Out cx B σ s.heap Q x { s with toks:=t }:=⟨v,σ,X.toks t,Step.refl _ _,r,h⟩
theorem rp_int {C:Cf} (i:Int) (t:Tok):Rp C (.int i) (.int i t):=⟨t,rfl⟩
theorem rp_str {C:Cf} (x:Str) (t:Tok):Rp C (.str x) (.str x t):=⟨t,rfl⟩
theorem rp_bool {C:Cf} (b:Bool):Rp C (.bool b) (.bool b):=rfl
theorem rp_none {C:Cf}:Rp C .none .none:=rfl
theorem rp_ref {C:Cf} (a:Addr):Rp C (.ref a) (.ref a):=rfl
theorem of_int {C:Cf} {f:Bool} {i:Int} {x:Value} (h:G C f (.int i) x):∃ t,x=.int i t:=h
theorem of_str {C:Cf} {f:Bool} {i:Str} {x:Value} (h:G C f (.str i) x):∃ t,x=.str i t:=h
theorem of_bool {C:Cf} {f:Bool} {b:Bool} {x:Value} (h:G C f (.bool b) x):x=.bool b:=h
theorem of_none {C:Cf} {f:Bool} {x:Value} (h:G C f .none x):x=.none:=h
theorem of_ref {C:Cf} {f:Bool} {a:Addr} {x:Value} (h:G C f (.ref a) x):x=.ref a:=h
theorem Ev_int {i:Int} {k:Nat} {pos:Pos} (h:Q (.int i) σ):Ev cx n sc Γ σ (.Constant (.int i) k pos) Q:=fun B env A s r X E=>by
 show wpAny _ A (mkInt i) _ _ s
 exact fun o_ o_ o_=>out_tok X (rp_int i _) h
theorem Ev_str {x:Str} {k:Nat} {pos:Pos} (h:Q (.str x) σ):Ev cx n sc Γ σ (.Constant (.str x) k pos) Q:=fun B env A s r X E=>
 Constant_str (out_tok X (rp_str x _) h)
theorem Ev_none {k:Nat} {pos:Pos} (h:Q .none σ):Ev cx n sc Γ σ (.Constant .none k pos) Q:=fun B env A s r X E=>by
 show wpAny _ A (pure Value.none) _ _ s
 exact wpAny_pure (out_here X rp_none h)
theorem Ev_bool {b:Bool} {k:Nat} {pos:Pos} (h:Q (.bool b) σ):Ev cx n sc Γ σ (.Constant (.bool b) k pos) Q:=fun B env A s r X E=>by
 show wpAny _ A (pure (Value.bool b)) _ _ s
 exact wpAny_pure (out_here X (rp_bool b) h)
theorem Ev_name {x:Str} {pos:Pos} {v:V} (hk:sc.names.lookup x=some .local∨sc.names.lookup x=some .cell∨sc.names.lookup x=some .free) (hv:Γ x=some v) (h:Q v σ)
  (hd:(x==("__debug__" : Str))=false:=by decide) (hc:(x==("__classdict__" : Str))=false:=by decide):Ev cx n sc Γ σ (.Name x pos) Q:=fun B env A s r X E=>by
 have ek:env.scope.kind=.function:=by rw [E.sc_];exact E.kind
 have eo:env.kindOf x=sc.names.lookup x:=by unfold Env.kindOf;rw [E.sc_]
 refine wpAny_Name ?_ hd
 rcases hk with hk|hk|hk
 ·obtain ⟨m,hm,hx⟩:=E.ns
  obtain ⟨y,hy,hr⟩:=hx x v hv hk
  exact wpAny_loadName_local ek (eo.trans hk) hm hy (out_here X hr h)
 ·obtain ⟨c,cv,h1,_,_,h3,h4⟩:=E.cells x (.inl hk)
  obtain ⟨y,rfl,hr⟩:=h4 v hv
  exact wpAny_loadName_cell ek (eo.trans hk) h1 h3 (out_here X hr h)
 ·obtain ⟨c,cv,h1,_,_,h3,h4⟩:=E.cells x (.inr hk)
  obtain ⟨y,rfl,hr⟩:=h4 v hv
  exact wpAny_loadName_free ek (eo.trans hk) h1 h3 (out_here X hr h) hc
noncomputable def GlobIs (cx:Cx) (x:Str) (v:Value):Prop:=nsIn cx.K mainGlobals x=some (some v)∨(nsIn cx.K mainGlobals x=some none∧bootBuiltins x=some v∧x ≠ "__name__")
theorem glob_name {x:Str} {pos:Pos} {v:Value} {env:Env} {P:Value→Shared→Prop} {Er:Value→Shared→Prop} (X:St cx B σ s) (E:EnvOk cx sc Γ B σ env s.heap) (hk:sc.names.lookup x=some .globalImplicit) (hv:GlobIs cx x v) (h:P v s)
  (hd:(x==("__debug__" : Str))=false:=by decide):wpAny (model cx.prog cx.w) A (eval (.Name x pos) env) P Er s:=by
 have ek:env.scope.kind=.function:=by rw [E.sc_];exact E.kind
 have eo:env.kindOf x=some .globalImplicit:=by unfold Env.kindOf;rw [E.sc_];exact hk
 refine Name_function_global ek eo ?_ hd
 have g:s.heap.Ns env.globals cx.mg:=by rw [E.gl];exact cx.g.keeps X.keep
 have b:s.heap.Ns env.builtins cx.mb:=by rw [E.bi];exact cx.b.keeps X.keep
 rcases hv with e|⟨e,e2,e3⟩
 ·exact loadGlobal_global g (mg_of cx.X cx.g e) h
 ·exact loadGlobal_builtin g (mg_none_of cx.X cx.g e) b ((cx.builtins x e3).trans e2) h
noncomputable def notStar:Expr→Bool
 | .Starred ..=>false
 | _=>true
noncomputable def EvL (cx:Cx) (n:Nat) (sc:Scope) (Γ:Str→Option V):Store→List Expr→(List V→Store→Prop)→Prop
 | σ,[],Q=>Q [] σ
 | σ,e::r,Q=>notStar e=true∧Ev cx n sc Γ σ e fun v σ₁=>EvL cx n sc Γ σ₁ r fun vs σ₂=>Q (v::vs) σ₂
inductive OutL (cx:Cx) (B:Addr→Prop) (σ:Store) (h:Heap) (Q:List V→Store→Prop) (xs:List Value) (s':Shared):Prop
 | mk (vs:List V) (σ':Store) (X:St cx B σ' s') (S:Step σ h σ' s'.heap) (r:RpL (cf cx B σ' s'.heap) vs xs) (q:Q vs σ')
theorem starEach_cons {e:Expr} {r:List Expr} {env:Env} (h:notStar e=true):starEach (e::r) env=(false,eval e env)::starEach r env:=by
 cases e <;> first | rfl | contradiction
theorem EvL.run {es:List Expr} {Q:List V→Store→Prop} {pos:Pos}:∀ {σ:Store},EvL cx n sc Γ σ es Q→∀ (B:Addr→Prop) (env:Env) (A:Around) (s:Shared),Rd n A→St cx B σ s→EnvOk cx sc Γ B σ env s.heap →
  wpAny (model cx.prog cx.w) A (spliced (backTo pos (starEach es env))) (OutL cx B σ s.heap Q) NoE s:=by
 induction es generalizing Q with
 | nil=>intro σ h B env A s r X E;exact spliced_nil ⟨[],σ,X,Step.refl _ _,rfl,h⟩
 | cons e r ih=>
  intro σ h B env A s rd X E
  obtain ⟨hs,h⟩:=h
  rw [starEach_cons hs]
  show wpAny _ A (spliced ((false,eval e env)::backTo pos (starEach r env))) _ _ s
  refine spliced_cons (wpAny_mono (h B env A s rd X E) (fun x s₁ o=>?_) fun o_ o_ x=>x)
  obtain ⟨v,σ₁,X₁,S₁,r₁,q⟩:=o
  refine wpAny_mono (ih q B env A s₁ rd X₁ (E.step X.shut S₁)) (fun xs s₂ o=>?_) fun o_ o_ x=>x
  obtain ⟨vs,σ₂,X₂,S₂,r₂,q⟩:=o
  exact ⟨v::vs,σ₂,X₂,S₁.trans S₂,by exact ⟨x,xs,rfl,S₂.rp r₁,r₂⟩,q⟩
theorem EvL.mono {es:List Expr} {Q Q':List V→Store→Prop} (hq:∀ v σ',Q v σ'→Q' v σ'):∀ {σ:Store},EvL cx n sc Γ σ es Q→EvL cx n sc Γ σ es Q':=by
 induction es generalizing Q Q' with
 | nil=>intro σ h;exact hq _ _ h
 | cons e r ih=>intro σ h;exact ⟨h.1,h.2.mono fun v σ₁ h₁=>ih (fun o_ o_ h₂=>hq _ _ h₂) h₁⟩
theorem push_keep (h:Heap) (o:Obj):∀ b o',h.get? b=some o'→(h.push o).get? b=some o':=fun o_ o_ e=>Heap.get?_push_of_some _ e
theorem St.fresh_not (X:St cx B σ s) {a:Addr} (ha:s.heap.get? a=none):¬ B a:=fun q=>by obtain ⟨o,e⟩:=X.alive _ q;rw [ha] at e;contradiction
theorem St.fresh (X:St cx B σ s) {a:Addr} (ha:s.heap.get? a=none):¬ bad B σ a:=by
 rintro (q|q)
 ·exact X.fresh_not ha q
 ·exact q (X.new_none ha)
end
noncomputable def P1 (cx:Cx) (n:Nat) (σ:Store) (f:Value→Sem Value) (v:V) (Q:V→Store→Prop):Prop:=
 ∀ (B:Addr→Prop) (A:Around) (s:Shared) (x:Value),Rd n A→St cx B σ s→Rp (cf cx B σ s.heap) v x→wpAny (model cx.prog cx.w) A (f x) (Out cx B σ s.heap Q) NoE s
noncomputable def P2 (cx:Cx) (n:Nat) (σ:Store) (f:Value→Value→Sem Value) (v u:V) (Q:V→Store→Prop):Prop:=
 ∀ (B:Addr→Prop) (A:Around) (s:Shared) (x y:Value),Rd n A→St cx B σ s→Rp (cf cx B σ s.heap) v x→Rp (cf cx B σ s.heap) u y →
  wpAny (model cx.prog cx.w) A (f x y) (Out cx B σ s.heap Q) NoE s
theorem OutB.pre {cx:Cx} {B:Addr→Prop} {σ σ₁:Store} {h h₁:Heap} {Q:Bool→Store→Prop} {x:Bool} {s':Shared} (S:Step σ h σ₁ h₁) (o:OutB cx B σ₁ h₁ Q x s'):OutB cx B σ h Q x s':=
 by obtain ⟨σ',a,b,d⟩:=o;exact ⟨σ',a,S.trans b,d⟩
noncomputable def PT (cx:Cx) (n:Nat) (σ:Store) (v:V) (Q:Bool→Store→Prop):Prop:=
 ∀ (B:Addr→Prop) (A:Around) (s:Shared) (x:Value),Rd n A→St cx B σ s→Rp (cf cx B σ s.heap) v x→wpAny (model cx.prog cx.w) A (truthy x) (OutB cx B σ s.heap Q) NoE s
section
variable {cx:Cx} {n:Nat} {sc:Scope} {Γ:Str→Option V} {σ:Store} {Q:V→Store→Prop} {B:Addr→Prop} {s:Shared} {A:Around}
theorem Ev_two {l r:Expr} {f:Value→Value→Sem Value} (h:Ev cx n sc Γ σ l fun v σ₁=>Ev cx n sc Γ σ₁ r fun u σ₂=>P2 cx n σ₂ f v u Q) {env:Env} (rd:Rd n A) (X:St cx B σ s) (E:EnvOk cx sc Γ B σ env s.heap) :
  wpAny (model cx.prog cx.w) A (eval l env) (fun a s₁=>wpAny (model cx.prog cx.w) A (eval r env) (fun b s₂=>wpAny (model cx.prog cx.w) A (f a b) (Out cx B σ s.heap Q) NoE s₂) NoE s₁) NoE s:=by
 refine wpAny_mono (h B env A s rd X E) (fun a s₁ o=>?_) fun o_ o_ x=>x
 obtain ⟨v,σ₁,X₁,S₁,r₁,h₁⟩:=o
 refine wpAny_mono (h₁ B env A s₁ rd X₁ (E.step X.shut S₁)) (fun b s₂ o=>?_) fun o_ o_ x=>x
 obtain ⟨u,σ₂,X₂,S₂,r₂,h₂⟩:=o
 exact wpAny_mono (h₂ B A s₂ a b rd X₂ (S₂.rp r₁) r₂) (fun o_ o_ o=>o.pre (S₁.trans S₂)) fun o_ o_ x=>x
theorem Ev_bin {l r:Expr} {op:Operator} {pos:Pos} (h:Ev cx n sc Γ σ l fun v σ₁=>Ev cx n sc Γ σ₁ r fun u σ₂=>P2 cx n σ₂ (binaryOp op) v u Q):Ev cx n sc Γ σ (.BinOp l op r pos) Q:=
 fun B env A s rd X E=>wpAny_BinOp (Ev_two h rd X E)
theorem Ev_cmp {l r:Expr} {op:CmpOp} {pos:Pos} (h:Ev cx n sc Γ σ l fun v σ₁=>Ev cx n sc Γ σ₁ r fun u σ₂=>P2 cx n σ₂ (compareOp op) v u Q) (hm:behindInMarks op r=false):Ev cx n sc Γ σ (.Compare l [op] [r] pos) Q:=
 fun B env A s rd X E=>wpAny_Compare1 (Ev_two h rd X E) hm
theorem Ev_sub {value slice:Expr} {pos:Pos} (h:Ev cx n sc Γ σ value fun v σ₁=>Ev cx n sc Γ σ₁ slice fun u σ₂=>P2 cx n σ₂ (subscriptTail value slice) v u Q):Ev cx n sc Γ σ (.Subscript value slice pos) Q:=
 fun B env A s rd X E=>Subscript_ (Ev_two h rd X E)
theorem Ev_un {e:Expr} {op:UnaryOp} {pos:Pos} (h:Ev cx n sc Γ σ e fun v σ₁=>P1 cx n σ₁ (unaryOp op) v Q):Ev cx n sc Γ σ (.UnaryOp op e pos) Q:=fun B env A s rd X E=>by
 refine UnaryOp_ (wpAny_mono (h B env A s rd X E) (fun a s₁ o=>?_) fun o_ o_ x=>x)
 obtain ⟨v,σ₁,X₁,S₁,r₁,h₁⟩:=o
 exact wpAny_mono (h₁ B A s₁ a rd X₁ r₁) (fun o_ o_ o=>o.pre S₁) fun o_ o_ x=>x
theorem Ev_if {t a b:Expr} {pos:Pos} (h:Te cx n sc Γ σ t fun c σ₁=>(c=true→Ev cx n sc Γ σ₁ a Q)∧(c=false→Ev cx n sc Γ σ₁ b Q)):Ev cx n sc Γ σ (.IfExp t a b pos) Q:=fun B env A s rd X E=>by
 refine IfExp_ (wpAny_mono (h B env A s rd X E) (fun c s₁ o=>?_) fun o_ o_ x=>x)
 obtain ⟨σ₁,X₁,S₁,h1,h2⟩:=o
 rcases c with _|_
 ·exact wpAny_mono (h2 rfl B env A s₁ rd X₁ (E.step X.shut S₁)) (fun o_ o_ o=>o.pre S₁) fun o_ o_ x=>x
 ·exact wpAny_mono (h1 rfl B env A s₁ rd X₁ (E.step X.shut S₁)) (fun o_ o_ o=>o.pre S₁) fun o_ o_ x=>x
theorem Te_cmp {l r:Expr} {op:CmpOp} {pos:Pos} {Q:Bool→Store→Prop} (h:Ev cx n sc Γ σ l fun v σ₁=>Ev cx n sc Γ σ₁ r fun u σ₂=>P2 cx n σ₂ (compareOp op) v u fun c σ₃=>∃ b,c=.bool b∧Q b σ₃)
  (hm:behindInMarks op r=false):Te cx n sc Γ σ (.Compare l [op] [r] pos) Q:=fun B env A s rd X E=>by
 refine wpAny_isTrue_Compare1 (wpAny_mono (Ev_two h rd X E) (fun a s₁ h₁=>wpAny_mono h₁ (fun b s₂ h₂=>wpAny_mono h₂ (fun c s₃ o=>?_) fun o_ o_ x=>x) fun o_ o_ x=>x) fun o_ o_ x=>x) hm
 obtain ⟨v,σ₃,X₃,S₃,r₃,b,rfl,q⟩:=o
 rw [of_bool r₃]
 exact wpAny_truthy_bool ⟨σ₃,X₃,S₃,q⟩
theorem Te_not {e:Expr} {pos:Pos} {Q:Bool→Store→Prop} (h:Te cx n sc Γ σ e fun c σ₁=>Q (!c) σ₁):Te cx n sc Γ σ (.UnaryOp .Not e pos) Q:=fun B env A s rd X E=>
 isTrue_not (wpAny_mono (h B env A s rd X E) (fun c s₁ o=>by obtain ⟨σ',X,S,q⟩:=o;exact ⟨σ',X,S,q⟩) fun o_ o_ x=>x)
theorem Te_plain {e:Expr} {Q:Bool→Store→Prop} (h:Ev cx n sc Γ σ e fun v σ₁=>PT cx n σ₁ v Q)
  (he:∀ env whole,isTrue e env whole=(do let v ← whole;standAt e.pos;holding [v] (truthy v)):=by intro _ _;rfl):Te cx n sc Γ σ e Q:=fun B env A s rd X E=>by
 refine isTrue_plain (wpAny_mono (h B env A s rd X E) (fun a s₁ o=>?_) fun o_ o_ x=>x) (he _ _)
 obtain ⟨v,σ₁,X₁,S₁,r₁,h₁⟩:=o
 exact wpAny_mono (h₁ B A s₁ a rd X₁ r₁) (fun o_ o_ o=>OutB.pre S₁ o) fun o_ o_ x=>x
theorem Te_or_nil {pos:Pos} {Q:Bool→Store→Prop} (h:Q false σ):Te cx n sc Γ σ (.BoolOp .Or [] pos) Q:=fun B env A s rd X E=>isTrue_or_nil ⟨σ,X,Step.refl _ _,h⟩
theorem Te_and_nil {pos:Pos} {Q:Bool→Store→Prop} (h:Q true σ):Te cx n sc Γ σ (.BoolOp .And [] pos) Q:=fun B env A s rd X E=>isTrue_and_nil ⟨σ,X,Step.refl _ _,h⟩
theorem Te_or {e:Expr} {r:List Expr} {pos:Pos} {Q:Bool→Store→Prop} (h:Te cx n sc Γ σ e fun c σ₁=>(c=true→Q true σ₁)∧(c=false→Te cx n sc Γ σ₁ (.BoolOp .Or r pos) Q)) :
  Te cx n sc Γ σ (.BoolOp .Or (e::r) pos) Q:=fun B env A s rd X E=>by
 refine isTrue_or (wpAny_mono (h B env A s rd X E) (fun c s₁ o=>?_) fun o_ o_ x=>x)
 obtain ⟨σ₁,X₁,S₁,h1,h2⟩:=o
 rcases c with _|_
 ·exact wpAny_mono (h2 rfl B env A s₁ rd X₁ (E.step X.shut S₁)) (fun o_ o_ o=>OutB.pre S₁ o) fun o_ o_ x=>x
 ·exact ⟨σ₁,X₁,S₁,h1 rfl⟩
theorem Te_and {e:Expr} {r:List Expr} {pos:Pos} {Q:Bool→Store→Prop} (h:Te cx n sc Γ σ e fun c σ₁=>(c=false→Q false σ₁)∧(c=true→Te cx n sc Γ σ₁ (.BoolOp .And r pos) Q)) :
  Te cx n sc Γ σ (.BoolOp .And (e::r) pos) Q:=fun B env A s rd X E=>by
 refine isTrue_and (wpAny_mono (h B env A s rd X E) (fun c s₁ o=>?_) fun o_ o_ x=>x)
 obtain ⟨σ₁,X₁,S₁,h1,h2⟩:=o
 rcases c with _|_
 ·exact ⟨σ₁,X₁,S₁,h1 rfl⟩
 ·exact wpAny_mono (h2 rfl B env A s₁ rd X₁ (E.step X.shut S₁)) (fun o_ o_ o=>OutB.pre S₁ o) fun o_ o_ x=>x
theorem Te_chain {l r₁ r₂:Expr} {op₁ op₂:CmpOp} {pos:Pos} {Q:Bool→Store→Prop}
  (h:Ev cx n sc Γ σ l fun v σ₁=>Ev cx n sc Γ σ₁ r₁ fun u σ₂=>P2 cx n σ₂ (compareOp op₁) v u fun c σ₃=>∃ b,c=.bool b∧(b=false→Q false σ₃)∧(b=true→σ₃=σ₂∧Ev cx n sc Γ σ₂ r₂ fun t σ₄=>P2 cx n σ₄ (compareOp op₂) u t fun c σ₅=>∃ b,c=.bool b∧Q b σ₅))
  (hm:lastMarks [op₁,op₂] [r₁,r₂]=false):Te cx n sc Γ σ (.Compare l [op₁,op₂] [r₁,r₂] pos) Q:=fun B env A s rd X E=>by
 refine isTrue_chain (wpAny_mono (h B env A s rd X E) (fun a s₁ o=>?_) fun o_ o_ x=>x) hm
 obtain ⟨v,σ₁,X₁,S₁,r₁,h₁⟩:=o
 refine test_link (wpAny_mono (h₁ B env A s₁ rd X₁ (E.step X.shut S₁)) (fun b s₂ o=>?_) fun o_ o_ x=>x)
 obtain ⟨u,σ₂,X₂,S₂,r₂,h₂⟩:=o
 refine wpAny_mono (h₂ B A s₂ a b rd X₂ (S₂.rp r₁) r₂) (fun c s₃ o=>?_) fun o_ o_ x=>x
 obtain ⟨c',σ₃,X₃,S₃,r₃,t,rfl,hf,ht⟩:=o
 rw [of_bool r₃]
 refine wpAny_truthy_bool ?_
 have S:=(S₁.trans S₂).trans S₃
 rcases t with _|_
 ·exact ⟨σ₃,X₃,S,hf rfl⟩
 ·
  obtain ⟨rfl,ht⟩:=ht rfl
  refine test_last (wpAny_mono (ht B env A s₃ rd X₃ (E.step X.shut S)) (fun d s₄ o=>?_) fun o_ o_ x=>x)
  obtain ⟨t,σ₄,X₄,S₄,r₄,h₄⟩:=o
  refine wpAny_mono (h₄ B A s₄ b d rd X₄ (S₄.rp (S₃.rp r₂)) r₄) (fun c s₅ o=>?_) fun o_ o_ x=>x
  obtain ⟨c',σ₅,X₅,S₅,r₅,t,rfl,q⟩:=o
  rw [of_bool r₅]
  exact wpAny_truthy_bool ⟨σ₅,X₅,(S.trans S₄).trans S₅,q⟩
theorem Ev_and2 {a b:Expr} {pos:Pos} (h:Ev cx n sc Γ σ a fun v σ₁=>∃ t,v=.bool t∧(t=false→Q (.bool false) σ₁)∧(t=true→Ev cx n sc Γ σ₁ b Q)):Ev cx n sc Γ σ (.BoolOp .And [a,b] pos) Q:=fun B env A s rd X E=>by
 refine BoolOp_and (wpAny_mono (h B env A s rd X E) (fun x s₁ o=>?_) fun o_ o_ x=>x)
 obtain ⟨v,σ₁,X₁,S₁,r₁,t,rfl,hf,ht⟩:=o
 rw [of_bool r₁]
 refine wpAny_truthy_bool ?_
 rcases t with _|_
 ·exact ⟨_,σ₁,X₁,S₁,rp_bool _,hf rfl⟩
 ·exact BoolOp_one (wpAny_mono (ht rfl B env A s₁ rd X₁ (E.step X.shut S₁)) (fun o_ o_ o=>o.pre S₁) fun o_ o_ x=>x)
theorem out_new {cls:String} {d:Data} {v:V} (X:St cx B σ s) (hr:∀ σ' h',(∀ b o,s.heap.get? b=some o→h'.get? b=some o)→h'.get? s.heap.objs.size=some { cls:=.type cls,data:=d }→σ'=σ→Rp (cf cx B σ' h') v (.ref s.heap.objs.size))
  (h:Q v σ) (hf:({ cls:=.type cls,data:=d }:Obj).isFreed=false):Out cx B σ s.heap Q (.ref s.heap.objs.size) { s with heap:=s.heap.push { cls:=.type cls,data:=d } }:=
 ⟨v,σ,X.all (push_keep _ _) rfl rfl,step_all (s:=s) (s':={ s with heap:=s.heap.push { cls:=.type cls,data:=d } }) (push_keep _ _),hr σ _ (push_keep _ _) (Heap.get?_push_size _ hf) rfl,h⟩
theorem newTuple_ {l:List V} {xs:List Value} (X:St cx B σ s) (r:RpL (cf cx B σ s.heap) l xs) (hz:xs.length≤sizeLine) (h:Q (.tup l) σ):wpAny (model cx.prog cx.w) A (newTuple xs) (Out cx B σ s.heap Q) NoE s:=by
 refine wpAny_newObj_type (out_new (hf:=by rfl) X (fun σ' h' k ho e=>?_) h) (by show xs.toArray.size≤sizeLine;exact hz)
 subst e
 refine ⟨_,_,_,rfl,fun o_=>X.fresh (get_none_size _),ho,?_⟩
 exact (Step.rpL (cx:=cx) (B:=B) ⟨fun b o o_ e=>k b o e,fun o_ e=>.inl e,fun a o e=>⟨o,k a o e⟩⟩ r)
theorem newList_fz {l:List V} {xs:List Value} (X:St cx B σ s) (r:RpL (cf cx B σ s.heap) l xs) (hz:xs.length≤sizeLine) (h:Q (.lst l) σ):wpAny (model cx.prog cx.w) A (newList xs) (Out cx B σ s.heap Q) NoE s:=by
 refine wpAny_newObj_type (out_new (hf:=by rfl) X (fun σ' h' k ho e=>?_) h) (by show xs.toArray.size≤sizeLine;exact hz)
 subst e
 refine ⟨_,_,_,rfl,fun o_=>X.fresh (get_none_size _),ho,?_⟩
 exact (Step.rpL (cx:=cx) (B:=B) ⟨fun b o o_ e=>k b o e,fun o_ e=>.inl e,fun a o e=>⟨o,k a o e⟩⟩ r)
theorem out_obj {cls:String} {d:Data} {v:V} (X:St cx B σ s) (hm:v.isMut=true)
  (hr:∀ σ' h',Step σ s.heap σ' h'→h'.get? s.heap.objs.size=some { cls:=.type cls,data:=d }→G (cf cx B σ' h') false v (.ref s.heap.objs.size))
  (h:∀ a,σ a=none→Q (.ref a) (σ.set a v)) (hf:({ cls:=.type cls,data:=d }:Obj).isFreed=false) :
  Out cx B σ s.heap Q (.ref s.heap.objs.size) { s with heap:=s.heap.push { cls:=.type cls,data:=d } }:=by
 have S:Step σ s.heap (σ.set s.heap.objs.size v) (s.heap.push { cls:=.type cls,data:=d }):=
  new_step (s':={ s with heap:=s.heap.push { cls:=.type cls,data:=d } }) X (push_keep _ _) (get_none_size _)
 refine ⟨_,σ.set s.heap.objs.size v,?_,S,rp_ref _,h _ (X.new_none (get_none_size _))⟩
 exact X.new (s':={ s with heap:=s.heap.push { cls:=.type cls,data:=d } }) (push_keep _ _) rfl rfl (get_none_size _) (X.fresh_not (get_none_size _)) hm (hr _ _ S (Heap.get?_push_size _ hf))
theorem newList_obj {l:List V} {xs:List Value} (X:St cx B σ s) (r:RpL (cf cx B σ s.heap) l xs) (hz:xs.length≤sizeLine) (h:∀ a,σ a=none→Q (.ref a) (σ.set a (.lst l))) :
  wpAny (model cx.prog cx.w) A (newList xs) (Out cx B σ s.heap Q) NoE s:=by
 refine wpAny_newObj_type (out_obj (hf:=by rfl) X rfl (fun σ' h' S ho=>?_) h) (by show xs.toArray.size≤sizeLine;exact hz)
 exact ⟨_,_,_,rfl,fun x=>(by contradiction),ho,S.rpL r⟩
theorem RpL.length {C:Cf}:∀ {l:List V} {xs:List Value},RpL C l xs→xs.length=l.length
 | [],_,h=>by subst h;rfl
 | v::l,_,h=>by
  obtain ⟨x,r,rfl,_,h⟩:=h
  simp [RpL.length h]
theorem sizeLine_big {k:Nat} (h:k≤1000000):k≤sizeLine:=Nat.le_trans h (by decide)
theorem Ev_tuple {es:List Expr} {k:Nat} {pos:Pos} (h:EvL cx n sc Γ σ es fun vs σ₁=>vs.length≤1000000∧Q (.tup vs) σ₁):Ev cx n sc Γ σ (.Tuple es k pos) Q:=fun B env A s rd X E=>by
 refine Tuple_ (wpAny_mono (h.run B env A s rd X E) (fun xs s₁ o=>?_) fun o_ o_ x=>x)
 obtain ⟨vs,σ₁,X₁,S₁,r₁,hz,q⟩:=o
 exact wpAny_mono (newTuple_ X₁ r₁ (by rw [r₁.length];exact sizeLine_big hz) q) (fun o_ o_ o=>o.pre S₁) fun o_ o_ x=>x
theorem Ev_list_fz {es:List Expr} {pos:Pos} (h:EvL cx n sc Γ σ es fun vs σ₁=>vs.length≤1000000∧Q (.lst vs) σ₁):Ev cx n sc Γ σ (.List es pos) Q:=fun B env A s rd X E=>by
 refine List_ (wpAny_mono (h.run B env A s rd X E) (fun xs s₁ o=>?_) fun o_ o_ x=>x)
 obtain ⟨vs,σ₁,X₁,S₁,r₁,hz,q⟩:=o
 exact wpAny_mono (newList_fz X₁ r₁ (by rw [r₁.length];exact sizeLine_big hz) q) (fun o_ o_ o=>o.pre S₁) fun o_ o_ x=>x
theorem Ev_list {es:List Expr} {pos:Pos} (h:EvL cx n sc Γ σ es fun vs σ₁=>vs.length≤1000000∧∀ a,σ₁ a=none→Q (.ref a) (σ₁.set a (.lst vs))):Ev cx n sc Γ σ (.List es pos) Q:=fun B env A s rd X E=>by
 refine List_ (wpAny_mono (h.run B env A s rd X E) (fun xs s₁ o=>?_) fun o_ o_ x=>x)
 obtain ⟨vs,σ₁,X₁,S₁,r₁,hz,q⟩:=o
 exact wpAny_mono (newList_obj X₁ r₁ (by rw [r₁.length];exact sizeLine_big hz) q) (fun o_ o_ o=>o.pre S₁) fun o_ o_ x=>x
end
structure ClsOk (K:Frag) (C:Addr):Prop where
 ga:findIn K (.ref C) "__getattribute__" = some (some (.builtin "object.__getattribute__"))
 gattr:findIn K (.ref C) "__getattr__" = some none
 hasD:hasDictIn K C=true
 sa:findIn K (.ref C) "__setattr__" = some (some (.builtin "object.__setattr__"))
 over:plainOver K C=true
 makes:makesIn K C=true
noncomputable def fget:List (Str×V)→Str→Option V
 | [],_=>none
 | (y,u)::r,x=>if y=x then some u else fget r x
noncomputable def fput:List (Str×V)→Str→V→List (Str×V)
 | [],x,v=>[(x,v)]
 | (y,u)::r,x,v=>if y=x then (y,v)::r else (y,u)::fput r x v
theorem fput_length:∀ (l:List (Str×V)) (x:Str) (v:V),(fput l x v).length≤l.length+1
 | [],_,_=>Nat.le_refl _
 | (y,u)::r,x,v=>by
  by_cases q:y=x
  ·rw [show fput ((y,u)::r) x v=(y,v)::r from if_pos q];exact Nat.le_succ _
  ·rw [show fput ((y,u)::r) x v=(y,u)::fput r x v from if_neg q];exact Nat.succ_le_succ (fput_length r x v)
theorem isStr_str (x y:Str) (t:Tok):(Value.str y t).isStr x=(y==x):=rfl
theorem GF_get {C:Cf} {x:Str} {v:V}:∀ {fs:List (Str×V)} {es:List DictEntry},GF C fs es→fget fs x=some v→∃ y,getL x es=some (some y)∧Rp C v y
 | [],_,_,e=>by contradiction
 | (y,u)::r,_,h,e=>by
  obtain ⟨hh,t,z,q,rfl,hz,h⟩:=h
  dsimp only [fget] at e
  by_cases hy:y=x
  ·rw [if_pos hy] at e;(injection e with e;subst e)
   refine ⟨z,?_,hz⟩
   dsimp only [getL]
   rw [List.find?_cons_of_pos (by rw [isStr_str];simpa using hy)]
  ·rw [if_neg hy] at e
   obtain ⟨w,hw,hr⟩:=GF_get h e
   refine ⟨w,?_,hr⟩
   unfold getL at hw ⊢
   rw [List.find?_cons_of_neg (by rw [isStr_str];simpa using hy),List.any_cons]
   exact hw
theorem GF_none {C:Cf} {x:Str}:∀ {fs:List (Str×V)} {es:List DictEntry},GF C fs es→fget fs x=none→getL x es=some none
 | [],_,h,_=>by subst h;rfl
 | (y,u)::r,_,h,e=>by
  obtain ⟨hh,t,z,q,rfl,hz,h⟩:=h
  dsimp only [fget] at e
  by_cases hy:y=x
  ·rw [if_pos hy] at e;contradiction
  ·rw [if_neg hy] at e
   have hw:=GF_none h e
   unfold getL at hw ⊢
   rw [List.find?_cons_of_neg (by rw [isStr_str];simpa using hy),List.any_cons]
   exact hw
theorem GF_put {C:Cf} {x:Str} {v:V} {y:Value} {hsh:Int} {t:Tok} (hy:Rp C v y):∀ {fs:List (Str×V)} {es:List DictEntry},GF C fs es→GF C (fput fs x v) (putL x hsh (.str x t) y es)
 | [],_,h=>by subst h;skip;exact ⟨_,_,_,_,rfl,hy,rfl⟩
 | (z,u)::r,_,h=>by
  obtain ⟨hh,t',w,q,rfl,hw,h⟩:=h
  dsimp only [fput,putL]
  rw [isStr_str]
  by_cases hz:z=x
  ·rw [if_pos hz,if_pos (by simpa using hz)]
   exact ⟨_,_,_,_,rfl,hy,h⟩
  ·rw [if_neg hz,if_neg (by simpa using hz)]
   exact ⟨_,_,_,_,rfl,hw,GF_put hy h⟩
theorem GF_length {C:Cf}:∀ {fs:List (Str×V)} {es:List DictEntry},GF C fs es→es.length=fs.length
 | [],_,h=>by subst h;rfl
 | (y,u)::r,_,h=>by
  obtain ⟨hh,t,z,q,rfl,hz,h⟩:=h
  simp [GF_length h]
section
variable {cx:Cx} {n:Nat} {sc:Scope} {Γ:Str→Option V} {σ:Store} {Q:V→Store→Prop} {B:Addr→Prop} {s:Shared} {A:Around}
theorem inst_at (X:St cx B σ s) {c:Addr} {d:V} {fs:List (Str×V)} {x:Value} (r:Rp (cf cx B σ s.heap) (.inst c d) x) (hd:lk σ d=some (.fld fs)) :
  ∃ a dx es k,x=.ref a∧¬ bad B σ a∧s.heap.get? a=some (instObj c dx)∧Rp (cf cx B σ s.heap) d (.ref dx)∧s.heap.get? dx=some (dictOf es k)∧GF (cf cx B σ s.heap) fs es∧InstAt s.heap a (instObj c dx) c (some (dictOf es k)):=by
 obtain ⟨a,dx,rfl,hb,ho,hr⟩:=r
 have g:=looked X hr hd (fun b=>by simp)
 obtain ⟨b,es,k,e,_,hbo,hf⟩:=g
 (injection e with e;subst e)
 exact ⟨a,dx,es,k,rfl,hb rfl,ho,hr,hbo,hf,ho,rfl,rfl,hbo⟩
theorem handed_rp {C:Cf} {f:Bool} {v:V} {x:Value} (r:G C f v x):handedIn x=true:=by
 cases v
 all_goals (first | (subst r;rfl) | (obtain ⟨t,rfl⟩:=r;rfl) | (obtain ⟨_,_,_,_,rfl,_⟩:=r;rfl) | (obtain ⟨_,_,_,rfl,_⟩:=r;rfl) | (obtain ⟨_,_,rfl,_⟩:=r;rfl))
theorem Ev_attr {o:Expr} {attr:Str} {pos:Pos} (h:Ev cx n sc Γ σ o fun v σ₁=>∃ c d fs u,v=.inst c d∧lk σ₁ d=some (.fld fs)∧fget fs attr=some u∧ClsOk cx.K c∧findIn cx.K (.ref c) attr=some none∧Q u σ₁)
  (he:∀ env,eval (.Attribute o attr pos) env=(do
   let v ← eval o env
   standAt pos.atName
   let r ← holding [v] (getAttr v attr true)
   letTemporaryGo o v r
   pure r):=by intro _;with_unfolding_all rfl):Ev cx n sc Γ σ (.Attribute o attr pos) Q:=fun B env A s rd X E=>by
 refine Attribute_any_ (wpAny_mono (h B env A s rd X E) (fun x s₁ o=>?_) fun o_ o_ x=>x) (he env)
 obtain ⟨v,σ₁,X₁,S₁,r₁,c,d,fs,u,rfl,hd,hf,ck,hn,q⟩:=o
 obtain ⟨a,dx,es,k,rfl,hb,ho,hr,hbo,hg,I⟩:=inst_at X₁ r₁ hd
 obtain ⟨y,hy,ry⟩:=GF_get hg hf
 have XK:cx.K.In s₁.heap:=cx.X.keeps X₁.keep
 refine get_value XK I ck.ga (findObj_own ck.hasD hn rfl (by rw [lookIn_dict];exact hy)) (handed_rp ry) ?_
 exact Out.pre S₁ (out_tok X₁ ry q)
theorem method_at (X:St cx B σ s) {c:Addr} {d:V} {fs:List (Str×V)} {x:Value} {name:Str} {f:Addr} {pl:Sem Bool} {P:Value×List Value→Shared→Prop} {Er:Value→Shared→Prop} (r:Rp (cf cx B σ s.heap) (.inst c d) x) (hd:lk σ d=some (.fld fs))
  (ck:ClsOk cx.K c) (hf:findIn cx.K (.ref c) name=some (some (.ref f))) (hfn:isFn cx.K (.ref f)=true) (hn:fget fs name=none) (h:P (.ref f,[x]) s) :
  wpAny (model cx.prog cx.w) A (getMethod x name pl) P Er s:=by
 obtain ⟨a,dx,es,k,rfl,hb,ho,hr,hbo,hg,I⟩:=inst_at X r hd
 have XK:cx.K.In s.heap:=cx.X.keeps X.keep
 exact method_fn XK I ck.ga ck.gattr hf (beq_iff_eq.mp hfn) (by show (lookIn name (dictOf es k)).map _=_;rw [lookIn_dict,GF_none hg hn];rfl) h
noncomputable def allBut (h:Heap) (S:Addr→Prop):List (Addr×Obj):=
 open Classical in (List.range h.objs.size).filterMap fun a => if S a then none else (h.get? a).map fun o => (a, o)
theorem mem_allBut {h:Heap} {S:Addr→Prop} {a:Addr} {o:Obj}:(a,o)∈allBut h S↔¬ S a∧h.get? a=some o:=by
 delta allBut
 simp only [List.mem_filterMap,List.mem_range]
 constructor
 ·rintro ⟨b,hb,e⟩
  split at e
  ·contradiction
  ·rename_i hs
   rcases q:h.get? b with _|o'
   ·rw [q] at e;contradiction
   ·rw [q] at e;cases e;exact ⟨hs,q⟩
 ·rintro ⟨hs,e⟩
  refine ⟨a,Heap.lt_size e,?_⟩
  rw [if_neg hs,e];rfl
theorem setAttr_at {env:Env} (X:St cx B σ s) (E:EnvOk cx sc Γ B σ env s.heap) {c a:Addr} {fs:List (Str×V)} {v:V} {x y:Value} {attr:Str} {P:Unit→Shared→Prop} (r:Rp (cf cx B σ s.heap) (.inst c (.ref a)) x) (hd:σ a=some (.fld fs)) (ry:Rp (cf cx B σ s.heap) v y)
  (ck:ClsOk cx.K c) (ht:takerIn cx.K c attr=some none) (hz:fs.length<1000)
  (h:∀ s',St cx B (σ.set a (.fld (fput fs attr v))) s'→EnvOk cx sc Γ B (σ.set a (.fld (fput fs attr v))) env s'.heap→StepX (ownOf' env sc) σ s.heap (σ.set a (.fld (fput fs attr v))) s'.heap→P () s'):wpAny (model cx.prog cx.w) A (setAttr x attr y) P NoE s:=by
 obtain ⟨ax,dx,es,k,rfl,hb,ho,hr,hbo,hg,I⟩:=inst_at X r hd
 have e:dx=a:=by have:=of_ref hr;injection this
 subst e
 have XK:cx.K.In s.heap:=cx.X.keeps X.keep
 have own:=X.own _ _ hd
 obtain ⟨m,hm,_⟩:=E.ns
 have L:dx≠env.locals:=fun q=>own.1 (q▸E.ownL)
 have nil:∀ b,Heap.get? {} b=none:=fun b=>by simp [Heap.get?]
 have F:Fr {} env.locals s.heap m:=⟨hm,(fun b o e=>by rw [nil] at e;contradiction),Nat.zero_le _⟩
 have N:News {} env.locals s.heap ([]++(dx,dictOf es k)::allBut s.heap fun b=>b=env.locals∨b=dx):=by
  intro p hp
  rcases List.mem_cons.mp (hp) with rfl|hp
  ·exact ⟨hbo,L,nil _⟩
  ·obtain ⟨h1,h2⟩:=mem_allBut.mp (show (p.1,p.2)∈_ from hp)
   exact ⟨h2,fun q=>h1 (.inl q),nil _⟩
 have hlen:(putL attr (PyData.keyHash cx.w.params attr) (.str attr (s.toks+1)) y es).length≤1000:=by
  have h1:=GF_length (C:=cf cx B σ s.heap) (GF_put (x:=attr) (hsh:=PyData.keyHash cx.w.params attr) (t:=s.toks+1) ry hg)
  have h2:=fput_length fs attr v
  omega
 refine set_plain XK I ck.sa ?_
 refine osa_dict (s:={ s with toks:=s.toks+1 }) (od':=dictOf (putL attr (PyData.keyHash cx.w.params attr) (.str attr (s.toks+1)) y es) (putN attr es k)) F N XK I rfl ck.over ht ck.hasD ?_ (fun p hp=>by contradiction) ?_ (putName_dict attr _ (.str attr (s.toks+1)) y es k) rfl hlen ?_
 ·show (lookIn attr (dictOf es k)).isSome=true
  rw [lookIn_dict]
  rcases q:fget fs attr with _|u
  ·rw [GF_none hg q];rfl
  ·obtain ⟨y,hy,_⟩:=GF_get hg q;rw [hy];rfl
 ·intro p hp
  obtain ⟨h1,h2⟩:=mem_allBut.mp (show (p.1,p.2)∈_ from hp)
  exact fun q=>h1 (.inr q)
 ·intro h' F' N'
  have kp:∀ b o,b≠dx→¬ b=env.locals→s.heap.get? b=some o→h'.get? b=some o:=fun b o hb hl e=>
   (N' (b,o) (by skip;exact List.mem_cons_of_mem _ (mem_allBut.mpr ⟨by rintro (q | q);exact hl q;exact hb q,e⟩))).1
  have hdx:=(N' (dx,_) (by skip;exact List.mem_cons_self)).1
  have:=X.setX (own:=fun a=>a=env.locals) (s':={ s with heap:=h',toks:=s.toks+1+1 }) (v':=.fld (fput fs attr v)) hd (fun b q=>by
   subst q
   obtain ⟨oL,_,_,hoL,_⟩:=F'.ns
   exact ⟨E.ownL,E.newL,oL,hoL⟩) (fun b o h1 h2 h3=>kp b o h1 h2 h3) rfl rfl rfl ⟨_,hdx⟩ (fun S=>by
    refine ⟨_,_,_,rfl,fun x=>(by contradiction),hdx,?_⟩
    have go:GF (cf cx B (σ.set dx (.fld (fput fs attr v))) h') fs es:=
     GF_mono (C:=cf cx B σ s.heap) (C':=cf cx B (σ.set dx (.fld (fput fs attr v))) h') rfl (S.kept (cx:=cx) (B:=B) fun a q=>q▸E.ownL) fs es hg
    exact GF_put (S.rp (fun a q=>q▸E.ownL) ry) go)
  obtain ⟨X',S'⟩:=this
  exact h _ X' (E.stepL X.shut S' fun m' hm'=>by
   obtain ⟨o₁,e₁,p₁,a1,a2,a3,a4⟩:=hm
   obtain ⟨o₂,e₂,p₂,b1,b2,b3,b4⟩:=hm'
   obtain ⟨o₃,e₃,p₃,c1,c2,c3,c4⟩:=F'.ns
   rw [a1] at b1;(injection b1 with b1;subst b1);rw [a2] at b2;(injection b2 with b2;subst b2)
   exact ⟨o₃,e₃,p₃,c1,c2,c3,fun z=>(c4 z).trans ((a4 z).symm.trans (b4 z))⟩) (S'.wider (fun a q=>.inl q) fun a q=>X.shut a (E.own_B a q).1)
end
noncomputable def Cc (cx:Cx) (n:Nat) (σ:Store) (f:Value) (args:List V) (Q:V→Store→Prop):Prop:=
 ∀ (B:Addr→Prop) (A:Around) (s:Shared) (xs:List Value),Rd n A→St cx B σ s→RpL (cf cx B σ s.heap) args xs →
  codeAny (model cx.prog cx.w) A (.call f ⟨xs,[]⟩) (fun r s'=>∃ x,r=.ok (.ret x)∧Out cx B σ s.heap Q x s') s
noncomputable def Fl.val:Fl→V
 | .ret v=>v
 | _=>.none
noncomputable def argsOf (names:List Str) (args:List V) (x:Str):Option V:=(names.zip args).lookup x
section
variable {cx:Cx} {n:Nat} {sc:Scope} {Γ:Str→Option V} {σ σ':Store} {Q:V→Store→Prop} {B B':Addr→Prop} {s s':Shared} {A:Around}
theorem Cc.cl {f:Value} {args:List V} (h:Cc cx n σ f args Q):Cl cx n σ f args Q:=fun B A s xs rd X r=>
 wpAny_call (codeAny_mono (h B A s xs rd X r) fun r s' z=>by obtain ⟨x,rfl,o⟩:=z;exact o)
theorem Cc.mono {f:Value} {args:List V} {Q':V→Store→Prop} (h:Cc cx n σ f args Q) (hq:∀ v σ',Q v σ'→Q' v σ'):Cc cx n σ f args Q':=fun B A s xs rd X r=>
 codeAny_mono (h B A s xs rd X r) fun r s' z=>by obtain ⟨x,rfl,o⟩:=z;exact ⟨x,rfl,o.mono hq⟩
theorem Cl.mono {f:Value} {args:List V} {Q':V→Store→Prop} (h:Cl cx n σ f args Q) (hq:∀ v σ',Q v σ'→Q' v σ'):Cl cx n σ f args Q':=fun B A s xs rd X r=>
 wpAny_mono (h B A s xs rd X r) (fun o_ o_ o=>o.mono hq) fun o_ o_ x=>x
theorem St.more (X:St cx B σ s) (k:∀ b o,s.heap.get? b=some o→s'.heap.get? b=some o) (hg:s'.gens=s.gens) (ho:s'.os=s.os)
  (hB:∀ a,B' a→B a∨(s.heap.get? a=none∧∃ o,s'.heap.get? a=some o)):St cx B' σ s'∧∀ v x,Rp (cf cx B σ s.heap) v x→Rp (cf cx B' σ s'.heap) v x:=by
 have kept:∀ a o,¬ (cf cx B σ s.heap).bad a→(cf cx B σ s.heap).h.get? a=some o→(cf cx B' σ s'.heap).h.get? a=some o∧¬ (cf cx B' σ s'.heap).bad a:=fun a o hb e=>by
  refine ⟨k a o e,?_⟩
  rintro (q|q)
  ·rcases hB a q with q|q
   ·exact hb (.inl q)
   ·have e':s.heap.get? a=some o:=e
    rw [q.1] at e';contradiction
  ·exact hb (.inr q)
 refine ⟨⟨fun b o e=>k b o (X.keep b o e),hg.trans X.gens,ho.trans X.os,fun a v e=>?_,fun a q=>?_⟩,fun v x r=>G_mono (C:=cf cx B σ s.heap) (C':=cf cx B' σ s'.heap) rfl kept true v x (fun e=>by contradiction) r⟩
 ·obtain ⟨h1,h2,h3,h4⟩:=X.own a v e
  refine ⟨fun q=>?_,h2,h3,G_mono (C:=cf cx B σ s.heap) (C':=cf cx B' σ s'.heap) rfl kept false v _ (fun o_ b o e ho=>by (injection e with e;subst e);exact k a o ho) h4⟩
  rcases hB a q with q|q
  ·exact h1 q
  ·obtain ⟨o,e'⟩:=X.dom_some e;rw [q.1] at e';contradiction
 ·rcases hB a q with q|q
  ·obtain ⟨o,e⟩:=X.alive a q;exact ⟨o,k a o e⟩
  ·exact q.2
theorem St.fewer (X:St cx B' σ s) (hB:∀ a,B a→B' a):St cx B σ s where
 keep:=X.keep
 gens:=X.gens
 os:=X.os
 own a v e:=by
  obtain ⟨h1,h2,h3,h4⟩:=X.own a v e
  refine ⟨fun q=>h1 (hB a q),h2,h3,G_mono (C:=cf cx B' σ s.heap) (C':=cf cx B σ s.heap) rfl (fun a o hb e=>⟨e,fun q=>hb (Or.elim q (fun q=>.inl (hB a q)) .inr)⟩) false v _ (fun o_ b o e ho=>ho) h4⟩
 alive a q:=X.alive a (hB a q)
theorem rpL_of {C C':Cf} (h:∀ v x,Rp C v x→Rp C' v x):∀ {l:List V} {xs:List Value},RpL C l xs→RpL C' l xs
 | [],_,r=>by exact r
 | v::l,_,r=>by
  skip
  obtain ⟨x,q,rfl,hx,hr⟩:=r
  exact ⟨x,q,rfl,h _ _ hx,rpL_of h hr⟩
theorem bindL_out {kindOf:Str→Option NameKind} {x:Str}:∀ {names:List Str} {xs:List Value} {m:Str→Option Value},x∉names→bindL kindOf (names.zip xs) m x=m x
 | [],_,_,_=>rfl
 | _::_,[],_,_=>rfl
 | y::r,z::zs,m,h=>by
  show bindL kindOf ((y,z)::r.zip zs) m x=m x
  dsimp only [bindL]
  rw [bindL_out (fun q=>h (List.mem_cons_of_mem _ q))]
  split
  ·show (if x=y then some z else m x)=m x
   rw [if_neg (fun (e:x=y)=>h (by rw [e];exact List.mem_cons_self))]
  ·rfl
theorem bindC_out {kindOf:Str→Option NameKind} {x:Str}:∀ {names:List Str} {xs:List Value} {m:Str→Option Value},x∉names→bindC kindOf (names.zip xs) m x=m x
 | [],_,_,_=>rfl
 | _::_,[],_,_=>rfl
 | y::r,z::zs,m,h=>by
  show bindC kindOf ((y,z)::r.zip zs) m x=m x
  dsimp only [bindC]
  rw [bindC_out (fun q=>h (List.mem_cons_of_mem _ q))]
  split
  ·rfl
  ·show (if x=y then some z else m x)=m x
   rw [if_neg (fun (e:x=y)=>h (by rw [e];exact List.mem_cons_self))]
theorem bindL_in {kindOf:Str→Option NameKind} {x:Str} {C:Cf} {v:V} (hk:kindOf x=some .local):∀ {names:List Str} {args:List V} {xs:List Value} {m:Str→Option Value},names.Nodup→RpL C args xs →
  argsOf names args x=some v→∃ y,bindL kindOf (names.zip xs) m x=some y∧Rp C v y
 | [],_,_,_,_,_,e=>by contradiction
 | y::r,[],_,_,_,_,e=>by contradiction
 | y::r,a::as,xs,m,hn,hr,e=>by
  obtain ⟨z,zs,rfl,hz,hr⟩:=hr
  have hn':=List.nodup_cons.mp hn
  delta argsOf at e
  rw [List.zip_cons_cons,List.lookup_cons] at e
  show ∃ w,bindL kindOf ((y,z)::r.zip zs) m x=some w∧_
  dsimp only [bindL]
  by_cases hx:x=y
  ·subst hx
   simp only [beq_self_eq_true] at e
   (injection e with e;subst e)
   rw [bindL_out hn'.1,if_pos hk]
   exact ⟨z,by simp,hz⟩
  ·have hb:(x==y)=false:=by simpa using hx
   rw [hb] at e
   exact bindL_in hk hn'.2 hr e
theorem bindC_in {kindOf:Str→Option NameKind} {x:Str} {C:Cf} {v:V} (hk:kindOf x≠some .local):∀ {names:List Str} {args:List V} {xs:List Value} {m:Str→Option Value},names.Nodup→RpL C args xs →
  argsOf names args x=some v→∃ y,bindC kindOf (names.zip xs) m x=some y∧Rp C v y
 | [],_,_,_,_,_,e=>by contradiction
 | y::r,[],_,_,_,_,e=>by contradiction
 | y::r,a::as,xs,m,hn,hr,e=>by
  obtain ⟨z,zs,rfl,hz,hr⟩:=hr
  have hn':=List.nodup_cons.mp hn
  delta argsOf at e
  rw [List.zip_cons_cons,List.lookup_cons] at e
  show ∃ w,bindC kindOf ((y,z)::r.zip zs) m x=some w∧_
  dsimp only [bindC]
  by_cases hx:x=y
  ·subst hx
   simp only [beq_self_eq_true] at e
   (injection e with e;subst e)
   rw [bindC_out hn'.1,if_neg hk]
   exact ⟨z,by simp,hz⟩
  ·have hb:(x==y)=false:=by simpa using hx
   rw [hb] at e
   exact bindC_in hk hn'.2 hr e
theorem mem_cells {x:Str} {c:Addr} {l:List (Str×Addr)} (h:l.lookup x=some c):(x,c)∈l:=mem_of_lookup h
theorem Cc_def {f:Addr} {name qual:Str} {params:Arguments} {body:List Stmt} {scope:Scope} {dV kV doc pm cdv ct oc:Value} {an od:Option Addr} {osl:Array (Option Value)} {args:List V} {names:List Str}
  (ho:cx.K.lookup f=some ⟨oc,od,.func (fnOf name qual params body scope dV kV doc pm an cdv ct),osl⟩) (hcd:codeIn cx.K cdv qual=true)
  (hbind:∀ xs:List Value,xs.length=args.length→bindArgs (fnOf name qual params body scope dV kV doc pm an cdv ct) ⟨xs,[]⟩=pure (names.zip xs))
  (hkind:(names.all fun y=>scope.names.lookup y==some .local || scope.names.lookup y==some .cell)=true) (hnd:names.Nodup) (hfree:(scope.names.all fun y=>y.2 != .free)=true)
  (hco:scope.isCoroutine=false) (hgen:scope.isGenerator=false) (hk:scope.kind=.function)
  (h:Exs cx n scope (argsOf names args) σ body fun φ o_ σ'=>Q φ.val σ'):Cc cx (n+1) σ (.ref f) args Q:=fun B A s xs rd X r=>by
 have XK:cx.K.In s.heap:=cx.X.keeps X.keep
 have hlen:=r.length
 have froom:A.depth<recursionLimit:=by have:=rd.2.1;show A.depth<1000;omega
 refine codeAny_call_function froom (XK _ _ ho) rfl hco hgen rfl (codeRec_of XK hcd) ?_
 refine BindsTo.of_eq (s:=s) (hbind xs hlen) _ _ _ _ ?_
 have hkinds:∀ x∈names.zip xs,scope.names.lookup x.1=some .local∨(scope.names.lookup x.1=some .cell∧((cellsFrom (s.heap.objs.size+1) scope.names []).lookup x.1).isSome=true):=by
  intro x hx
  have:=List.all_eq_true.mp hkind x.1 (List.of_mem_zip hx).1
  rcases Bool.or_eq_true_iff.mp this with q|q
  ·exact .inl (by exact beq_iff_eq.mp q)
  ·have q':scope.names.lookup x.1=some .cell:=by exact beq_iff_eq.mp q
   exact .inr ⟨q',cellsFrom_some _ _ _ (.inl q')⟩
 refine wpAny_newFunctionEnv_cells hk hkinds fun env he s' x=>?_
 have hk':∀ b o,s.heap.get? b=some o→s'.heap.get? b=some o:=x.toInCall.keep
 refine ⟨(cx.lim.keeps X.keep).keeps hk',codeAny_func ?_⟩
 obtain ⟨h₁,tk,hs',_⟩:=x.done
 have eL:env.locals=s.heap.objs.size:=by rw [he];rfl
 have eS:env.scope=scope:=by rw [he];rfl
 have eC:env.cells=cellsFrom (s.heap.objs.size+1) scope.names []:=by rw [he];rfl
 have eg:env.globals=mainGlobals:=by rw [he];rfl
 have eb:env.builtins=builtinsNs:=by rw [he];rfl
 have ek:∀ y,env.kindOf y=scope.names.lookup y:=fun y=>by delta Env.kindOf;rw [eS]
 have fresh:∀ a,s.heap.objs.size≤a→s.heap.get? a=none:=fun a q=>by
  rcases e:s.heap.get? a with _|o
  ·rfl
  ·exact absurd (Heap.lt_size e) (Nat.not_lt.mpr q)
 have hown:∀ a,ownOf' env scope a→s.heap.get? a=none∧∃ o,s'.heap.get? a=some o:=by
  rintro a (rfl|⟨y,hy,hc⟩)
  ·obtain ⟨o,_,_,hoL,_⟩:=x.toInCall.ns
   exact ⟨fresh _ (by rw [eL];exact Nat.le_refl _),o,hoL⟩
  ·have ha:=x.above y a (mem_cells hc)
   obtain ⟨o,hoc,_⟩:=x.cell y a hc
   exact ⟨fresh _ (Nat.le_of_lt (by rw [← eL];exact ha)),o,hoc⟩
 obtain ⟨X',up⟩:=X.more (B':=fun a=>B a∨ownOf' env scope a) hk' (by rw [hs']) (by rw [hs']) (fun a q=>q.imp id (hown a))
 have E:EnvOk cx scope (argsOf names args) (fun a=>B a∨ownOf' env scope a) σ env s'.heap:=by
  refine ⟨eS,hk,eg,eb,.inr (.inl rfl),X.base_none (hown _ (.inl rfl)).1,⟨_,x.toInCall.ns,fun y v e l=>?_⟩,fun y hy=>?_,fun y z c h1 h2=>name_of_addr x.apart (mem_cells h1) (mem_cells h2)⟩
  ·exact bindL_in (by rw [ek];exact l) hnd (rpL_of up r) e
  ·rcases hy with hy|hy
   ·have hsome:=cellsFrom_some scope.names (s.heap.objs.size+1) [] (.inl hy)
    obtain ⟨c,hc⟩:=Option.isSome_iff_exists.mp hsome
    have hc':env.cells.lookup y=some c:=by rw [eC];exact hc
    refine ⟨c,_,hc',.inr (.inr ⟨y,hy,hc'⟩),X.base_none (hown c (.inr ⟨y,hy,hc'⟩)).1,x.cell y c hc',fun v e=>?_⟩
    exact bindC_in (by rw [ek,hy];decide) hnd (rpL_of up r) e
   ·have:=List.all_eq_true.mp hfree _ (mem_of_lookup hy)
    contradiction
 have rd':Rd n (A.deeper env):=⟨rd.1,by have:=rd.2.1;show A.depth+1+n<1000;omega,by have:=rd.2.2;show A.units+3+8*n+100<9900;omega⟩
 refine wpAny_mono (h _ env _ s' rd' X' E) (fun fl s'' o=>?_) fun o_ o_ q=>q.elim
 obtain ⟨φ,Γ',σ',X₂,_,S₂,hf,q⟩:=o
 have X₃:St cx B σ' s'':=X₂.fewer fun a q=>.inl q
 have S₃:Step σ s.heap σ' s''.heap:=by
  refine ⟨fun b o hb e=>S₂.keep b o hb (fun w=>by rw [(hown b w).1] at e;contradiction) (hk' b o e),fun a q=>?_,fun a o e=>S₂.live a o (hk' a o e)⟩
  rcases S₂.dom a q with q|q
  ·exact .inl q
  ·right
   rcases e:s.heap.get? a with _|o
   ·rfl
   ·rw [hk' a o e] at q;contradiction
 refine ⟨_,rfl,φ.val,σ',X₃,S₃,?_,q⟩
 cases φ with
 | ret v=>
  obtain ⟨y,rfl,hy⟩:=hf
  exact rp_less (B:=B) (B':=fun a=>B a∨ownOf' env scope a) (fun a q=>.inl q) hy
 | next=>have:fl=.next:=hf;subst this;exact rp_none
 | brk=>have:fl=.brk:=hf;subst this;exact rp_none
 | cont=>have:fl=.cont:=hf;subst this;exact rp_none
theorem Cc_cls {C f:Addr} {args:List V} (ck:ClsOk cx.K C) (hi:findIn cx.K (.ref C) "__init__" = some (some (.ref f))) (hf:isFn cx.K (.ref f)=true)
  (h:∀ a,σ a=none→Cc cx n (σ.set a (.fld [])) (.ref f) (.inst C (.ref a)::args) fun v σ'=>v=.none∧Q (.inst C (.ref a)) σ'):Cc cx (n+1) σ (.ref C) args Q:=fun B A s xs rd X r=>by
 have XK:cx.K.In s.heap:=cx.X.keeps X.keep
 obtain ⟨hh,g,d,t,os⟩:=s
 refine make_core (makes_of XK ck.makes) (looks_findIn XK hi) (fun self=>bind_fn XK self (beq_iff_eq.mp hf)) (.inl rfl) ?_
 have e1:(hh.push emptyDict).objs.size=hh.objs.size+1:=Heap.size_push ..
 have kp:∀ b o,hh.get? b=some o→((hh.push emptyDict).push (instObj C hh.objs.size)).get? b=some o:=fun b o e=>push_keep _ _ b o (push_keep _ _ b o e)
 have hdx:((hh.push emptyDict).push (instObj C hh.objs.size)).get? hh.objs.size=some emptyDict:=push_keep _ _ _ _ (Heap.get?_push_size _ rfl)
 have hx:((hh.push emptyDict).push (instObj C hh.objs.size)).get? (hh.objs.size+1)=some (instObj C hh.objs.size):=e1▸Heap.get?_push_size (hh.push emptyDict) (o:=instObj C hh.objs.size) rfl
 have hnew:hh.get? hh.objs.size=none:=get_none_size _
 have hnew1:hh.get? (hh.objs.size+1)=none:=by
  rcases e:hh.get? (hh.objs.size+1) with _|o
  ·rfl
  ·have:=Heap.lt_size e;exact absurd this (Nat.not_lt.mpr (Nat.le_succ _))
 have X1:=X.new (s':=⟨(hh.push emptyDict).push (instObj C hh.objs.size),g,d,t,os⟩) (v:=.fld []) kp rfl rfl hnew (X.fresh_not hnew) rfl (by
  exact ⟨_,[],0,rfl,fun x=>(by contradiction),hdx,rfl⟩)
 have S1:Step σ hh (σ.set hh.objs.size (.fld [])) ((hh.push emptyDict).push (instObj C hh.objs.size)):=new_step (s:=⟨hh,g,d,t,os⟩) (s':=⟨(hh.push emptyDict).push (instObj C hh.objs.size),g,d,t,os⟩) X kp hnew
 have rd':Rd n (A.under (.builtin "type.__call__" ⟨.ref C::xs,[]⟩)):=⟨rd.1,by have:=rd.2.1;rw [depth_under_make];omega,by have:=rd.2.2;rw [units_under_make];omega⟩
 have rx:∀ {σ'':Store} {h'':Heap},Step (σ.set hh.objs.size (.fld [])) ((hh.push emptyDict).push (instObj C hh.objs.size)) σ'' h''→Rp (cf cx B σ'' h'') (.inst C (.ref hh.objs.size)) (.ref (hh.objs.size+1)):=by
  intro σ'' h'' S
  have z:(σ.set hh.objs.size (.fld [])) (hh.objs.size+1)=none:=by
   have w:=X.new_none hnew1
   simp [Store.set,w]
  refine S.rp (cx:=cx) (B:=B) ?_
  refine ⟨_,_,rfl,fun o_=>?_,hx,rfl⟩
  rintro (q|q)
  ·exact X.fresh_not hnew1 q
  ·exact q z
 refine codeAny_mono (h _ (X.new_none hnew) B _ ⟨(hh.push emptyDict).push (instObj C hh.objs.size),g,d,t,os⟩ (.ref (hh.objs.size+1)::xs) rd' X1 ?_) fun r s' z=>?_
 ·exact ⟨_,_,rfl,rx (Step.refl _ _),S1.rpL r⟩
 ·obtain ⟨y,rfl,v,σ',X',S',hy,rfl,q⟩:=z
  have:y=.none:=of_none hy
  subst this
  exact ⟨rfl,_,rfl,_,σ',X',S1.trans S',rx S',q⟩
end
noncomputable def Keeps (cx:Cx) (f:Value):Prop:=∀ h,cx.K.In h→∃ k,(k=Keeper.frame∨k=Keeper.machine∨k=Keeper.boundFrame)∧Looks (model cx.prog cx.w) h (keeperOf f) k
theorem keeps_builtin {cx:Cx} (i:String):Keeps cx (.builtin i):=fun o_ o_=>⟨.machine,.inr (.inl rfl),Looks.of_pure rfl⟩
theorem keeps_type {cx:Cx} (i:String):Keeps cx (.type i):=fun o_ o_=>⟨.machine,.inr (.inl rfl),Looks.of_pure rfl⟩
theorem keeps_ref {cx:Cx} {f:Value} (h:keepIn cx.K f=true):Keeps cx f:=fun o_ X=>keeps_K h _ X
noncomputable def Mt (cx:Cx) (σ:Store) (v:V) (name:Str) (f:Value):Prop:=
 ∀ (B:Addr→Prop) (A:Around) (s:Shared) (x:Value) (pl:Sem Bool) (P:Value×List Value→Shared→Prop),St cx B σ s→Rp (cf cx B σ s.heap) v x→P (f,[x]) s→wpAny (model cx.prog cx.w) A (getMethod x name pl) P NoE s
section
variable {cx:Cx} {n:Nat} {sc:Scope} {Γ:Str→Option V} {σ σ':Store} {Q:V→Store→Prop} {B B':Addr→Prop} {s s':Shared} {A:Around}
theorem any_plain {env:Env} {pos:Pos}:∀ {es:List Expr},es.all notStar=true→(backTo pos (starEach es env)).any (·.1)=false
 | [],_=>rfl
 | e::r,h=>by
  have h':(notStar e && r.all notStar)=true:=h
  obtain ⟨h1,h2⟩:=Bool.and_eq_true_iff.mp h'
  rw [starEach_cons h1]
  show (false || (backTo pos (starEach r env)).any (·.1))=false
  rw [any_plain h2];rfl
theorem evalArgs_of {f:Value} {es:List Expr} {env:Env} {pos:Pos} {P:Args→Shared→Prop} {Er:Value→Shared→Prop} {M:Model} (hp:es.all notStar=true)
  (h:wpAny M A (spliced (backTo pos (starEach es env))) (fun vs s'=>P ⟨vs,[]⟩ s') Er s):wpAny M A (evalArgs f true (backTo pos (starEach es env)) []) P Er s:=by
 rcases es with _|⟨e,r⟩
 ·
  skip
  skip
  refine wpAny_bind (wpAny_mono h (fun vs s' h'=>?_) fun o_ o_ x=>x)
  exact wpAny_bind (wpAny_pure (wpAny_holding (wpAny_bind (wpAny_pure (wpAny_bind (wpAny_pure (wpAny_pure h')))))))
 ·
  have h':(notStar e && r.all notStar)=true:=hp
  rw [starEach_cons (Bool.and_eq_true_iff.mp h').1] at h ⊢
  exact evalArgs_plain h
theorem callWith_run {f:Value} {first:List Value} {es:List Expr} {env:Env} {pos:Pos} {P:Value→Shared→Prop} (X:St cx B σ s) (kf:Keeps cx f) (hp:es.all notStar=true)
  (h:wpAny (model cx.prog cx.w) A (spliced (backTo pos (starEach es env))) (fun vs s'=>cx.K.In s'.heap∧wpAny (model cx.prog cx.w) A (call f (first++vs)) P NoE s') NoE s) :
  wpAny (model cx.prog cx.w) A (callWith pos f first (backTo pos (starEach es env)) []) P NoE s:=
 callWith_of (by rw [any_plain hp];rfl) kf (evalArgs_of hp h)
theorem Ev_call {f:Str} {fp pos:Pos} {fv:Value} {args:List Expr} (hk:sc.names.lookup f=some .globalImplicit) (hf:GlobIs cx f fv) (kf:Keeps cx fv) (h:EvL cx n sc Γ σ args fun vs σ₁=>Cl cx n σ₁ fv vs Q)
  (hp:args.all notStar=true:=by rfl) (hd:(f==("__debug__" : Str))=false:=by decide):Ev cx n sc Γ σ (.Call (.Name f fp) args [] pos) Q:=fun B env A s rd X E=>by
 skip
 refine wpAny_bind (glob_name X E hk hf ?_ hd)
 refine callWith_run X kf hp (wpAny_mono (h.run B env A s rd X E) (fun xs s₁ o=>?_) fun o_ o_ x=>x)
 obtain ⟨vs,σ₁,X₁,S₁,r₁,q⟩:=o
 exact ⟨cx.X.keeps X₁.keep,wpAny_mono (q B A s₁ xs rd X₁ r₁) (fun o_ o_ o=>o.pre S₁) fun o_ o_ x=>x⟩
theorem Ev_meth {o:Expr} {name:Str} {apos pos:Pos} {args:List Expr} {pl:Env→Sem Bool} (h:Ev cx n sc Γ σ o fun v σ₁=>∃ f,Mt cx σ₁ v name f∧Keeps cx f∧EvL cx n sc Γ σ₁ args fun vs σ₂=>Cl cx n σ₂ f (v::vs) Q)
  (hp:args.all notStar=true:=by rfl)
  (he:∀ env,eval (.Call (.Attribute o name apos) args [] pos) env=(do
   let ov ← eval o env
   standAt apos.atName
   let (f,first) ← holding [ov] (getMethod ov name (pl env))
   callWith pos f first (backTo pos (starEach args env)) []):=by intro _;rfl):Ev cx n sc Γ σ (.Call (.Attribute o name apos) args [] pos) Q:=fun B env A s rd X E=>by
 refine MethodCall_ (pl:=pl env) (wpAny_mono (h B env A s rd X E) (fun x s₁ o=>?_) fun o_ o_ x=>x) (he env)
 obtain ⟨v,σ₁,X₁,S₁,r₁,f,hm,kf,h₁⟩:=o
 refine hm B A s₁ x _ _ X₁ r₁ ?_
 refine callWith_run X₁ kf hp (wpAny_mono (h₁.run B env A s₁ rd X₁ (E.step X.shut S₁)) (fun xs s₂ o=>?_) fun o_ o_ x=>x)
 obtain ⟨vs,σ₂,X₂,S₂,r₂,q⟩:=o
 refine ⟨cx.X.keeps X₂.keep,wpAny_mono (q B A s₂ (x::xs) rd X₂ ?_) (fun o_ o_ o=>o.pre (S₁.trans S₂)) fun o_ o_ x=>x⟩
 exact ⟨x,xs,rfl,S₂.rp r₁,r₂⟩
theorem Mt_inst {c:Addr} {d:V} {fs:List (Str×V)} {name:Str} {f:Addr} (hd:lk σ d=some (.fld fs)) (ck:ClsOk cx.K c) (hf:findIn cx.K (.ref c) name=some (some (.ref f))) (hfn:isFn cx.K (.ref f)=true) (hn:fget fs name=none) :
  Mt cx σ (.inst c d) name (.ref f):=fun B A s x pl P X r h=>method_at X r hd ck hf hfn hn h
noncomputable def V.type? : V→Option String
 | .none=>some "NoneType" | .bool _=>some "bool" | .int _=>some "int" | .str _=>some "str"
 | .tup _=>some "tuple" | .lst _=>some "list"
 | .dI _ | .dS _ | .dT _ | .fld _=>some "dict"
 | .sI _ | .sT _=>some "set"
 | _=>Option.none
theorem box_type {h:Heap} {x:Value} {T:String} {a:Addr} {o:Obj} {g d tk os} (e:x=.ref a) (ho:h.get? a=some o) (hc:o.cls=.type T) (hd:o.dict=none):(⟨h,g,d,tk,os⟩:Shared).TypeIs x T∧∀ a,x=.ref a→∃ o,h.get? a=some o∧o.dict=none:=by
 subst e
 exact ⟨⟨_,ho,hc⟩,fun b q=>by (injection q with q;subst q);exact ⟨_,ho,hd⟩⟩
theorem typeIs_rp {C:Cf} {f:Bool} {v:V} {x:Value} {T:String} {g d tk os} (r:G C f v x) (e:v.type? = some T):(⟨C.h,g,d,tk,os⟩:Shared).TypeIs x T∧∀ a,x=.ref a→∃ o,C.h.get? a=some o∧o.dict=none:=by
 cases v
 case inst=>exact nomatch (show Option.none=some T from e)
 case ref=>exact nomatch (show Option.none=some T from e)
 all_goals obtain rfl:=Option.some.inj e
 case none=>obtain rfl:x=.none:=r;exact ⟨rfl,fun a q=>Value.noConfusion q⟩
 case bool=>obtain rfl:x=.bool _:=r;exact ⟨rfl,fun a q=>Value.noConfusion q⟩
 case int=>obtain ⟨t,rfl⟩:=r;exact ⟨rfl,fun a q=>Value.noConfusion q⟩
 case str=>obtain ⟨t,rfl⟩:=r;exact ⟨rfl,fun a q=>Value.noConfusion q⟩
 case tup=>obtain ⟨a,_,_,e,_,ho,_⟩:=r;exact box_type e ho rfl rfl
 case lst=>obtain ⟨a,_,_,e,_,ho,_⟩:=r;exact box_type e ho rfl rfl
 case dI=>obtain ⟨a,_,_,e,_,ho,_⟩:=r;exact box_type e ho rfl rfl
 case dS=>obtain ⟨a,_,_,e,_,ho,_⟩:=r;exact box_type e ho rfl rfl
 case dT=>obtain ⟨a,_,_,e,_,ho,_⟩:=r;exact box_type e ho rfl rfl
 case fld=>obtain ⟨a,_,_,e,_,ho,_⟩:=r;exact box_type e ho rfl rfl
 case sI=>obtain ⟨a,_,_,_,e,_,ho,_⟩:=r;exact box_type e ho rfl rfl
 case sT=>obtain ⟨a,_,_,_,e,_,ho,_⟩:=r;exact box_type e ho rfl rfl
theorem Mt_type {v c:V} {T:String} {name:Str} {id:String} (hv:lk σ v=some c) (hc:c.type? = some T) (pa:PlainAttrs T) (slot:Slot T name id) (hty:typeOf (.builtin id)=pure (.type "method_descriptor")):Mt cx σ v name (.builtin id):=fun B A s x pl P X r h=>by
 have g:=looked X r hv (fun a q=>by subst q;contradiction)
 obtain ⟨h1,h2⟩:=typeIs_rp (C:=cf cx B σ s.heap) (g:=s.gens) (d:=s.drawn) (tk:=s.toks) (os:=s.os) g hc
 exact getMethod_builtin h1 pa slot hty h2 h
end
noncomputable def upd (Γ:Str→Option V) (x:Str) (v:V):Str→Option V:=fun y=>if y=x then some v else Γ y
inductive OutU (cx:Cx) (B:Addr→Prop) (sc:Scope) (env:Env) (σ:Store) (h:Heap) (Q:(Str→Option V)→Store→Prop) (s':Shared):Prop
 | mk (Γ':Str→Option V) (σ':Store) (X:St cx B σ' s') (E:EnvOk cx sc Γ' B σ' env s'.heap) (S:StepX (ownOf' env sc) σ h σ' s'.heap) (q:Q Γ' σ')
noncomputable def As (cx:Cx) (n:Nat) (sc:Scope) (Γ:Str→Option V) (σ:Store) (t:Expr) (v:V) (Q:(Str→Option V)→Store→Prop):Prop:=
 ∀ (B:Addr→Prop) (env:Env) (A:Around) (s:Shared) (x:Value),Rd n A→St cx B σ s→EnvOk cx sc Γ B σ env s.heap→Rp (cf cx B σ s.heap) v x →
  wpAny (model cx.prog cx.w) A (assign t env x) (fun o_ s'=>OutU cx B sc env σ s.heap Q s') NoE s
noncomputable def AsL (cx:Cx) (n:Nat) (sc:Scope):(Str→Option V)→Store→List Expr→List V→((Str→Option V)→Store→Prop)→Prop
 | Γ,σ,[],[],Q=>Q Γ σ
 | Γ,σ,t::ts,v::vs,Q=>notStar t=true∧As cx n sc Γ σ t v fun Γ₁ σ₁=>AsL cx n sc Γ₁ σ₁ ts vs Q
 | _,_,_,_,_=>False
section
variable {cx:Cx} {n:Nat} {sc:Scope} {Γ:Str→Option V} {σ σ':Store} {B B':Addr→Prop} {s s':Shared} {A:Around}
theorem OutU.pre {env:Env} {σ₁:Store} {h h₁:Heap} {Q:(Str→Option V)→Store→Prop} {s':Shared} (S:StepX (ownOf' env sc) σ h σ₁ h₁) (o:OutU cx B sc env σ₁ h₁ Q s'):OutU cx B sc env σ h Q s':=
 by obtain ⟨Γ',σ',a,b,c,d⟩:=o;exact ⟨Γ',σ',a,b,S.trans c,d⟩
theorem OutX.pre {env:Env} {σ₁:Store} {h h₁:Heap} {Q:Fl→(Str→Option V)→Store→Prop} {f:Flow} {s':Shared} (S:StepX (ownOf' env sc) σ h σ₁ h₁) (o:OutX cx B sc env σ₁ h₁ Q f s'):OutX cx B sc env σ h Q f s':=
 by obtain ⟨φ,Γ',σ',a,b,c,d,e⟩:=o;exact ⟨φ,Γ',σ',a,b,S.trans c,d,e⟩
theorem EnvOk.shutOwn {env:Env} {h:Heap} (E:EnvOk cx sc Γ B σ env h) (X:St cx B σ s):∀ a,ownOf' env sc a→σ a=none:=fun a q=>X.shut a (E.own_B a q).1
theorem upd_same {Γ:Str→Option V} {x:Str} {v u:V} (e:upd Γ x v x=some u):v=u:=Option.some.inj ((if_pos rfl).symm.trans e)
theorem upd_ne {Γ:Str→Option V} {x z:Str} {v:V} {o:Option V} (hz:z≠x) (e:upd Γ x v z=o):Γ z=o:=(if_neg hz).symm.trans e
theorem EnvOk.bindL {env:Env} {h h':Heap} {x:Str} {v:V} {y:Value} {m m':Str→Option Value} (E:EnvOk cx sc Γ B σ env h) (hk:sc.names.lookup x=some .local) (hx:∀ z u,Γ z=some u→sc.names.lookup z=some .local→∃ w,m z=some w∧Rp (cf cx B σ h) u w)
  (hn:h'.Ns env.locals m') (e1:m' x=some y) (e2:∀ z,z≠x→m' z=m z) (hs:Heap.SameBut env.locals h h') (S':StepX (fun a=>a=env.locals) σ h σ h') (r:Rp (cf cx B σ h) v y):EnvOk cx sc (upd Γ x v) B σ env h':=by
 refine ⟨E.sc_,E.kind,E.gl,E.bi,E.ownL,E.newL,⟨_,hn,fun z u e l=>?_⟩,fun z hz=>?_,E.apart⟩
 ·by_cases hz:z=x
  ·subst hz
   cases upd_same e
   exact ⟨y,e1,S'.rp (fun a q=>q▸E.ownL) r⟩
  ·obtain ⟨w,hw,hr⟩:=hx z u (upd_ne hz e) l
   exact ⟨w,(e2 z hz).trans hw,S'.rp (fun a q=>q▸E.ownL) hr⟩
 ·obtain ⟨c,cv,h1,h2,h3,hc,h4⟩:=E.cells z hz
  refine ⟨c,cv,h1,h2,h3,hc.sameBut hs (E.cell_ne hc),fun u e=>?_⟩
  have hzx:z≠x:=by rintro rfl;rw [hk] at hz;rcases hz with hz | hz <;> contradiction
  obtain ⟨w,hw,hr⟩:=h4 u (upd_ne hzx e)
  exact ⟨w,hw,S'.rp (fun a q=>q▸E.ownL) hr⟩
theorem EnvOk.bindC {env:Env} {h h':Heap} {x:Str} {v:V} {y:Value} {c:Addr} (E:EnvOk cx sc Γ B σ env h) (hk:sc.names.lookup x=some .cell) (h1:env.cells.lookup x=some c) (h2:B c) (h3:cx.h₀.get? c=none) (ne:c≠env.locals) (hc':h'.IsCell c (some y)) (hs:Heap.SameBut c h h') (S':StepX (fun a=>a=c) σ h σ h') (r:Rp (cf cx B σ h) v y):EnvOk cx sc (upd Γ x v) B σ env h':=by
 obtain ⟨m,hm,hx⟩:=E.ns
 refine ⟨E.sc_,E.kind,E.gl,E.bi,E.ownL,E.newL,⟨m,hm.sameBut hs (Ne.symm ne),fun z u e l=>?_⟩,fun z hz=>?_,E.apart⟩
 ·have hzx:z≠x:=by rintro rfl;rw [hk] at l;contradiction
  obtain ⟨w,hw,hr⟩:=hx z u (upd_ne hzx e) l
  exact ⟨w,hw,S'.rp (fun a q=>q▸h2) hr⟩
 ·by_cases hzx:z=x
  ·subst hzx
   refine ⟨c,_,h1,h2,h3,hc',fun u e=>?_⟩
   cases upd_same e
   exact ⟨y,rfl,S'.rp (fun a q=>q▸h2) r⟩
  ·obtain ⟨d,dv,k1,k2,k3,hd,k4⟩:=E.cells z hz
   refine ⟨d,dv,k1,k2,k3,hd.sameBut hs (fun q=>hzx (E.apart z x c (q▸k1) h1)),fun u e=>?_⟩
   obtain ⟨w,hw,hr⟩:=k4 u (upd_ne hzx e)
   exact ⟨w,hw,S'.rp (fun a q=>q▸h2) hr⟩
theorem store_name {env:Env} {x:Str} {v:V} {y:Value} {P:Unit→Shared→Prop} (X:St cx B σ s) (E:EnvOk cx sc Γ B σ env s.heap) (hk:sc.names.lookup x=some .local∨sc.names.lookup x=some .cell) (r:Rp (cf cx B σ s.heap) v y)
  (h:∀ s',St cx B σ s'→EnvOk cx sc (upd Γ x v) B σ env s'.heap→StepX (ownOf' env sc) σ s.heap σ s'.heap→P () s'):wpAny (model cx.prog cx.w) A (storeName env x y) P NoE s:=by
 have ek:env.scope.kind=.function:=by rw [E.sc_];exact E.kind
 have eo:∀ z,env.kindOf z=sc.names.lookup z:=fun z=>by delta Env.kindOf;rw [E.sc_]
 rcases hk with hk|hk
 ·obtain ⟨m,hm,hx⟩:=E.ns
  refine wpAny_storeName_local ((eo x).trans hk) hm (fun h' hn hs=>?_) (by rw [ek];rfl)
  obtain ⟨o,_,_,ho,_⟩:=id hn
  obtain ⟨X',S'⟩:=X.frame (own:=fun a=>a=env.locals) (s':={ s with heap:=h',toks:=s.toks+1 }) (fun a q=>by subst q;exact ⟨E.ownL,E.newL,o,ho⟩) (fun b o hb e=>(hs.2 b hb).trans e) rfl rfl
  exact h _ X' (E.bindL hk hx hn (if_pos rfl) (fun z hz=>if_neg hz) hs S' r) (S'.wider (fun a q=>.inl q) (E.shutOwn X))
 ·obtain ⟨c,cv,h1,h2,h3,hc,h4⟩:=E.cells x (.inl hk)
  refine wpAny_storeName_cell ek ((eo x).trans hk) h1 hc fun h' hc' hs=>?_
  obtain ⟨o,ho,_⟩:=id hc'
  obtain ⟨X',S'⟩:=X.frame (own:=fun a=>a=c) (s':={ s with heap:=h' }) (fun a q=>by subst q;exact ⟨h2,h3,o,ho⟩) (fun b o hb e=>(hs.2 b hb).trans e) rfl rfl
  exact h _ X' (E.bindC hk h1 h2 h3 (E.cell_ne hc) hc' hs S' r) (S'.wider (fun a q=>.inr ⟨x,hk,q▸h1⟩) (E.shutOwn X))
theorem As_name {x:Str} {pos:Pos} {v:V} {Q:(Str→Option V)→Store→Prop} (hk:sc.names.lookup x=some .local∨sc.names.lookup x=some .cell) (h:Q (upd Γ x v) σ):As cx n sc Γ σ (.Name x pos) v Q:=fun B env A s y rd X E r=>
 assign_Name (store_name X E hk r fun s' X' E' S'=>⟨_,σ,X',E',S',h⟩)
theorem keep_toX {env:Env} (X:St cx B σ s) (E:EnvOk cx sc Γ B σ env s.heap) {h':Heap} {t:Nat} (k:∀ b o,s.heap.get? b=some o→h'.get? b=some o) :
  St cx B σ { s with heap:=h',toks:=t }∧EnvOk cx sc Γ B σ env h'∧StepX (ownOf' env sc) σ s.heap σ h':=
 ⟨X.all k rfl rfl,E.step X.shut (step_all (s:=s) (s':={ s with heap:=h' }) k),(step_all (s:=s) (s':={ s with heap:=h' }) k).toX (E.shutOwn X)⟩
theorem AsL.run {env:Env}:∀ {ts:List Expr} {vs:List V} {Γ:Str→Option V} {σ:Store} {s:Shared} {xs:List Value} {Q:(Str→Option V)→Store→Prop},AsL cx n sc Γ σ ts vs Q→Rd n A→St cx B σ s→EnvOk cx sc Γ B σ env s.heap→RpL (cf cx B σ s.heap) vs xs →
  wpAny (model cx.prog cx.w) A (assignInOrder ((assignEach ts env).map (·.2)) xs) (fun o_ s'=>OutU cx B sc env σ s.heap Q s') NoE s
 | [],[],Γ,σ,s,xs,Q,h,rd,X,E,r=>by
  subst r
  exact wpAny_pure ⟨Γ,σ,X,E,(Step.refl _ _).toX (E.shutOwn X),h⟩
 | t::ts,v::vs,Γ,σ,s,xs,Q,h,rd,X,E,r=>by
  obtain ⟨x,q,rfl,hx,hr⟩:=r
  obtain ⟨h1,h2⟩:=h
  have e:assignEach (t::ts) env=(false,assign t env)::assignEach ts env:=by cases t <;> first | rfl | contradiction
  rw [e]
  skip
  refine wpAny_bind (wpAny_holding (wpAny_mono (h2 B env A s x rd X E hx) (fun o_ s₁ o=>?_) fun o_ o_ x=>x))
  obtain ⟨Γ₁,σ₁,X₁,E₁,S₁,q₁⟩:=o
  exact wpAny_mono (AsL.run q₁ rd X₁ E₁ (S₁.rpL (fun a q=>(E.own_B a q).1) hr)) (fun o_ o_ o=>o.pre S₁) fun o_ o_ x=>x
 | [],_::_,_,_,_,_,_,h,_,_,_,_=>h.elim
 | _::_,[],_,_,_,_,_,h,_,_,_,_=>h.elim
theorem assignEach_plain {env:Env}:∀ {ts:List Expr},ts.all notStar=true→(assignEach ts env).length=ts.length∧(assignEach ts env).findIdx? (·.1)=none
 | [],_=>⟨rfl,rfl⟩
 | t::ts,h=>by
  have h':(notStar t && ts.all notStar)=true:=h
  obtain ⟨h1,h2⟩:=Bool.and_eq_true_iff.mp h'
  have e:assignEach (t::ts) env=(false,assign t env)::assignEach ts env:=by cases t <;> first | rfl | contradiction
  obtain ⟨a,b⟩:=assignEach_plain (env:=env) h2
  rw [e]
  exact ⟨by simp [a],by simp [List.findIdx?_cons,b]⟩
theorem draw_list {it l:Addr} {items:Array Value} (hne:l≠it) {M:Program} {w:World} {Er:Value→Shared→Prop}:∀ (k i:Nat) (s:Shared) (P:List Value→Shared→Prop),s.heap.IsListIter it l i→s.heap.IsList l items→i+k≤items.size →
  (∀ h',h'.IsListIter it l (i+k)→Heap.SameBut it s.heap h'→P ((items.toList.drop i).take k) { s with heap:=h' })→wpAny (model M w) A (draw (.ref it) k) P Er s
 | 0,i,s,P,hit,hl,hk,h=>by
  have:=h s.heap (hit) (Heap.SameBut.refl _ _)
  skip
  exact wpAny_pure this
 | k+1,i,s,P,hit,hl,hk,h=>by
  have hlt:i<items.size:=by omega
  skip
  refine wpAny_bind (wpAny_pyNext_list_item hit hl (Array.getElem?_eq_getElem hlt) fun h₁ hit₁ hs₁=>?_)
  refine wpAny_bind (wpAny_holding (draw_list hne k (i+1) _ _ hit₁ (hl.extBut hs₁.extBut hne) (by omega) fun h₂ hit₂ hs₂=>wpAny_pure ?_))
  have hd:items.toList.drop i=items[i]::items.toList.drop (i+1):=by simp [List.drop_eq_getElem_cons,hlt]
  have:=h h₂ (by rw [show i+(k+1)=i+1+k by omega];exact hit₂) (hs₁.trans hs₂)
  rw [hd,List.take_succ_cons] at this
  exact this
theorem unpackItems_list {l:Addr} {items:Array Value} {M:Program} {w:World} {Er:Value→Shared→Prop} {P:List Value→Shared→Prop} (hh:A.handled=none) (hl:s.heap.IsList l items)
  (h:∀ h',(∀ b o,s.heap.get? b=some o→h'.get? b=some o)→P items.toList { s with heap:=h' }):wpAny (model M w) A (unpackItems (.ref l) items.size none) P Er s:=by
 have hlt:l≠s.heap.objs.size:=by obtain ⟨o,ho,_⟩:=hl;exact Nat.ne_of_lt (Heap.lt_size ho)
 skip
 refine wpAny_bind ?_
 skip
 refine wpAny_bind (wpAny_specialOf hl.typeIs F.slot_list_iter.lookup ?_)
 refine wpAny_pure ?_
 skip
 refine wpAny_bind (wpAny_holding (wpAny_pyIter_list hl ?_))
 refine wpAny_bind (wpAny_holding (draw_list hlt items.size 0 _ _ ⟨_,Heap.get?_push_size _ rfl,rfl,rfl⟩ (hl.push _) (by omega) fun h₁ hit₁ hs₁=>?_))
 have hall:List.take items.size (List.drop 0 items.toList)=items.toList:=by
  rw [List.drop_zero];exact List.take_of_length_le (by simp)
 rw [hall,if_neg (by simp)]
 have hl₁:h₁.IsList l items:=(hl.push _).extBut hs₁.extBut hlt
 refine wpAny_bind (wpAny_holding (wpAny_pyNext_list_end hh hit₁ hl₁ (by simp) fun h₂ he₂=>?_))
 skip
 refine wpAny_pure (h h₂ fun b o e=>?_)
 have hb:b≠s.heap.objs.size:=Nat.ne_of_lt (Heap.lt_size e)
 exact he₂ b o hb (hs₁.extBut b o hb (Heap.get?_push_of_some _ e))
noncomputable def seqOf:V→Option (List V)
 | .tup l=>some l
 | .lst l=>some l
 | _=>Option.none
theorem seqOf_inv {c:V} {l:List V} (h:seqOf c=some l):c=.tup l∨c=.lst l:=by
 cases c
 case tup=>exact .inl (congrArg V.tup (Option.some.inj h))
 case lst=>exact .inr (congrArg V.lst (Option.some.inj h))
 all_goals exact nomatch (show Option.none=some l from h)
theorem items_size {C:Cf} {l:List V} {items:Array Value} (h:RpL C l items.toList):items.size=l.length:=Array.length_toList.symm.trans (RpL.length h)
theorem unpackItems_at {v c:V} {l:List V} {x:Value} {P:List Value→Shared→Prop} (X:St cx B σ s) (r:Rp (cf cx B σ s.heap) v x) (hv:lk σ v=some c) (hc:seqOf c=some l) (hh:A.handled=none)
  (h:∀ h' xs,(∀ b o,s.heap.get? b=some o→h'.get? b=some o)→RpL (cf cx B σ s.heap) l xs→P xs { s with heap:=h' }):wpAny (model cx.prog cx.w) A (unpackItems x l.length none) P NoE s:=by
 have g:=looked X r hv (fun a q=>by subst q;contradiction)
 rcases seqOf_inv hc with rfl|rfl
 ·obtain ⟨a,items,k,rfl,_,ho,hl⟩:=g
  have e:items.size=l.length:=items_size hl
  rw [← e]
  exact wpAny_unpackItems_tuple hh ⟨_,ho,rfl,k,rfl⟩ fun h' hs=>h h' _ (fun b o e=>hs b o (Nat.ne_of_lt (Heap.lt_size e)) e) hl
 ·obtain ⟨a,items,k,rfl,_,ho,hl⟩:=g
  have e:items.size=l.length:=items_size hl
  rw [← e]
  exact unpackItems_list hh ⟨_,ho,rfl,k,rfl⟩ fun h' hs=>h h' _ hs hl
theorem As_tuple {ts:List Expr} {k:Nat} {pos:Pos} {v c:V} {l:List V} {Q:(Str→Option V)→Store→Prop} (hv:lk σ v=some c) (hc:seqOf c=some l) (hl:l.length=ts.length) (h:AsL cx n sc Γ σ ts l Q) (hp:ts.all notStar=true:=by rfl) :
  As cx n sc Γ σ (.Tuple ts k pos) v Q:=fun B env A s x rd X E r=>by
 rw [arm_assign_Tuple]
 refine wpAny_bind (wpAny_standAt ?_)
 delta unpack
 obtain ⟨e1,e2⟩:=assignEach_plain (env:=env) hp
 rw [e1,e2,← hl]
 refine wpAny_bind (wpAny_holding (unpackItems_at X r hv hc rd.1 fun h' xs kp rl=>?_))
 obtain ⟨X',E',S'⟩:=keep_toX X E (t:=s.toks) kp
 refine wpAny_mono (h.run rd X' E' (S'.rpL (fun a q=>(E.own_B a q).1) rl)) (fun o_ o_ o=>o.pre S') fun o_ o_ x=>x
end
section
variable {cx:Cx} {n:Nat} {sc:Scope} {Γ:Str→Option V} {σ σ':Store} {B B':Addr→Prop} {s s':Shared} {A:Around} {Q:Fl→(Str→Option V)→Store→Prop}
theorem Exs_nil (h:Q .next Γ σ):Exs cx n sc Γ σ [] Q:=fun B env A s rd X E=>by
 skip
 exact wpAny_pure ⟨.next,Γ,σ,X,E,(Step.refl _ _).toX (E.shutOwn X),rfl,h⟩
noncomputable def After (cx:Cx) (n:Nat) (sc:Scope) (r:List Stmt) (Q:Fl→(Str→Option V)→Store→Prop) (φ:Fl) (Γ₁:Str→Option V) (σ₁:Store):Prop:=match φ with
 | .next=>Exs cx n sc Γ₁ σ₁ r Q
 | φ=>Q φ Γ₁ σ₁
theorem Exs_cons {st:Stmt} {r:List Stmt} (h:Ex cx n sc Γ σ st (After cx n sc r Q)):Exs cx n sc Γ σ (st::r) Q:=fun B env A s rd X E=>by
 skip
 refine wpAny_bind (wpAny_mono (h B env A s rd X E) (fun f s₁ o=>?_) fun o_ o_ x=>x)
 obtain ⟨φ,Γ₁,σ₁,X₁,E₁,S₁,hf,q⟩:=o
 cases φ with
 | next=>
  have:f=.next:=hf
  subst this
  exact wpAny_mono (q B env A s₁ rd X₁ E₁) (fun o_ o_ o=>o.pre S₁) fun o_ o_ x=>x
 | brk=>have:f=.brk:=hf;subst this;exact wpAny_pure ⟨.brk,Γ₁,σ₁,X₁,E₁,S₁,rfl,q⟩
 | cont=>have:f=.cont:=hf;subst this;exact wpAny_pure ⟨.cont,Γ₁,σ₁,X₁,E₁,S₁,rfl,q⟩
 | ret v=>obtain ⟨x,rfl,hx⟩:=hf;exact wpAny_pure ⟨.ret v,Γ₁,σ₁,X₁,E₁,S₁,⟨x,rfl,hx⟩,q⟩
theorem Exs_wk {b:List Stmt} (h:∀ Q':Fl→(Str→Option V)→Store→Prop,(∀ {f Γ σ},Q f Γ σ→Q' f Γ σ)→Exs cx n sc Γ σ b Q'):Exs cx n sc Γ σ b Q:=h Q id
theorem Ex_ret {e:Expr} {pos:Pos} (h:Ev cx n sc Γ σ e fun v σ₁=>Q (.ret v) Γ σ₁):Ex cx n sc Γ σ (.Return (some e) pos) Q:=fun B env A s rd X E=>by
 refine wpAny_Return_some (wpAny_mono (h B env A s rd X E) (fun x s₁ o=>?_) fun o_ o_ x=>x)
 obtain ⟨v,σ₁,X₁,S₁,r₁,q⟩:=o
 exact ⟨.ret v,Γ,σ₁,X₁,E.step X.shut S₁,S₁.toX (E.shutOwn X),⟨x,rfl,r₁⟩,q⟩
noncomputable def V.plain:V→Bool
 | .none | .bool _ | .int _ | .str _=>true
 | _=>false
theorem Ex_expr {e:Expr} {pos:Pos} (h:Ev cx n sc Γ σ e fun v σ₁=>v.plain=true∧Q .next Γ σ₁) (hs:∀ env,swapsWith e none pos.line env=pure false):Ex cx n sc Γ σ (.Expr e pos) Q:=fun B env A s rd X E=>by
 refine wpAny_Expr (wpAny_mono (h B env A s rd X E) (fun x s₁ o=>?_) fun o_ o_ x=>x) (by delta interactive;rw [E.sc_,E.kind];rfl) (hs env)
 obtain ⟨v,σ₁,X₁,S₁,r₁,hp,q⟩:=o
 have fin:OutX cx B sc env σ s.heap Q .next s₁:=⟨.next,Γ,σ₁,X₁,E.step X.shut S₁,S₁.toX (E.shutOwn X),rfl,q⟩
 cases v
 case none=>rw [of_none r₁];exact fin
 case bool=>rw [of_bool r₁];exact fin
 case int=>obtain ⟨t,rfl⟩:=of_int r₁;exact fin
 case str=>obtain ⟨t,rfl⟩:=of_str r₁;exact fin
 all_goals exact Bool.noConfusion (show false=true from hp)
theorem Ex_if {t:Expr} {a b:List Stmt} {pos:Pos} (h:Te cx n sc Γ σ t fun c σ₁=>(c=true→Exs cx n sc Γ σ₁ a Q)∧(c=false→Exs cx n sc Γ σ₁ b Q)):Ex cx n sc Γ σ (.If t a b pos) Q:=fun B env A s rd X E=>by
 refine wpAny_If (wpAny_mono (h B env A s rd X E) (fun c s₁ o=>?_) fun o_ o_ x=>x)
 obtain ⟨σ₁,X₁,S₁,h1,h2⟩:=o
 rcases c with _|_
 ·exact wpAny_mono (h2 rfl B env A s₁ rd X₁ (E.step X.shut S₁)) (fun o_ o_ o=>OutX.pre (S₁.toX (E.shutOwn X)) o) fun o_ o_ x=>x
 ·exact wpAny_mono (h1 rfl B env A s₁ rd X₁ (E.step X.shut S₁)) (fun o_ o_ o=>OutX.pre (S₁.toX (E.shutOwn X)) o) fun o_ o_ x=>x
theorem Ex_name {x:Str} {xp pos:Pos} {e:Expr} (hk:sc.names.lookup x=some .local∨sc.names.lookup x=some .cell) (h:Ev cx n sc Γ σ e fun v σ₁=>Q .next (upd Γ x v) σ₁)
  (hs:∀ env,env.scope=sc→swapsWith e (some (.Name x xp)) pos.line env=pure false:=by first | (intro _ _;rfl) | (intro env e;cases env;dsimp only at e;cases e;rfl)):Ex cx n sc Γ σ (.Assign [.Name x xp] e pos) Q:=fun B env A s rd X E=>by
 refine wpAny_Assign_Name (wpAny_mono (h B env A s rd X E) (fun y s₁ o=>?_) fun o_ o_ x=>x) (hs env E.sc_)
 obtain ⟨v,σ₁,X₁,S₁,r₁,q⟩:=o
 refine store_name X₁ (E.step X.shut S₁) hk r₁ fun s' X' E' S'=>⟨.next,_,σ₁,X',E',(S₁.toX (E.shutOwn X)).trans S',rfl,q⟩
theorem Ex_attr {o e:Expr} {attr:Str} {ap pos:Pos} (h:Ev cx n sc Γ σ e fun v σ₁=>Ev cx n sc Γ σ₁ o fun ov σ₂=>∃ c a fs,ov=.inst c (.ref a)∧σ₂ a=some (.fld fs)∧fs.length<1000∧ClsOk cx.K c∧takerIn cx.K c attr=some none∧Q .next Γ (σ₂.set a (.fld (fput fs attr v))))
  (hs:∀ env,swapsWith e (some (.Attribute o attr ap)) pos.line env=pure false:=by intro _;rfl):Ex cx n sc Γ σ (.Assign [.Attribute o attr ap] e pos) Q:=fun B env A s rd X E=>by
 refine plainObj_wpAny_Assign_Attribute (wpAny_mono (h B env A s rd X E) (fun y s₁ z=>?_) fun o_ o_ x=>x) (hs env)
 obtain ⟨v,σ₁,X₁,S₁,r₁,h₁⟩:=z
 have E₁:=E.step X.shut S₁
 refine wpAny_mono (h₁ B env A s₁ rd X₁ E₁) (fun y s₂ z=>?_) fun o_ o_ x=>x
 obtain ⟨ov,σ₂,X₂,S₂,r₂,c,a,fs,rfl,ha,hz,ck,ht,q⟩:=z
 have E₂:=E₁.step X₁.shut S₂
 exact setAttr_at X₂ E₂ r₂ ha (S₂.rp r₁) ck ht hz fun s' X' E' S'=>⟨.next,Γ,_,X',E',((S₁.trans S₂).toX (E.shutOwn X)).trans S',rfl,q⟩
theorem Ex_tuple {ts:List Expr} {k:Nat} {tp pos:Pos} {e:Expr} (h:Ev cx n sc Γ σ e fun v σ₁=>As cx n sc Γ σ₁ (.Tuple ts k tp) v fun Γ' σ₂=>Q .next Γ' σ₂)
  (hs:∀ env,swapsWithSole [.Tuple ts k tp] e pos.line env=pure false:=by intro _;rfl) (hw:∀ env,env.scope=sc→swappedStores [.Tuple ts k tp] e env=pure none):Ex cx n sc Γ σ (.Assign [.Tuple ts k tp] e pos) Q:=fun B env A s rd X E=>by
 refine Assign_Tuple (wpAny_mono (h B env A s rd X E) (fun y s₁ o=>?_) fun o_ o_ x=>x) (hs env) (hw env E.sc_)
 obtain ⟨v,σ₁,X₁,S₁,r₁,q⟩:=o
 refine wpAny_mono (q B env A s₁ y rd X₁ (E.step X.shut S₁) r₁) (fun o_ s₂ o=>?_) fun o_ o_ x=>x
 obtain ⟨Γ₂,σ₂,X₂,E₂,S₂,q⟩:=o
 exact ⟨.next,Γ₂,σ₂,X₂,E₂,(S₁.toX (E.shutOwn X)).trans S₂,rfl,q⟩
noncomputable def updL:(Str→Option V)→List Str→List V→(Str→Option V)
 | Γ,x::xs,v::vs=>updL (upd Γ x v) xs vs
 | Γ,_,_=>Γ
theorem bindAll_run {env:Env}:∀ {xs:List Str} {vs:List V} {Γ:Str→Option V} {s:Shared} {ys:List Value} {P:Unit→Shared→Prop},(∀ x∈xs,sc.names.lookup x=some .local∨sc.names.lookup x=some .cell)→xs.length=vs.length→St cx B σ s→EnvOk cx sc Γ B σ env s.heap→RpL (cf cx B σ s.heap) vs ys →
  (∀ s',St cx B σ s'→EnvOk cx sc (updL Γ xs vs) B σ env s'.heap→StepX (ownOf' env sc) σ s.heap σ s'.heap→P () s')→wpAny (model cx.prog cx.w) A (assignInOrder (xs.map fun x=>bindName env x) ys) P NoE s
 | [],[],Γ,s,ys,P,_,_,X,E,r,h=>by
  subst r
  exact wpAny_pure (h s X E ((Step.refl _ _).toX (E.shutOwn X)))
 | x::xs,v::vs,Γ,s,ys,P,hk,hl,X,E,r,h=>by
  obtain ⟨y,q,rfl,hy,hr⟩:=r
  skip
  refine wpAny_bind (wpAny_holding (wpAny_bindName (store_name X E (hk x (.head _)) hy fun s' X' E' S'=>?_)))
  exact bindAll_run (fun z hz=>hk z (.tail _ hz)) (Nat.succ.inj hl) X' E' (S'.rpL (fun a q=>(E.own_B a q).1) hr) fun s'' X'' E'' S''=>h s'' X'' E'' (S'.trans S'')
 | [],_::_,_,_,_,_,_,hl,_,_,_,_=>by contradiction
 | _::_,[],_,_,_,_,_,hl,_,_,_,_=>by contradiction
theorem RpL_append {C:Cf}:∀ {l₁ l₂:List V} {x₁ x₂:List Value},RpL C l₁ x₁→RpL C l₂ x₂→RpL C (l₁++l₂) (x₁++x₂)
 | [],_,_,_,h,h'=>by subst h;exact h'
 | v::l,_,_,_,h,h'=>by
  obtain ⟨x,r,rfl,hx,hr⟩:=h
  skip
  exact ⟨x,_,rfl,hx,RpL_append hr h'⟩
theorem RpL_reverse {C:Cf}:∀ {l:List V} {xs:List Value},RpL C l xs→RpL C l.reverse xs.reverse
 | [],_,h=>by subst h;exact rfl
 | v::l,_,h=>by
  obtain ⟨x,r,rfl,hx,hr⟩:=h
  rw [List.reverse_cons,List.reverse_cons]
  exact RpL_append (RpL_reverse hr) (by exact ⟨x,[],rfl,hx,rfl⟩)
theorem Ex_swap {ts:List Expr} {k:Nat} {tp pos:Pos} {e:Expr} {names:List Str} (hk:∀ x∈names,sc.names.lookup x=some .local∨sc.names.lookup x=some .cell)
  (h:Ev cx n sc Γ σ e fun v σ₁=>∃ c l,lk σ₁ v=some c∧seqOf c=some l∧l.length=names.length∧Q .next (updL Γ names.reverse l.reverse) σ₁)
  (hs:∀ env,swapsWithSole [.Tuple ts k tp] e pos.line env=pure false) (hw:∀ env,env.scope=sc→swappedStores [.Tuple ts k tp] e env=pure (some names)):Ex cx n sc Γ σ (.Assign [.Tuple ts k tp] e pos) Q:=fun B env A s rd X E=>by
 refine Assign_Tuple_swapped (wpAny_mono (h B env A s rd X E) (fun y s₁ o=>?_) fun o_ o_ x=>x) (hs env) (hw env E.sc_)
 obtain ⟨v,σ₁,X₁,S₁,r₁,c,l,hv,hc,hl,q⟩:=o
 rw [← hl]
 refine unpackItems_at X₁ r₁ hv hc rd.1 fun h' xs kp rl=>?_
 obtain ⟨X',E',S'⟩:=keep_toX X₁ (E.step X.shut S₁) (t:=s₁.toks) kp
 refine bindAll_run (fun x hx=>hk x (List.mem_reverse.mp hx)) (by simp [hl]) X' E' (RpL_reverse (S'.rpL (fun a q=>(E.own_B a q).1) rl)) fun s'' X'' E'' S''=>?_
 exact ⟨.next,_,σ₁,X'',E'',((S₁.toX (E.shutOwn X)).trans S').trans S'',rfl,q⟩
end
noncomputable def isTup:Expr→Bool
 | .Tuple ..=>true
 | _=>false
structure Src (cx:Cx) (tu:Bool) (base:List V) (xs:List Value) (l:List V) (wr fz:Addr→Prop) (IA:Nat→Heap→Prop) (Mid:Nat→Value→Heap→Prop) (I:Addr):Prop where
 fr:∀ i h h',IA i h→(∀ b o,(wr b∨fz b)→h.get? b=some o→h'.get? b=some o)→IA i h'
 live:∀ i h b,IA i h→wr b→∃ o,h.get? b=some o
 liveM:∀ i x h b,Mid i x h→wr b→∃ o,h.get? b=some o
 next:∀ (A:Around) (s:Shared) (i:Nat) (P:Option Value→Shared→Prop) (Er:Value→Shared→Prop),A.handled=none→i<l.length→IA i s.heap →
  (∀ x v h' tk,l[i]? = some v→Mid i x h'→(∀ b o,¬ wr b→s.heap.get? b=some o→h'.get? b=some o) →
   (∀ C:Cf,C.h=h'→(∀ a,s.heap.get? a=none→¬ C.bad a)→RpL C base xs→Rp C v x)→P (some x) { s with heap:=h',toks:=tk })→wpAny (model cx.prog cx.w) A (pyNext (.ref I)) P Er s
 go:∀ (A:Around) (s:Shared) (i:Nat) (t:Expr) (x:Value) (P:Unit→Shared→Prop) (Er:Value→Shared→Prop),isTup t=tu→Mid i x s.heap →
  (∀ h',IA (i+1) h'→(∀ b o,¬ wr b→s.heap.get? b=some o→h'.get? b=some o)→P () { s with heap:=h' })→wpAny (model cx.prog cx.w) A (letOwnedTupleGo t (.ref I) x) P Er s
 done:∀ (A:Around) (s:Shared) (P:Option Value→Shared→Prop) (Er:Value→Shared→Prop),A.handled=none→IA l.length s.heap →
  (∀ h' tk,(∀ b o,¬ wr b→s.heap.get? b=some o→h'.get? b=some o)→P none { s with heap:=h',toks:=tk })→wpAny (model cx.prog cx.w) A (pyNext (.ref I)) P Er s
 self:∀ (A:Around) (s:Shared) (i:Nat) (P:Value→Shared→Prop) (Er:Value→Shared→Prop),A.handled=none→IA i s.heap→P (.ref I) s→wpAny (model cx.prog cx.w) A (pyIter (.ref I)) P Er s
inductive SrcOut (cx:Cx) (tu:Bool) (B:Addr→Prop) (σ:Store) (h:Heap) (Q:List V→Store→Prop) (x:Value) (s':Shared):Prop
 | mk (σ':Store) (base:List V) (xs:List Value) (l:List V) (wr fz:Addr→Prop) (IA:Nat→Heap→Prop) (Mid:Nat→Value→Heap→Prop) (I:Addr) (e:x=.ref I) (X:St cx (fun a=>B a∨wr a) σ' s') (S:Step σ h σ' s'.heap)
  (src:Src cx tu base xs l wr fz IA Mid I) (ia:IA 0 s'.heap) (r:RpL (cf cx (fun a=>B a∨wr a) σ' s'.heap) base xs)
  (hw:∀ b,wr b→h.get? b=none∧¬ B b) (hf:∀ b,fz b→¬ wr b→¬ bad B σ' b∧∃ o,s'.heap.get? b=some o) (q:Q l σ')
noncomputable def EvI (cx:Cx) (tu:Bool) (n:Nat) (sc:Scope) (Γ:Str→Option V) (σ:Store) (e:Expr) (Q:List V→Store→Prop):Prop:=
 ∀ (B:Addr→Prop) (env:Env) (A:Around) (s:Shared),Rd n A→St cx B σ s→EnvOk cx sc Γ B σ env s.heap →
  wpAny (model cx.prog cx.w) A (eval e env) (fun x s₁=>wpAny (model cx.prog cx.w) A (pyIter x) (SrcOut cx tu B σ s.heap Q) NoE s₁) NoE s
section
variable {cx:Cx} {n:Nat} {sc:Scope} {Γ:Str→Option V} {σ σ':Store} {B B':Addr→Prop} {s s':Shared} {A:Around}
theorem EnvOk.more {env:Env} {h h':Heap} (E:EnvOk cx sc Γ B σ env h) (hB:∀ a,B a→B' a) (k:∀ b o,B b→h.get? b=some o→h'.get? b=some o)
  (up:∀ v x,Rp (cf cx B σ h) v x→Rp (cf cx B' σ' h') v x):EnvOk cx sc Γ B' σ' env h' where
 sc_:=E.sc_
 kind:=E.kind
 gl:=E.gl
 bi:=E.bi
 ownL:=hB _ E.ownL
 newL:=E.newL
 ns:=let ⟨m,⟨o,es,ep,h1,r⟩,h2⟩:=E.ns;⟨m,⟨o,es,ep,k _ _ E.ownL h1,r⟩,fun x v e l=>let ⟨y,a,b⟩:=h2 x v e l;⟨y,a,up _ _ b⟩⟩
 cells x hx:=let ⟨c,cv,h1,h2,h3,⟨o,h4,hd⟩,h5⟩:=E.cells x hx;⟨c,cv,h1,hB _ h2,h3,⟨o,k _ _ h2 h4,hd⟩,fun v e=>let ⟨y,a,b⟩:=h5 v e;⟨y,a,up _ _ b⟩⟩
 apart:=E.apart
theorem Step.more {wr:Addr→Prop} {h h':Heap} (S:Step σ h σ' h') (hw:∀ b,wr b→h.get? b=none) {v:V} {x:Value} (r:Rp (cf cx B σ h) v x):Rp (cf cx (fun a=>B a∨wr a) σ' h') v x:=
 G_mono (C:=cf cx B σ h) (C':=cf cx (fun a=>B a∨wr a) σ' h') rfl (fun a o hb e=>by
  obtain ⟨h1,h2⟩:=S.kept (cx:=cx) (B:=B) a o hb e
  refine ⟨h1,?_⟩
  rintro ((q|q) | q)
  ·exact h2 (.inl q)
  ·have e':h.get? a=some o:=e
   rw [hw a q] at e';contradiction
  ·exact h2 (.inr q)) true v x (fun e=>by contradiction) r
noncomputable def frameAddrs (env:Env) (sc:Scope) (a:Addr):Prop:=a=env.locals∨∃ x,(sc.names.lookup x=some .cell∨sc.names.lookup x=some .free)∧env.cells.lookup x=some a
theorem EnvOk.frame_B {env:Env} {h:Heap} (E:EnvOk cx sc Γ B σ env h):∀ a,frameAddrs env sc a→B a:=by
 rintro a (rfl|⟨x,hx,hc⟩)
 ·exact E.ownL
 ·obtain ⟨c,cv,h1,h2,_⟩:=E.cells x hx
  rw [h1] at hc;(injection hc with hc;subst hc);exact h2
theorem EnvOk.wr {wr:Addr→Prop} {env:Env} {h h':Heap} (E:EnvOk cx sc Γ B σ env h) (hw:∀ b,wr b→B b) (ho:∀ b,wr b→¬ frameAddrs env sc b) (S:StepX wr σ h σ' h') (hs:∀ b,B b→σ b=none):EnvOk cx sc Γ B σ' env h' where
 sc_:=E.sc_
 kind:=E.kind
 gl:=E.gl
 bi:=E.bi
 ownL:=E.ownL
 newL:=E.newL
 ns:=by
  obtain ⟨m,⟨o,es,ep,h1,r⟩,h2⟩:=E.ns
  exact ⟨m,⟨o,es,ep,S.keep _ _ (hs _ E.ownL) (fun q=>ho _ q (.inl rfl)) h1,r⟩,fun x v e l=>let ⟨y,a,b⟩:=h2 x v e l;⟨y,a,S.rp hw b⟩⟩
 cells x hx:=by
  obtain ⟨c,cv,h1,h2,h3,⟨o,h4,hd⟩,h5⟩:=E.cells x hx
  exact ⟨c,cv,h1,h2,h3,⟨o,S.keep _ _ (hs _ h2) (fun q=>ho c q (.inr ⟨x,hx,h1⟩)) h4,hd⟩,fun v e=>let ⟨y,a,b⟩:=h5 v e;⟨y,a,S.rp hw b⟩⟩
 apart:=E.apart
theorem wr_kept {wr:Addr→Prop} {h h':Heap} (hw:∀ b,wr b→¬ B b) (k:∀ b o,¬ wr b→h.get? b=some o→h'.get? b=some o):∀ a o,¬ (cf cx (fun a=>B a∨wr a) σ h).bad a→(cf cx (fun a=>B a∨wr a) σ h).h.get? a=some o→(cf cx B σ h').h.get? a=some o∧¬ (cf cx B σ h').bad a:=by
 intro a o hb e
 have nb:¬ ((B a∨wr a)∨σ a≠none):=hb
 exact ⟨k a o (fun q=>nb (.inl (.inr q))) e,fun q=>nb (Or.elim q (fun q=>.inl (.inl q)) .inr)⟩
theorem St.wrEnd {wr:Addr→Prop} {h':Heap} {tk:Nat} (X:St cx (fun a=>B a∨wr a) σ s) (hw:∀ b,wr b→¬ B b) (hb:∀ b,wr b→cx.h₀.get? b=none) (k:∀ b o,¬ wr b→s.heap.get? b=some o→h'.get? b=some o):St cx B σ { s with heap:=h',toks:=tk } where
 keep b o e:=k b o (fun q=>by rw [hb b q] at e;contradiction) (X.keep b o e)
 gens:=X.gens
 os:=X.os
 own a v e:=by
  obtain ⟨h1,h2,h3,h4⟩:=X.own a v e
  exact ⟨fun q=>h1 (.inl q),h2,h3,G_mono (C:=cf cx (fun a=>B a∨wr a) σ s.heap) (C':=cf cx B σ h') rfl (wr_kept hw k) false v _ (fun o_ b o e ho=>by (injection e with e;subst e);exact k a o (fun q=>h1 (.inr q)) ho) h4⟩
 alive a q:=by
  obtain ⟨o,e⟩:=X.alive a (.inl q)
  exact ⟨o,k a o (fun z=>hw a z q) e⟩
theorem EnvOk.wrEnd {wr:Addr→Prop} {env:Env} {h h':Heap} (E:EnvOk cx sc Γ (fun a=>B a∨wr a) σ env h) (hw:∀ b,wr b→¬ B b) (hF:∀ a,frameAddrs env sc a→B a) (k:∀ b o,¬ wr b→h.get? b=some o→h'.get? b=some o):EnvOk cx sc Γ B σ env h' where
 sc_:=E.sc_
 kind:=E.kind
 gl:=E.gl
 bi:=E.bi
 ownL:=hF _ (.inl rfl)
 newL:=E.newL
 ns:=by
  obtain ⟨m,⟨o,es,ep,h1,r⟩,h2⟩:=E.ns
  exact ⟨m,⟨o,es,ep,k _ _ (fun q=>hw _ q (hF _ (.inl rfl))) h1,r⟩,fun x v e l=>let ⟨y,a,b⟩:=h2 x v e l;⟨y,a,G_mono (C:=cf cx (fun a=>B a∨wr a) σ h) (C':=cf cx B σ h') rfl (wr_kept hw k) true _ _ (fun e=>by contradiction) b⟩⟩
 cells x hx:=by
  obtain ⟨c,cv,h1,h2,h3,⟨o,h4,hd⟩,h5⟩:=E.cells x hx
  exact ⟨c,cv,h1,hF c (.inr ⟨x,hx,h1⟩),h3,⟨o,k _ _ (fun q=>hw _ q (hF c (.inr ⟨x,hx,h1⟩))) h4,hd⟩,fun v e=>let ⟨y,a,b⟩:=h5 v e;⟨y,a,G_mono (C:=cf cx (fun a=>B a∨wr a) σ h) (C':=cf cx B σ h') rfl (wr_kept hw k) true _ _ (fun e=>by contradiction) b⟩⟩
 apart:=E.apart
noncomputable def LoopQ (I:(Str→Option V)→Store→Prop) (Q:Fl→(Str→Option V)→Store→Prop) (φ:Fl) (Γ₃:Str→Option V) (σ₄:Store):Prop:=match φ with
 | .next | .cont=>I Γ₃ σ₄
 | .brk=>Q .next Γ₃ σ₄
 | .ret v=>Q (.ret v) Γ₃ σ₄
noncomputable def ForP (cx:Cx) (n:Nat) (sc:Scope) (Γ:Str→Option V) (t:Expr) (body:List Stmt) (Q:Fl→(Str→Option V)→Store→Prop) (Inv:List V→Nat→(Str→Option V)→Store→Prop) (l:List V) (σ₁:Store):Prop:=
 Inv l 0 Γ σ₁∧(∀ i Γ₁ σ₂ v,l[i]? = some v→Inv l i Γ₁ σ₂→As cx n sc Γ₁ σ₂ t v fun Γ₂ σ₃=>Exs cx n sc Γ₂ σ₃ body (LoopQ (Inv l (i+1)) Q))∧(∀ Γ₁ σ₂,Inv l l.length Γ₁ σ₂→Q .next Γ₁ σ₂)
set_option genInjectivity false in
structure FK where
 (cx:Cx)
 (sc:Scope)
 (env:Env)
 (B wr fz:Addr→Prop)
 (base:List V)
 (xs:List Value)
 (σ:Store)
 (h:Heap)
noncomputable def FK.Bw (K:FK):Addr→Prop:=fun a=>K.B a∨K.wr a
noncomputable def FK.own (K:FK):Addr→Prop:=fun a=>ownOf' K.env K.sc a∨K.wr a
structure FKf (K:FK):Prop where
 ownB:∀ a,ownOf' K.env K.sc a→K.B a
 hF:∀ a,frameAddrs K.env K.sc a→K.B a
 wrB:∀ b,K.wr b→¬ K.B b
 wr0:∀ b,K.wr b→K.cx.h₀.get? b=none
structure FKs (K:FK) (Γ:Str→Option V) (σ:Store) (s:Shared):Prop where
 X:St K.cx K.Bw σ s
 E:EnvOk K.cx K.sc Γ K.Bw σ K.env s.heap
 rb:RpL (cf K.cx K.Bw σ s.heap) K.base K.xs
 S:StepX K.own K.σ K.h σ s.heap
 fz:∀ b,K.fz b→¬ K.wr b→¬ bad K.B σ b∧∃ o,s.heap.get? b=some o
section
variable {K:FK}
theorem FKs.free (J:FKs K Γ σ s) {b:Addr} (q:K.fz b) (w:¬ K.wr b):σ b=none∧¬ K.B b:=
 have h:=(J.fz b q w).1
 ⟨Classical.byContradiction fun z=>h (.inr z),fun z=>h (.inl z)⟩
theorem FKs.mv (J:FKs K Γ σ s) (F:FKf K) {h':Heap} {tk:Nat} (k:∀ b o,¬ K.wr b→s.heap.get? b=some o→h'.get? b=some o) (lv:∀ a,K.wr a→∃ o,h'.get? a=some o):FKs K Γ σ { s with heap:=h',toks:=tk }∧∀ {v y},Rp (cf K.cx K.Bw σ s.heap) v y→Rp (cf K.cx K.Bw σ h') v y:=by
 obtain ⟨X',S'⟩:=J.X.frame (own:=K.wr) (s':={ s with heap:=h',toks:=tk }) (fun a q=>⟨.inr q,F.wr0 a q,lv a q⟩) k rfl rfl
 refine ⟨⟨X',J.E.wr (fun b q=>.inr q) (fun b q z=>F.wrB b q (F.hF b z)) S' J.X.shut,S'.rpL (fun a q=>.inr q) J.rb,J.S.trans (S'.wide fun a q=>.inr q),fun b q w=>?_⟩,fun r=>S'.rp (fun a q=>.inr q) r⟩
 obtain ⟨h1,o,e⟩:=J.fz b q w
 exact ⟨h1,o,S'.keep b o (J.free q w).1 w e⟩
theorem FKs.kept (J:FKs K Γ σ s) (F:FKf K) {h':Heap} (S:StepX (ownOf' K.env K.sc) σ s.heap σ' h') {b:Addr} {o:Obj} (hb:K.wr b∨K.fz b) (e:s.heap.get? b=some o):h'.get? b=some o:=by
 by_cases w:K.wr b
 ·exact S.keep b o (J.X.shut b (.inr w)) (fun q=>F.wrB b w (F.ownB b q)) e
 ·obtain ⟨n0,nB⟩:=J.free (hb.resolve_left w) w
  exact S.keep b o n0 (fun q=>nB (F.ownB b q)) e
theorem FKs.turn (J:FKs K Γ σ s) (F:FKf K) {Γ':Str→Option V} (X:St K.cx K.Bw σ' s') (E:EnvOk K.cx K.sc Γ' K.Bw σ' K.env s'.heap) (S:StepX (ownOf' K.env K.sc) σ s.heap σ' s'.heap):FKs K Γ' σ' s':=by
 refine ⟨X,E,S.rpL (fun a q=>.inl (F.ownB a q)) J.rb,J.S.trans (S.wide fun a q=>.inl q),fun b q w=>?_⟩
 obtain ⟨h1,o,e⟩:=J.fz b q w
 obtain ⟨n0,nB⟩:=J.free q w
 exact ⟨fun z=>z.elim nB fun z=>z (S.stay n0 e),o,J.kept F S (.inr q) e⟩
theorem FKs.stepX (J:FKs K Γ σ s) {σ₀:Store} {h₀ h':Heap} (S₁:Step σ₀ h₀ K.σ K.h) (new:∀ b,K.wr b→h₀.get? b=none) (k:∀ b o,¬ K.wr b→s.heap.get? b=some o→h'.get? b=some o):StepX (ownOf' K.env K.sc) σ₀ h₀ σ h':=by
 have nw:∀ {b o},h₀.get? b=some o→¬ K.wr b:=fun {b o} e q=>by rw [new b q] at e;contradiction
 refine ⟨fun b o hb ho e=>k b o (nw e) (J.S.keep b o (S₁.stay hb e) (fun q=>q.elim ho (nw e)) (S₁.keep b o hb e)),fun a q=>?_,fun a o e=>?_⟩
 ·refine (J.S.dom a q).elim (S₁.dom a) fun q=>.inr ?_
  rcases e:h₀.get? a with _|o
  ·rfl
  ·obtain ⟨o',e'⟩:=S₁.live a o e;rw [e'] at q;contradiction
 ·obtain ⟨o',e'⟩:=S₁.live a o e
  obtain ⟨o'',e''⟩:=J.S.live a o' e'
  exact ⟨o'',k a o'' (nw e) e''⟩
theorem FKs.out (J:FKs K Γ σ s) (F:FKf K) {σ₀:Store} {h₀:Heap} (S₁:Step σ₀ h₀ K.σ K.h) (new:∀ b,K.wr b→h₀.get? b=none) {Q:Fl→(Str→Option V)→Store→Prop} {φ:Fl} {f:Flow} (hf:FlIs (cf K.cx K.Bw σ s.heap) φ f) (q:Q φ Γ σ):OutX K.cx K.B K.sc K.env σ₀ h₀ Q f s:=by
 refine ⟨φ,Γ,σ,J.X.fewer fun a q=>.inl q,?_,J.stepX S₁ new fun o_ o_ o_ e=>e,?_,q⟩
 ·refine ⟨J.E.sc_,J.E.kind,J.E.gl,J.E.bi,F.hF _ (.inl rfl),J.E.newL,?_,fun x hx=>?_,J.E.apart⟩
  ·obtain ⟨m,h1,h2⟩:=J.E.ns
   refine ⟨m,h1,fun x v e l=>?_⟩
   obtain ⟨y,a,b⟩:=h2 x v e l
   exact ⟨y,a,rp_less (fun a q=>.inl q) b⟩
  ·obtain ⟨c,cv,h1,h2,h3,h4,h5⟩:=J.E.cells x hx
   refine ⟨c,cv,h1,F.hF c (.inr ⟨x,hx,h1⟩),h3,h4,fun v e=>?_⟩
   obtain ⟨y,a,b⟩:=h5 v e
   exact ⟨y,a,rp_less (fun a q=>.inl q) b⟩
 ·cases φ with
  | ret v=>obtain ⟨x,rfl,r⟩:=hf;exact ⟨x,rfl,rp_less (fun a q=>.inl q) r⟩
  | next=>exact hf
  | brk=>exact hf
  | cont=>exact hf
end
noncomputable def FK.J (K:FK) (IA:Nat→Heap→Prop) (Inv:Nat→(Str→Option V)→Store→Prop) (N m:Nat) (s:Shared):Prop:=∃ i Γ σ,i+m=N∧IA i s.heap∧Inv i Γ σ∧FKs K Γ σ s
theorem pred_eqF {m i N:Nat} (h:i+m=N) (hm:¬ m=0):m - 1<m∧i+1+(m - 1)=N:=by
 obtain ⟨k,rfl⟩:=Nat.exists_eq_succ_of_ne_zero hm
 exact ⟨Nat.lt_succ_self k,(Nat.add_right_comm i 1 k).trans h⟩
theorem Ex_for {t e:Expr} {body:List Stmt} {pos:Pos} {Q:Fl→(Str→Option V)→Store→Prop} (Inv:List V→Nat→(Str→Option V)→Store→Prop)
  (h:EvI cx (isTup t) n sc Γ σ e (ForP cx n sc Γ t body Q Inv))
  (hs:∀ env x,foldedSetIterable e env x=pure x:=by intro _ _;rfl):Ex cx n sc Γ σ (.For t e body [] pos) Q:=fun B env A s rd X E=>by
 refine wpAny_For (wpAny_mono (h B env A s rd X E) (fun x s₁ h₁=>wpAny_mono h₁ (fun it s₂ h₂=>?_) fun o_ o_ x=>x.elim) fun o_ o_ x=>x.elim) (hs env)
 obtain ⟨σ₁,base,xs,l,wr,fz,IA,Mid,I,rfl,X₁,S₁,src,ia,rb,hwr,hfz,inv0,turn,fin⟩:=h₂
 have F:FKf ⟨cx,sc,env,B,wr,fz,base,xs,σ₁,s₂.heap⟩:=⟨fun a q=>(E.own_B a q).1,E.frame_B,fun b q=>(hwr b q).2,fun b q=>X.base_none (hwr b q).1⟩
 have new:∀ b,wr b→s.heap.get? b=none:=fun b q=>(hwr b q).1
 refine codeAny_forLoop_any (FK.J ⟨cx,sc,env,B,wr,fz,base,xs,σ₁,s₂.heap⟩ IA (Inv l) l.length) (fun m s₃ hJ=>?_) l.length ⟨0,Γ,σ₁,Nat.zero_add _,ia,inv0,X₁,E.more (fun a q=>.inl q) (fun b o q e=>S₁.keep b o (X.shut b q) e) fun v x r=>S₁.more (fun b q=>(hwr b q).1) r,rb,⟨fun o_ o_ o_ o_ e=>e,fun o_ e=>.inl e,fun o_ o e=>⟨o,e⟩⟩,hfz⟩
 obtain ⟨i,Γ₁,σ₂,hi,ia₃,inv,J⟩:=hJ
 by_cases hm:m=0
 ·subst hm
  obtain rfl:i=l.length:=hi
  refine src.done A s₃ _ _ rd.1 ia₃ fun h' tk k=>?_
  exact wpAny_pure (a:=Flow.next) ⟨.next,Γ₁,σ₂,J.X.wrEnd F.wrB F.wr0 k,J.E.wrEnd F.wrB E.frame_B k,J.stepX S₁ new k,rfl,fin Γ₁ σ₂ inv⟩
 ·have hlt:i<l.length:=hi▸Nat.lt_add_of_pos_right (Nat.pos_of_ne_zero hm)
  refine src.next A s₃ i _ _ rd.1 hlt ia₃ fun x v h' tk hv mid k rx=>?_
  have J₄:=(J.mv F (tk:=tk) k fun a q=>src.liveM i x h' a mid q).1
  have rx₄:=rx (cf cx (FK.Bw ⟨cx,sc,env,B,wr,fz,base,xs,σ₁,s₂.heap⟩) σ₂ h') rfl (fun a q=>J.X.fresh q) J₄.rb
  refine src.go A _ i t x _ _ rfl mid fun h'' ia₅ k'=>?_
  obtain ⟨J₅,up₅⟩:=J₄.mv F (tk:=tk) k' fun a q=>src.live (i+1) h'' a ia₅ q
  refine wpAny_mono (turn i Γ₁ σ₂ v hv inv _ env A _ x rd J₅.X J₅.E (up₅ rx₄)) (fun o_ s₆ o=>?_) fun o_ o_ x=>x.elim
  obtain ⟨Γ₂,σ₃,X₆,E₆,S₆,hb⟩:=o
  refine wpAny_mono (hb _ env A s₆ rd X₆ E₆) (fun f s₇ o=>?_) fun o_ o_ x=>x.elim
  obtain ⟨φ,Γ₃,σ₄,X₇,E₇,S₇,hf,q⟩:=o
  have J₇:=J₅.turn F X₇ E₇ (S₆.trans S₇)
  have ia₇:IA (i+1) s₇.heap:=src.fr (i+1) h'' s₇.heap ia₅ fun b o hb e=>J₅.kept F (S₆.trans S₇) hb e
  obtain ⟨h1,h2⟩:=pred_eqF hi hm
  cases φ with
  | next=>obtain rfl:f=.next:=hf;exact ⟨m - 1,h1,i+1,Γ₃,σ₄,h2,ia₇,q,J₇⟩
  | cont=>obtain rfl:f=.cont:=hf;exact ⟨m - 1,h1,i+1,Γ₃,σ₄,h2,ia₇,q,J₇⟩
  | brk=>obtain rfl:f=.brk:=hf;exact J₇.out F S₁ new (φ:=.next) rfl q
  | ret u=>obtain ⟨y,rfl,ry⟩:=hf;exact J₇.out F S₁ new (φ:=.ret u) ⟨y,rfl,ry⟩ q
theorem Ex_while {t:Expr} {body:List Stmt} {pos:Pos} {Q:Fl→(Str→Option V)→Store→Prop} (Inv:Nat→(Str→Option V)→Store→Prop) (m₀:Nat) (h0:Inv m₀ Γ σ)
  (turn:∀ m Γ₁ σ₁,Inv m Γ₁ σ₁→Te cx n sc Γ₁ σ₁ t fun c σ₂=>(c=true→Exs cx n sc Γ₁ σ₂ body (LoopQ (fun Γ₃ σ₄=>∃ m',m'<m∧Inv m' Γ₃ σ₄) Q))∧(c=false→Q .next Γ₁ σ₂)):Ex cx n sc Γ σ (.While t body [] pos) Q:=fun B env A s rd X E=>by
 refine wpAny_While ?_
 let J:Nat→Shared→Prop:=fun m s₃=>∃ Γ₁ σ₂,St cx B σ₂ s₃∧EnvOk cx sc Γ₁ B σ₂ env s₃.heap∧StepX (ownOf' env sc) σ s.heap σ₂ s₃.heap∧Inv m Γ₁ σ₂
 refine codeAny_whileLoop J (fun m s₃ hJ=>?_) m₀ ⟨Γ,σ,X,E,(Step.refl _ _).toX (E.shutOwn X),h0⟩
 obtain ⟨Γ₁,σ₂,X₃,E₃,S₃,inv⟩:=hJ
 refine wpAny_mono (turn m Γ₁ σ₂ inv B env A s₃ rd X₃ E₃) (fun c s₄ o=>?_) fun o_ o_ x=>x.elim
 obtain ⟨σ₃,X₄,S₄,ht,hf⟩:=o
 have E₄:=E₃.step X₃.shut S₄
 have S₃₄:=S₃.trans (S₄.toX (E₃.shutOwn X₃))
 cases c with
 | false=>exact wpAny_pure (a:=Flow.next) ⟨.next,Γ₁,σ₃,X₄,E₄,S₃₄,rfl,hf rfl⟩
 | true=>
  refine wpAny_mono (ht rfl B env A s₄ rd X₄ E₄) (fun f s₅ o=>?_) fun o_ o_ x=>x.elim
  obtain ⟨φ,Γ₃,σ₄,X₅,E₅,S₅,hfl,q⟩:=o
  cases φ with
  | next=>
   have:f=.next:=hfl
   subst this
   obtain ⟨m',hm,q⟩:=q
   exact ⟨m',hm,Γ₃,σ₄,X₅,E₅,S₃₄.trans S₅,q⟩
  | cont=>
   have:f=.cont:=hfl
   subst this
   obtain ⟨m',hm,q⟩:=q
   exact ⟨m',hm,Γ₃,σ₄,X₅,E₅,S₃₄.trans S₅,q⟩
  | brk=>
   have:f=.brk:=hfl
   subst this
   exact ⟨.next,Γ₃,σ₄,X₅,E₅,S₃₄.trans S₅,rfl,q⟩
  | ret u=>
   obtain ⟨y,rfl,ry⟩:=hfl
   exact ⟨.ret u,Γ₃,σ₄,X₅,E₅,S₃₄.trans S₅,⟨y,rfl,ry⟩,q⟩
end
noncomputable def ownersOfTuples:List String:=["enumerate", "zip", "dict_itemiterator", "dict_reverseitemiterator", "odict_iterator", "itertools.zip_longest", "itertools.pairwise"]
theorem go_quiet {M:Model} {A:Around} {s:Shared} {I:Addr} {o:Obj} {t:Expr} {x:Value} {P:Unit→Shared→Prop} {Er:Value→Shared→Prop} (ho:s.heap.get? I=some o) (hc:∃ n,o.cls=.type n∧ownersOfTuples.contains n=false) (h:P () s) :
  wpAny M A (letOwnedTupleGo t (.ref I) x) P Er s:=by
 have fin:wpAny M A (pure ():Sem Unit) P Er s:=wpAny_pure h
 obtain ⟨n,hn,hq⟩:=hc
 have key:∀ a:Addr,wpAny M A (do
   let o ← load I
   match o.cls,o.data with
   | .type n,.fields vs=>
    if ownersOfTuples.contains n && vs[0]? == some (rawInt a) then
     rule "for.unpacks-the-owned-tuple"
     updateField I 0 .none
   | _,_=>pure ()) P Er s:=fun a=>by
  refine wpAny_bind (wpAny_load ho ?_)
  rw [hn]
  cases hd:o.data <;> first | exact fin | (simp only [hq,Bool.false_and,Bool.false_eq_true,if_false];exact fin)
 skip
 cases t <;> first | exact fin | (cases x <;> first | exact fin | exact key _)
theorem src_of_walks {cx:Cx} {tu:Bool} {base:List V} {xs:List Value} {l:List V} {I:Addr} {fp wr:List Addr} {P:Nat→Value→Prop} {S:Nat→Heap→Prop} (W:∀ A:Around,A.handled=none→Walks cx.prog cx.w A I fp wr l.length P S)
  (hP:∀ i y,i<l.length→P i y→∃ v,l[i]? = some v∧∀ C,RpL C base xs→Rp C v y) (hq:∀ i h,S i h→∃ o,h.get? I=some o∧∃ n,o.cls=.type n∧ownersOfTuples.contains n=false) (wr1:∀ b,b∈wr↔b=I) :
  Src cx tu base xs l (fun b=>b∈wr) (fun b=>b∈fp) S (fun i o_ h=>S (i+1) h) I where
 fr i h h' a k:=(W {} rfl).frame i h h' a fun b hb o e=>k b o (.inr hb) e
 live i h b a q:=by obtain ⟨o,ho,_⟩:=hq i h a;rw [(wr1 b).mp q];exact ⟨o,ho⟩
 liveM i x h b a q:=by obtain ⟨o,ho,_⟩:=hq (i+1) h a;rw [(wr1 b).mp q];exact ⟨o,ho⟩
 next A s i P' Er hh hi a h:=by
  refine (W A hh).item i s P' Er hi a fun v h' tk hv st k=>?_
  obtain ⟨u,hu,hr⟩:=hP i v hi hv
  exact h v u h' tk hu st (fun b o hb e=>k b o hb e) fun C o_ o_ r=>hr C r
 go A s i t x P' Er _ a h:=by
  obtain ⟨o,ho,hc⟩:=hq (i+1) _ a
  exact go_quiet ho hc (h s.heap a fun o_ o_ o_ e=>e)
 done A s P' Er hh a h:=(W A hh).done s P' Er a fun h' tk k=>h h' tk fun b o hb e=>k b o hb e
 self A s i P' Er hh a h:=(W A hh).self i s P' Er a h
section
variable {cx:Cx} {n:Nat} {sc:Scope} {Γ:Str→Option V} {σ σ':Store} {B B':Addr→Prop} {s s':Shared} {A:Around}
theorem RpL_at {C:Cf}:∀ {l:List V} {xs:List Value} {i:Nat} {y:Value},RpL C l xs→xs[i]? = some y→∃ v,l[i]? = some v∧Rp C v y
 | [],_,i,y,h,e=>by subst h;contradiction
 | v::l,_,i,y,h,e=>by
  obtain ⟨x,r,rfl,hx,hr⟩:=h
  cases i with
  | zero=>simp at e;subst e;exact ⟨v,rfl,hx⟩
  | succ i=>simp at e;obtain ⟨u,hu,hr⟩:=RpL_at hr e;exact ⟨u,hu,hr⟩
theorem RpL_get {C:Cf}:∀ {l:List V} {xs:List Value} {i:Nat} {v:V},RpL C l xs→l[i]? = some v→∃ y,xs[i]? = some y∧Rp C v y
 | [],_,i,y,h,e=>by contradiction
 | v::l,_,i,u,h,e=>by
  obtain ⟨x,r,rfl,hx,hr⟩:=h
  cases i with
  | zero=>simp at e;subst e;exact ⟨x,rfl,hx⟩
  | succ i=>simp at e;obtain ⟨y,hy,hr⟩:=RpL_get hr e;exact ⟨y,hy,hr⟩
theorem srcOut_push {tu:Bool} {l base:List V} {xs:List Value} {fz:Addr→Prop} {IA:Nat→Heap→Prop} {Mid:Nat→Value→Heap→Prop} {o:Obj} {h₀:Heap} {σ₀:Store} {Q:List V→Store→Prop} (X:St cx B σ s) (S:Step σ₀ h₀ σ s.heap)
  (src:Src cx tu base xs l (fun b=>b∈[s.heap.objs.size]) fz IA Mid s.heap.objs.size) (ia:IA 0 (s.heap.push o)) (hf:o.isFreed=false) (rb:RpL (cf cx B σ s.heap) base xs)
  (hfz:∀ b,fz b→b≠s.heap.objs.size→¬ bad B σ b∧∃ o,s.heap.get? b=some o) (q:Q l σ):SrcOut cx tu B σ₀ h₀ Q (.ref s.heap.objs.size) { s with heap:=s.heap.push o }:=by
 have kp:=push_keep s.heap o
 obtain ⟨X',up⟩:=X.more (s':={ s with heap:=s.heap.push o }) (B':=fun a=>B a∨a∈[s.heap.objs.size]) kp rfl rfl (fun a q=>q.imp id fun q=>by simp at q;subst q;exact ⟨get_none_size _,o,Heap.get?_push_size _ hf⟩)
 refine ⟨σ,base,xs,l,_,fz,IA,Mid,_,rfl,X',S.trans (step_all (s:=s) (s':={ s with heap:=s.heap.push o }) kp),src,ia,rpL_of up rb,fun b hb=>?_,fun b hb hw=>?_,q⟩
 ·simp at hb;subst hb
  refine ⟨?_,X.fresh_not (get_none_size _)⟩
  have z:=X.new_none (get_none_size s.heap)
  rcases e:h₀.get? s.heap.objs.size with _|o'
  ·rfl
  ·obtain ⟨o'',e'⟩:=S.live _ _ e;rw [get_none_size] at e';contradiction
 ·obtain ⟨h1,o',h2⟩:=hfz b hb (fun e=>hw (by simp [e]))
  exact ⟨h1,o',kp _ _ h2⟩
end
section
variable {cx:Cx} {n:Nat} {sc:Scope} {Γ:Str→Option V} {σ σ':Store} {B B':Addr→Prop} {s s':Shared} {A:Around}
theorem iter_list {tu:Bool} {l:List V} {x:Value} {h₀:Heap} {σ₀:Store} {Q:List V→Store→Prop} (X:St cx B σ s) (S:Step σ₀ h₀ σ s.heap) (r:Rp (cf cx B σ s.heap) (.lst l) x) (q:Q l σ) :
  wpAny (model cx.prog cx.w) A (pyIter x) (SrcOut cx tu B σ₀ h₀ Q) NoE s:=by
 obtain ⟨a,items,k,rfl,hb,ho,hl⟩:=r
 have e:items.size=l.length:=by have:=RpL.length hl;simpa using this
 have hlt:a≠s.heap.objs.size:=Nat.ne_of_lt (Heap.lt_size ho)
 refine wpAny_pyIter_list ⟨_,ho,rfl,k,rfl⟩ ?_
 refine srcOut_push (base:=l) (xs:=items.toList) (fz:=fun b=>b∈[s.heap.objs.size,a]) X S (src_of_walks (fp:=[s.heap.objs.size,a]) (wr:=[s.heap.objs.size]) (P:=fun i v=>items[i]? = some v) (fun A hh=>e▸Walks.list hh _ a hlt items) (fun i y hi hy=>?_) (fun i h hS=>?_) (fun b=>by simp)) ?_ rfl hl (fun b hb' hn=>?_) q
 ·have hy':items.toList[i]? = some y:=Array.getElem?_toList.trans hy
  obtain ⟨v,hv,_⟩:=RpL_at hl hy'
  refine ⟨v,hv,fun C rc=>?_⟩
  obtain ⟨u,hu,hr⟩:=RpL_at rc hy'
  rw [hv] at hu;(injection hu with hu;subst hu);exact hr
 ·obtain ⟨⟨o,h1,h2,_⟩,_⟩:=hS
  exact ⟨o,h1, "list_iterator",h2,by decide⟩
 ·exact ⟨⟨_,Heap.get?_push_size _ rfl,rfl,rfl⟩,_,push_keep _ _ _ _ ho,rfl,k,rfl⟩
 ·simp at hb'
  rcases hb' with rfl|rfl
  ·exact absurd rfl hn
  ·exact ⟨hb rfl,_,ho⟩
theorem iter_tuple {tu:Bool} {l:List V} {x:Value} {h₀:Heap} {σ₀:Store} {Q:List V→Store→Prop} (X:St cx B σ s) (S:Step σ₀ h₀ σ s.heap) (r:Rp (cf cx B σ s.heap) (.tup l) x) (q:Q l σ) :
  wpAny (model cx.prog cx.w) A (pyIter x) (SrcOut cx tu B σ₀ h₀ Q) NoE s:=by
 obtain ⟨a,items,k,rfl,hb,ho,hl⟩:=r
 have e:items.size=l.length:=by have:=RpL.length hl;simpa using this
 have hlt:a≠s.heap.objs.size:=Nat.ne_of_lt (Heap.lt_size ho)
 refine wpAny_pyIter_tuple ⟨_,ho,rfl,k,rfl⟩ ?_
 refine srcOut_push (base:=l) (xs:=items.toList) (fz:=fun b=>b∈[s.heap.objs.size,a]) X S (src_of_walks (fp:=[s.heap.objs.size,a]) (wr:=[s.heap.objs.size]) (P:=fun i v=>items[i]? = some v) (fun A hh=>e▸Walks.tuple hh _ a hlt items) (fun i y hi hy=>?_) (fun i h hS=>?_) (fun b=>by simp)) ?_ rfl hl (fun b hb' hn=>?_) q
 ·have hy':items.toList[i]? = some y:=Array.getElem?_toList.trans hy
  obtain ⟨v,hv,_⟩:=RpL_at hl hy'
  refine ⟨v,hv,fun C rc=>?_⟩
  obtain ⟨u,hu,hr⟩:=RpL_at rc hy'
  rw [hv] at hu;(injection hu with hu;subst hu);exact hr
 ·obtain ⟨⟨o,h1,h2,_⟩,_⟩:=hS
  exact ⟨o,h1, "tuple_iterator",h2,by decide⟩
 ·exact ⟨⟨_,Heap.get?_push_size _ rfl,rfl,rfl⟩,_,push_keep _ _ _ _ ho,rfl,k,rfl⟩
 ·simp at hb'
  rcases hb' with rfl|rfl
  ·exact absurd rfl hn
  ·exact ⟨hb rfl,_,ho⟩
noncomputable def signs (x:Str):List V:=x.cps.toList.map fun c=>V.str ⟨#[c]⟩
theorem iter_str {tu:Bool} {y:Str} {x:Value} {h₀:Heap} {σ₀:Store} {Q:List V→Store→Prop} (X:St cx B σ s) (S:Step σ₀ h₀ σ s.heap) (r:Rp (cf cx B σ s.heap) (.str y) x) (q:Q (signs y) σ) :
  wpAny (model cx.prog cx.w) A (pyIter x) (SrcOut cx tu B σ₀ h₀ Q) NoE s:=by
 obtain ⟨t,rfl⟩:=of_str r
 have e:y.cps.size=(signs y).length:=by simp [signs]
 have hP:∀ i v,i<(signs y).length→SignAt y i v→∃ u,(signs y)[i]? = some u∧∀ C,RpL C [] []→Rp C u v:=fun i v hi hv=>by
  obtain ⟨c,u,hc,rfl⟩:=hv
  exact ⟨.str ⟨#[c]⟩,by simp [signs,hc],fun C o_=>rp_str _ _⟩
 have hfz:∀ b,b∈[s.heap.objs.size]→b≠s.heap.objs.size→¬ bad B σ b∧∃ o,s.heap.get? b=some o:=fun b hb hn=>by simp at hb;exact absurd hb hn
 cases ha:y.cps.all (· < 128)
 ·refine wpAny_pyIter_wide ha ?_
  exact srcOut_push (base:=[]) (xs:=[]) X S (src_of_walks (fun A hh=>e▸Walks.strWide hh _ y t) hP (fun i h hS=>by obtain ⟨o,h1,h2,_⟩:=hS;exact ⟨o,h1, "str_iterator",h2,by decide⟩) (fun b=>by simp)) ⟨_,Heap.get?_push_size _ rfl,rfl,rfl⟩ rfl (rfl) hfz q
 ·refine wpAny_pyIter_ascii ha ?_
  exact srcOut_push (base:=[]) (xs:=[]) X S (src_of_walks (fun A hh=>e▸Walks.strAscii hh _ y t) hP (fun i h hS=>by obtain ⟨o,h1,h2,_⟩:=hS;exact ⟨o,h1, "str_ascii_iterator",h2,by decide⟩) (fun b=>by simp)) ⟨_,Heap.get?_push_size _ rfl,rfl,rfl⟩ rfl (rfl) hfz q
theorem EvI_seq {tu:Bool} {e:Expr} {Q:List V→Store→Prop} (h:Ev cx n sc Γ σ e fun v σ₁=>∃ l,seqOf v=some l∧Q l σ₁):EvI cx tu n sc Γ σ e Q:=fun B env A s rd X E=>by
 refine wpAny_mono (h B env A s rd X E) (fun x s₁ o=>?_) fun o_ o_ x=>x
 obtain ⟨v,σ₁,X₁,S₁,r₁,l,hl,q⟩:=o
 rcases seqOf_inv hl with rfl|rfl
 ·exact iter_tuple X₁ S₁ r₁ q
 ·exact iter_list X₁ S₁ r₁ q
theorem EvI_str {tu:Bool} {e:Expr} {Q:List V→Store→Prop} (h:Ev cx n sc Γ σ e fun v σ₁=>∃ y,v=.str y∧Q (signs y) σ₁):EvI cx tu n sc Γ σ e Q:=fun B env A s rd X E=>by
 refine wpAny_mono (h B env A s rd X E) (fun x s₁ o=>?_) fun o_ o_ x=>x
 obtain ⟨v,σ₁,X₁,S₁,r₁,y,rfl,q⟩:=o
 exact iter_str X₁ S₁ r₁ q
noncomputable def upto (k:Nat):List V:=(List.range k).map fun (i:Nat)=>V.int (Int.ofNat i)
theorem EvI_range {tu:Bool} {e:Expr} {fp pos:Pos} {Q:List V→Store→Prop} (hk:sc.names.lookup ("range" : Str)=some .globalImplicit) (hg:GlobIs cx ("range" : Str) (.type "range")) (hp:notStar e=true)
  (h:Ev cx n sc Γ σ e fun v σ₁=>∃ k:Nat,v=.int (k:Int)∧k≤1000000∧Q (upto k) σ₁):EvI cx tu n sc Γ σ (.Call (.Name ("range" : Str) fp) [e] [] pos) Q:=fun B env A s rd X E=>by
 skip
 refine wpAny_bind (glob_name X E hk hg ?_)
 have hL:EvL cx n sc Γ σ [e] fun vs σ₁=>∃ k:Nat,vs=[.int (k:Int)]∧k≤1000000∧Q (upto k) σ₁:=⟨hp,h.mono fun v σ₁ q=>by obtain ⟨k,rfl,a,b⟩:=q;exact ⟨k,rfl,a,b⟩⟩
 refine callWith_run X (keeps_type _) (by simp [hp]) (wpAny_mono (hL.run B env A s rd X E) (fun xs s₁ o=>?_) fun o_ o_ x=>x)
 obtain ⟨vs,σ₁,X₁,S₁,r₁,k,rfl,hk,q⟩:=o
 refine ⟨cx.X.keeps X₁.keep,?_⟩
 obtain ⟨x,_,rfl,hx,rfl⟩:=r₁
 obtain ⟨t,rfl⟩:=hx
 refine call_range_1 ?_
 have X₂:=X₁.all (s':={ s₁ with heap:=s₁.heap.push { cls:=.type "range",data:=.fields #[.int 0 s₁.toks,.int (k:Int) t,.int 1 (s₁.toks+1)] },toks:=s₁.toks+1+1 }) (push_keep _ _) rfl rfl
 have S₂:=S₁.trans (step_all (σ:=σ₁) (s:=s₁) (s':={ s₁ with heap:=s₁.heap.push { cls:=.type "range",data:=.fields #[.int 0 s₁.toks,.int (k:Int) t,.int 1 (s₁.toks+1)] },toks:=s₁.toks+1+1 }) (push_keep _ _))
 have hsz:Builtin.Range.rangeSize 0 (k:Int) 1=k:=by
  rw [rangeSize_one];split <;> omega
 have hfit:∀ i:Int,0≤i→i≤1000000→Builtin.Range.rangeFitsLong i=true:=fun i h1 h2=>by
  unfold Builtin.Range.rangeFitsLong
  simp only [Bool.and_eq_true,decide_eq_true_eq]
  constructor <;> omega
 have hsmall:Builtin.Range.small 0 (k:Int) 1=true:=by
  unfold Builtin.Range.small
  rw [hsz]
  have e:(k:Int)+(1 - 1)=k:=by omega
  simp [hfit 0 (by exact Int.natCast_nonneg _) (by exact Int.natCast_nonneg _),hfit k (by exact Int.natCast_nonneg _) (by exact Int.ofNat_le.mpr (by assumption)),hfit 1 (by exact Int.natCast_nonneg _) (by exact Int.natCast_nonneg _)]
 refine wpAny_pyIter_range (IsRange.new _ _ _ _ _ _ _) hsmall ?_
 rw [hsz]
 have el:(upto k).length=k:=by simp [upto]
 refine srcOut_push (base:=[]) (xs:=[]) (fz:=fun b=>b∈[_]) X₂ S₂ (src_of_walks (fp:=[_]) (wr:=[_]) (S:=fun i h=>IsRangeIter h _ (0+(i:Nat)*1) ((k:Int) - (i:Nat)) 1) (fun A hh=>by rw [el];exact Walks.range hh _ 0 1 k) (fun i y hi hy=>?_) (fun i h hS=>⟨_,hS, "range_iterator",rfl,by decide⟩) (fun b=>by simp)) ?_ rfl (rfl) (fun b hb hn=>absurd (List.mem_singleton.mp hb) hn) q
 ·obtain ⟨u,rfl⟩:=hy
  rw [el] at hi
  refine ⟨.int (Int.ofNat i),by simp [upto,hi],fun C o_=>?_⟩
  have e:(0:Int)+(i:Int)*1=Int.ofNat i:=by simp
  rw [e];exact rp_int _ _
 ·skip
  have:(Heap.push (s₁.heap.push { cls:=.type "range",data:=.fields #[.int 0 s₁.toks,.int (k:Int) t,.int 1 (s₁.toks+1)] }) { cls:=.type "range_iterator",data:=.fields #[rawInt 0,rawInt (k:Int),rawInt 1] }).get? (s₁.heap.push { cls:=.type "range",data:=.fields #[.int 0 s₁.toks,.int (k:Int) t,.int 1 (s₁.toks+1)] }).objs.size=some _:=Heap.get?_push_size _ rfl
  exact this
end
noncomputable def AccAt (C:Cf) (D:Addr) (vs:List V):Prop:=∃ ys k,C.h.get? D=some (seqObj "list" ys k)∧RpL C vs ys.toList
section
variable {cx:Cx} {n:Nat} {sc csc:Scope} {Γ Γ':Str→Option V} {σ σ':Store} {B B':Addr→Prop} {s s':Shared} {A:Around} {env:Env} {h h':Heap}
theorem EnvOk.weaken (E:EnvOk cx sc Γ B σ env h) (hΓ:∀ y v,Γ' y=some v→Γ y=some v):EnvOk cx sc Γ' B σ env h where
 sc_:=E.sc_
 kind:=E.kind
 gl:=E.gl
 bi:=E.bi
 ownL:=E.ownL
 newL:=E.newL
 ns:=by obtain ⟨m,h1,h2⟩:=E.ns;exact ⟨m,h1,fun x v e l=>h2 x v (hΓ x v e) l⟩
 cells x hx:=by obtain ⟨c,cv,h1,h2,h3,h4,h5⟩:=E.cells x hx;exact ⟨c,cv,h1,h2,h3,h4,fun v e=>h5 v (hΓ x v e)⟩
 apart:=E.apart
theorem AccAt.stepX {own:Addr→Prop} {D:Addr} {vs:List V} (a:AccAt (cf cx B σ h) D vs) (S:StepX own σ h σ' h') (ho:∀ a,own a→B a) (hs:σ D=none) (hD:¬ own D):AccAt (cf cx B σ' h') D vs:=
 by obtain ⟨ys,k,e,r⟩:=a;exact ⟨ys,k,S.keep D _ hs hD e,S.rpL ho r⟩
theorem AccAt.step {D:Addr} {vs:List V} (a:AccAt (cf cx B σ h) D vs) (S:Step σ h σ' h') (hs:σ D=none):AccAt (cf cx B σ' h') D vs:=
 by obtain ⟨ys,k,e,r⟩:=a;exact ⟨ys,k,S.keep D _ hs e,S.rpL r⟩
theorem StepX.refl {own:Addr→Prop} (σ:Store) (h:Heap):StepX own σ h σ h:=⟨fun o_ o_ o_ o_ e=>e,fun o_ e=>.inl e,fun o_ o e=>⟨o,e⟩⟩
structure XOut (cx:Cx) (B:Addr→Prop) (csc:Scope) (Γ:Str→Option V) (σ:Store) (env:Env) (D:Addr) (h:Heap) (us:List V) (s':Shared):Prop where
 X:St cx B σ s'
 E:EnvOk cx csc Γ B σ env s'.heap
 acc:AccAt (cf cx B σ s'.heap) D us
 S:StepX (fun a=>a=env.locals∨a=D) σ h σ s'.heap
noncomputable def CompX (cx:Cx) (n:Nat) (csc:Scope) (Γ:Str→Option V) (σ:Store) (code:Env→Value→Sem Unit) (us:List V):Prop:=
 ∀ (B:Addr→Prop) (env:Env) (A:Around) (s:Shared) (D:Addr) (vs:List V),Rd n A→St cx B σ s→EnvOk cx csc Γ B σ env s.heap→B D→¬ frameAddrs env csc D→cx.h₀.get? D=none→AccAt (cf cx B σ s.heap) D vs→vs.length+us.length≤1000000 →
  wpAny (model cx.prog cx.w) A (code env (.ref D)) (fun o_ s'=>XOut cx B csc Γ σ env D s.heap (vs++us) s') NoE s
noncomputable def emit (elt:Expr) (env:Env) (acc:Value):Sem Unit:=do let _ ← call (.builtin "list.append") [acc,← eval elt env]
theorem CompX_emit {elt:Expr} {u:V} (h:Ev cx n csc Γ σ elt fun v σ'=>v=u∧σ'=σ):CompX cx n csc Γ σ (emit elt) [u]:=by
 intro B env A s D vs rd X E hBD nF hD0 acc hlen
 skip
 refine wpAny_bind (wpAny_mono (h B env A s rd X E) (fun x s₁ o=>?_) fun o_ o_ x=>x)
 obtain ⟨v,σ',X₁,S₁,r₁,e1,e2⟩:=o
 subst e1;subst e2
 have acc₁:=acc.step S₁ (X.shut D hBD)
 obtain ⟨ys,k,ho,hl⟩:=acc₁
 have hyl:=RpL.length hl
 have hsz:ys.size≤sizeLine:=sizeLine_big (by simp at hyl;omega)
 refine wpAny_bind (wpAny_list_append_plain ⟨k,ho⟩ (fun h' hp hs=>?_) hsz)
 obtain ⟨k',hp⟩:=hp
 obtain ⟨X₂,S₂⟩:=X₁.frame (own:=fun a=>a=D) (s':={ s₁ with heap:=h' }) (fun a q=>by subst q;exact ⟨hBD,hD0,_,hp⟩) (fun b o hb e=>(hs.2 b hb).trans e) rfl rfl
 have E₂:=(E.step X.shut S₁).wr (wr:=fun a=>a=D) (fun b q=>q▸hBD) (fun b q=>q▸nF) S₂ X₁.shut
 refine wpAny_pure ⟨X₂,E₂,⟨ys.push x,k',hp,?_⟩,?_⟩
 ·rw [Array.toList_push]
  exact RpL_append (S₂.rpL (fun a q=>q▸hBD) hl) (by exact ⟨x,[],rfl,S₂.rp (fun a q=>q▸hBD) r₁,rfl⟩)
 ·exact (S₁.toX (own:=fun a=>a=env.locals∨a=D) (fun a q=>X.shut a (q.elim (fun q=>q▸E.ownL) fun q=>q▸hBD))).trans (S₂.wide fun a q=>.inr q)
noncomputable def CompT (cx:Cx) (n:Nat) (csc:Scope) (Γ:Str→Option V) (σ:Store):List Expr→(Bool→Prop)→Prop
 | [],Q=>Q true
 | [c],Q=>Te cx n csc Γ σ c fun b σ'=>σ'=σ∧Q b
 | _,_=>False
theorem CompT.run {ifs:List Expr} {Q:Bool→Prop} (h:CompT cx n csc Γ σ ifs Q) (rd:Rd n A) (X:St cx B σ s) (E:EnvOk cx csc Γ B σ env s.heap) :
  wpAny (model cx.prog cx.w) A (forIn ifs true fun c r=>if r=true then do let ok ← isTrue c env (eval c env);pure (ForInStep.yield ok) else pure (ForInStep.yield r)) (fun b s'=>St cx B σ s'∧Step σ s.heap σ s'.heap∧Q b) NoE s:=by
 match ifs,h with
 | [],h=>exact wpAny_tests_nil ⟨X,Step.refl _ _,h⟩
 | [c],h=>
  refine wpAny_tests_one (wpAny_mono (h B env A s rd X E) (fun b s' o=>?_) fun o_ o_ x=>x)
  obtain ⟨σ',X',S',e,q⟩:=o
  subst e
  exact ⟨X',S',q⟩
noncomputable def LoopEq (e:Expr) (depth:Nat) (iter target:Expr) (ifs:List Expr) (X:Env→Value→Sem Unit):Prop:=∀ it acc env,compTurn e depth it acc env=(do
   standAt iter.pos
   match ← pyNext it with
   | none=>pure (.done .next)
   | some v=>
    letOwnedTupleGo target it v
    assign target env v
    let mut ok:=true
    for c in ifs do
     if ok then ok ← isTrue c env (eval c env)
    if ok then X env acc
    again (.compLoop e depth it acc env))
theorem loopEq1 {elt iter target:Expr} {ifs:List Expr} {scope:Scope} {pos:Pos}:LoopEq (.ListComp elt [⟨target,iter,ifs,0⟩] scope pos) 0 iter target ifs (emit elt):=fun o_ o_ o_=>by rfl
set_option genInjectivity false in
structure CK where
 (cx:Cx)
 (csc:Scope)
 (Γ:Str→Option V)
 (σ:Store)
 (env:Env)
 (B wr fz:Addr→Prop)
 (D:Addr)
 (base:List V)
 (xs:List Value)
 (h:Heap)
noncomputable def CK.Bw (K:CK):Addr→Prop:=fun a=>K.B a∨K.wr a
noncomputable def CK.own (K:CK):Addr→Prop:=fun a=>a=K.env.locals∨a=K.D∨K.wr a
noncomputable def CK.oLD (K:CK):Addr→Prop:=fun a=>a=K.env.locals∨a=K.D
structure CKs (K:CK) (Γ:Str→Option V) (us:List V) (s:Shared):Prop where
 X:St K.cx K.Bw K.σ s
 E:EnvOk K.cx K.csc Γ K.Bw K.σ K.env s.heap
 rb:RpL (cf K.cx K.Bw K.σ s.heap) K.base K.xs
 acc:AccAt (cf K.cx K.Bw K.σ s.heap) K.D us
 S:StepX K.own K.σ K.h K.σ s.heap
structure CKf (K:CK):Prop where
 hF:∀ a,frameAddrs K.env K.csc a→K.B a
 BD:K.B K.D
 nF:¬ frameAddrs K.env K.csc K.D
 D0:K.cx.h₀.get? K.D=none
 wrB:∀ b,K.wr b→¬ K.B b
 wr0:∀ b,K.wr b→K.cx.h₀.get? b=none
 hfz:∀ b,K.fz b→¬ K.wr b→¬ bad K.B K.σ b∧∃ o,K.h.get? b=some o
section
variable {K:CK} {us:List V}
theorem CKf.BL (F:CKf K):K.B K.env.locals:=F.hF _ (.inl rfl)
theorem CKf.wrL (F:CKf K) {b:Addr} (q:K.wr b):b≠K.env.locals:=fun z=>F.wrB b q (z▸F.BL)
theorem CKf.wrD (F:CKf K) {b:Addr} (q:K.wr b):b≠K.D:=fun z=>F.wrB b q (z▸F.BD)
theorem CKf.ownB (F:CKf K) {a:Addr} (q:K.own a):K.Bw a:=by
 rcases q with rfl|rfl|q
 ·exact .inl F.BL
 ·exact .inl F.BD
 ·exact .inr q
theorem CKs.sD (J:CKs K Γ us s) (F:CKf K):K.σ K.D=none:=J.X.shut _ (.inl F.BD)
theorem CKs.fz (J:CKs K Γ us s) (F:CKf K) {b:Addr} (q:K.fz b) (w:¬ K.wr b):K.σ b=none∧b≠K.env.locals∧b≠K.D:=by
 obtain ⟨h1,o,e⟩:=F.hfz b q w
 exact ⟨Classical.byContradiction fun z=>h1 (.inr z),fun z=>h1 (.inl (z▸F.BL)),fun z=>h1 (.inl (z▸F.BD))⟩
theorem CKs.mv (J:CKs K Γ us s) (F:CKf K) {h':Heap} {tk:Nat} (k:∀ b o,¬ K.wr b→s.heap.get? b=some o→h'.get? b=some o) (lv:∀ a,K.wr a→∃ o,h'.get? a=some o):CKs K Γ us { s with heap:=h',toks:=tk }∧∀ {v y},Rp (cf K.cx K.Bw K.σ s.heap) v y→Rp (cf K.cx K.Bw K.σ h') v y:=by
 obtain ⟨X',S'⟩:=J.X.frame (own:=K.wr) (s':={ s with heap:=h',toks:=tk }) (fun a q=>⟨.inr q,F.wr0 a q,lv a q⟩) k rfl rfl
 exact ⟨⟨X',J.E.wr (fun b q=>.inr q) (fun b q z=>F.wrB b q (F.hF b z)) S' J.X.shut,S'.rpL (fun a q=>.inr q) J.rb,J.acc.stepX S' (fun a q=>.inr q) (J.sD F) (fun q=>F.wrD q rfl),J.S.trans (S'.wide fun a q=>.inr (.inr q))⟩,fun r=>S'.rp (fun a q=>.inr q) r⟩
theorem CKs.bind (J:CKs K Γ us s) (F:CKf K) {x:Str} {v:V} {y:Value} {A:Around} {P:Unit→Shared→Prop} {px:Pos} (hx:K.csc.names.lookup x=some .local) (r:Rp (cf K.cx K.Bw K.σ s.heap) v y)
  (h:∀ h',CKs K (upd Γ x v) us { s with heap:=h',toks:=s.toks+1 }→(∀ b,b≠K.env.locals→h'.get? b=s.heap.get? b)→P () { s with heap:=h',toks:=s.toks+1 }):wpAny (model K.cx.prog K.cx.w) A (assign (.Name x px) K.env y) P NoE s:=by
 have eo:K.env.kindOf x=K.csc.names.lookup x:=by delta Env.kindOf;rw [J.E.sc_]
 have ek:K.env.scope.kind=.function:=by rw [J.E.sc_];exact J.E.kind
 obtain ⟨mm,hm₁,hm₂⟩:=J.E.ns
 refine wpAny_assign_Name (wpAny_storeName_local (eo.trans hx) hm₁ (fun h₆ hn₆ hs₆=>?_) (by rw [ek];rfl))
 obtain ⟨o,_,_,ho,_⟩:=id hn₆
 obtain ⟨X₆,S₆⟩:=J.X.frame (own:=fun a=>a=K.env.locals) (s':={ s with heap:=h₆,toks:=s.toks+1 }) (fun a q=>q▸⟨.inl F.BL,J.E.newL,o,ho⟩) (fun b o hb e=>(hs₆.2 b hb).trans e) rfl rfl
 have oL:∀ a,a=K.env.locals→K.Bw a:=fun a q=>q▸.inl F.BL
 exact h _ ⟨X₆,J.E.bindL hx hm₂ hn₆ (if_pos rfl) (fun z hz=>if_neg hz) hs₆ S₆ r,S₆.rpL oL J.rb,J.acc.stepX S₆ oL (J.sD F) fun q=>F.nF (.inl q),J.S.trans (S₆.wide fun a q=>.inl q)⟩ hs₆.2
theorem CKs.step (J:CKs K Γ us s) (F:CKf K) (X:St K.cx K.Bw K.σ s') (S:Step K.σ s.heap K.σ s'.heap):CKs K Γ us s':=
 ⟨X,J.E.step J.X.shut S,S.rpL J.rb,J.acc.step S (J.sD F),J.S.trans (S.toX fun a q=>J.X.shut a (F.ownB q))⟩
theorem CKs.out (J:CKs K Γ us s) (F:CKf K) {us':List V} (o:XOut K.cx K.Bw K.csc Γ K.σ K.env K.D s.heap us' s'):CKs K Γ us' s':=
 ⟨o.X,o.E,o.S.rpL (fun a q=>F.ownB (q.elim .inl fun q=>.inr (.inl q))) J.rb,o.acc,J.S.trans (o.S.wide fun a q=>q.elim .inl fun q=>.inr (.inl q))⟩
theorem CKs.weaken (J:CKs K Γ' us s) (hΓ:∀ y v,Γ y=some v→Γ' y=some v):CKs K Γ us s:=⟨J.X,J.E.weaken hΓ,J.rb,J.acc,J.S⟩
theorem CKs.end_ (J:CKs K Γ us s) (F:CKf K) {h₁ h':Heap} {tk:Nat} {σ₀:Store} (k:∀ b o,¬ K.wr b→s.heap.get? b=some o→h'.get? b=some o) (new:∀ b,K.wr b→h₁.get? b=none) (S₀:StepX K.oLD σ₀ h₁ K.σ K.h):St K.cx K.B K.σ { s with heap:=h',toks:=tk }∧EnvOk K.cx K.csc Γ K.B K.σ K.env h'∧AccAt (cf K.cx K.B K.σ h') K.D us∧StepX K.oLD σ₀ h₁ K.σ h':=by
 have nw:∀ {b o},h₁.get? b=some o→¬ K.wr b:=fun {b o} e q=>by rw [new b q] at e;contradiction
 obtain ⟨ys,kk,e1,e2⟩:=J.acc
 refine ⟨J.X.wrEnd F.wrB F.wr0 k,J.E.wrEnd F.wrB F.hF k,⟨ys,kk,k _ _ (fun q=>F.wrD q rfl) e1,GL_mono (C:=cf K.cx K.Bw K.σ s.heap) (C':=cf K.cx K.B K.σ h') rfl (wr_kept F.wrB k) _ _ e2⟩,fun b o hb ho e=>?_,S₀.dom,fun a o e=>?_⟩
 ·exact k b o (nw e) (J.S.keep b o (S₀.stay hb e) (fun z=>z.elim (fun z=>ho (.inl z)) fun z=>z.elim (fun z=>ho (.inr z)) (nw e)) (S₀.keep b o hb ho e))
 ·obtain ⟨o₁,h1⟩:=S₀.live a o e
  obtain ⟨o₂,h2⟩:=J.S.live a o₁ h1
  exact ⟨o₂,k a o₂ (nw e) h2⟩
end
noncomputable def CK.J (K:CK) (IA:Nat→Heap→Prop) (n:Nat) (vs:List V) (rs:List (List V)) (m:Nat) (s:Shared):Prop:=∃ i,i+m=n∧IA i s.heap∧CKs K K.Γ (vs++(rs.take i).flatten) s
theorem take_flat {rs:List (List V)} {us:List V} {i:Nat} (h:rs[i]? = some us):(rs.take (i+1)).flatten=(rs.take i).flatten++us:=by rw [List.take_add_one,h,List.flatten_append];exact congrArg _ (List.append_nil us)
theorem flat_le {vs:List V} {rs:List (List V)} {us:List V} {i N:Nat} (h:rs[i]? = some us) (hz:vs.length+rs.flatten.length≤N):(vs++(rs.take i).flatten).length+us.length≤N:=by
 have e2:rs.flatten.length=(rs.take (i+1)).flatten.length+(rs.drop (i+1)).flatten.length:=by rw [← List.length_append,← List.flatten_append,List.take_append_drop]
 rw [take_flat h,List.length_append] at e2
 rw [List.length_append,Nat.add_assoc]
 exact Nat.le_trans (Nat.add_le_add_left (e2▸Nat.le_add_right _ _) _) hz
theorem pred_eq {m i N:Nat} (h:i+m=N) (hm:¬ m=0):m - 1<m∧i+1+(m - 1)=N:=by
 obtain ⟨k,rfl⟩:=Nat.exists_eq_succ_of_ne_zero hm
 exact ⟨Nat.lt_succ_self k,(Nat.add_right_comm i 1 k).trans h⟩
theorem comp_turn {elt:Expr} {gens:List Comprehension} {scope:Scope} {pos:Pos} {depth:Nat} {iter:Expr} {x:Str} {px:Pos} {ifs:List Expr} {X:Env→Value→Sem Unit} {K:CK} (he:LoopEq (.ListComp elt gens scope pos) depth iter (.Name x px) ifs X) (hx:K.csc.names.lookup x=some .local) (hΓ:K.Γ x=none)
  {l:List V} {rs:List (List V)} (hlen:rs.length=l.length)
  (hturn:∀ (i:Nat) (v:V) (us:List V),l[i]? = some v→rs[i]? = some us→CompT K.cx n K.csc (upd K.Γ x v) K.σ ifs fun b=>(b=false→us=[])∧(b=true→CompX K.cx n K.csc (upd K.Γ x v) K.σ X us))
  (rd:Rd n A) (F:CKf K) {vs:List V} (hsz:vs.length+rs.flatten.length≤1000000)
  {IA:Nat→Heap→Prop} {Mid:Nat→Value→Heap→Prop} {I:Addr} (src:Src K.cx false K.base K.xs l K.wr K.fz IA Mid I)
  {h₁:Heap} (new:∀ b,K.wr b→h₁.get? b=none) {σ₀:Store} (S₀:StepX K.oLD σ₀ h₁ K.σ K.h) {m:Nat} {s:Shared} (J:K.J IA l.length vs rs m s)
  {P:Fin→Shared→Prop} (done:∀ s',St K.cx K.B K.σ s'→EnvOk K.cx K.csc K.Γ K.B K.σ K.env s'.heap→AccAt (cf K.cx K.B K.σ s'.heap) K.D (vs++rs.flatten)→StepX K.oLD σ₀ h₁ K.σ s'.heap→P (.done .next) s') (again_:∀ m' s',m'<m→K.J IA l.length vs rs m' s'→P (.again (.compLoop (.ListComp elt gens scope pos) depth (.ref I) (.ref K.D) K.env)) s') :
  wpAny (model K.cx.prog K.cx.w) A (compTurn (.ListComp elt gens scope pos) depth (.ref I) (.ref K.D) K.env) P NoE s:=by
 obtain ⟨i,hi,ia,J⟩:=J
 rw [he]
 refine wpAny_bind (wpAny_standAt (wpAny_bind ?_))
 by_cases hm:m=0
 ·subst hm
  obtain rfl:i=l.length:=hi
  refine src.done A s _ _ rd.1 ia fun h' tk k=>?_
  rw [← hlen,List.take_length] at J
  obtain ⟨X₄,E₄,a₄,S₄⟩:=J.end_ F (tk:=tk) k new S₀
  exact wpAny_pure (done _ X₄ E₄ a₄ S₄)
 ·have hlt:i<l.length:=hi▸Nat.lt_add_of_pos_right (Nat.pos_of_ne_zero hm)
  obtain ⟨us,hus⟩:∃ us,rs[i]? = some us:=⟨_,List.getElem?_eq_getElem (hlen▸hlt)⟩
  refine src.next A s i _ _ rd.1 hlt ia fun y v h' tk hv mid k rx=>?_
  have J₄:=(J.mv F (tk:=tk) k fun a q=>src.liveM i y h' a mid q).1
  have rx₄:=rx (cf K.cx K.Bw K.σ h') rfl (fun a q=>J.X.fresh q) J₄.rb
  refine wpAny_bind (src.go A _ i _ y _ _ rfl mid fun h'' ia₅ k'=>?_)
  obtain ⟨J₅,up₅⟩:=J₄.mv F (tk:=tk) k' fun a q=>src.live (i+1) h'' a ia₅ q
  refine wpAny_bind (J₅.bind F hx (up₅ rx₄) fun h₆ J₆ k₆=>?_)
  have ia₆:IA (i+1) h₆:=src.fr _ _ _ ia₅ fun b e q o=>(k₆ b (by
   rcases q with q|q
   ·exact F.wrL q
   ·by_cases w:K.wr b
    ·exact F.wrL w
    ·exact (J₅.fz F q w).2.1)).trans o
  refine wpAny_bind (wpAny_mono ((hturn i v us hv hus).run rd J₆.X J₆.E) (fun ok s₇ o=>?_) fun o_ o_ x=>x.elim)
  obtain ⟨X₇,S₇,q0,q1⟩:=o
  have J₇:=J₆.step F X₇ S₇
  have fr7:∀ {h₈:Heap},StepX K.oLD K.σ s₇.heap K.σ h₈→IA (i+1) h₈:=fun {h₈} T=>src.fr _ _ _ ia₆ fun b e o q=>by
   by_cases w:K.wr b
   ·exact T.keep b e (J₆.X.shut b (.inr w)) (fun z=>z.elim (F.wrL w) (F.wrD w)) (S₇.keep b e (J₆.X.shut b (.inr w)) q)
   ·obtain ⟨n0,nL,nD⟩:=J₆.fz F (o.elim (fun z=>absurd z w) id) w
    exact T.keep b e n0 (fun z=>z.elim nL nD) (S₇.keep b e n0 q)
  have toΓ:∀ y u,K.Γ y=some u→upd K.Γ x v y=some u:=fun y u e=>(if_neg fun z=>by rw [z,hΓ] at e;contradiction).trans e
  obtain ⟨h1,h2⟩:=pred_eq hi hm
  rcases ok with _|_
  ·
   obtain rfl:=q0 rfl
   refine wpAny_pure (again_ _ _ h1 ⟨i+1,h2,fr7 (StepX.refl _ _),?_⟩)
   rw [take_flat hus,List.append_nil]
   exact J₇.weaken toΓ
  ·
   refine wpAny_bind (wpAny_mono (q1 rfl _ K.env A s₇ K.D _ rd X₇ J₇.E (.inl F.BD) F.nF F.D0 J₇.acc (flat_le hus hsz)) (fun o_ s₈ o=>?_) fun o_ o_ x=>x.elim)
   refine wpAny_pure (again_ _ _ h1 ⟨i+1,h2,fr7 o.S,?_⟩)
   rw [take_flat hus,← List.append_assoc]
   exact (J₇.out F o).weaken toΓ
theorem comp_loop {elt:Expr} {gens:List Comprehension} {scope:Scope} {pos:Pos} {depth:Nat} {iter:Expr} {x:Str} {px:Pos} {ifs:List Expr} {X:Env→Value→Sem Unit} (he:LoopEq (.ListComp elt gens scope pos) depth iter (.Name x px) ifs X) (hx:csc.names.lookup x=some .local) (hΓ:Γ x=none)
  {l:List V} {rs:List (List V)} (hlen:rs.length=l.length)
  (hturn:∀ (i:Nat) (v:V) (us:List V),l[i]? = some v→rs[i]? = some us→CompT cx n csc (upd Γ x v) σ ifs fun b=>(b=false→us=[])∧(b=true→CompX cx n csc (upd Γ x v) σ X us))
  {wr fz:Addr→Prop} (rd:Rd n A) (XS:St cx (fun a=>B a∨wr a) σ s) (E:EnvOk cx csc Γ (fun a=>B a∨wr a) σ env s.heap) (hF:∀ a,frameAddrs env csc a→B a) {D:Addr} {vs:List V} (hBD:B D) (nF:¬ frameAddrs env csc D) (hD0:cx.h₀.get? D=none)
  (acc:AccAt (cf cx (fun a=>B a∨wr a) σ s.heap) D vs) (hsz:vs.length+rs.flatten.length≤1000000)
  {base:List V} {xs:List Value} {IA:Nat→Heap→Prop} {Mid:Nat→Value→Heap→Prop} {I:Addr} (src:Src cx false base xs l wr fz IA Mid I) (ia:IA 0 s.heap) (rb:RpL (cf cx (fun a=>B a∨wr a) σ s.heap) base xs)
  {h₁:Heap} (hwr:∀ b,wr b→h₁.get? b=none∧¬ B b∧cx.h₀.get? b=none) {σ₀:Store} (hfz:∀ b,fz b→¬ wr b→¬ bad B σ b∧∃ o,s.heap.get? b=some o) (S₀:StepX (fun a=>a=env.locals∨a=D) σ₀ h₁ σ s.heap) :
  codeAny (model cx.prog cx.w) A (.compLoop (.ListComp elt gens scope pos) depth (.ref I) (.ref D) env) (fun r s'=>r=.ok .next∧St cx B σ s'∧EnvOk cx csc Γ B σ env s'.heap∧AccAt (cf cx B σ s'.heap) D (vs++rs.flatten)∧StepX (fun a=>a=env.locals∨a=D) σ₀ h₁ σ s'.heap) s:=by
 have F:CKf ⟨cx,csc,Γ,σ,env,B,wr,fz,D,base,xs,s.heap⟩:=⟨hF,hBD,nF,hD0,fun b q=>(hwr b q).2.1,fun b q=>(hwr b q).2.2,hfz⟩
 refine codeAny_loop rfl (CK.J ⟨cx,csc,Γ,σ,env,B,wr,fz,D,base,xs,s.heap⟩ IA l.length vs rs) (fun m s₃ hJ=>?_) l.length ⟨0,Nat.zero_add _,ia,XS,E,rb,(List.append_nil vs).symm▸acc,StepX.refl _ _⟩
 skip
 refine wpAny_noted ?_
 refine wpAny_mono (comp_turn (K:=⟨cx,csc,Γ,σ,env,B,wr,fz,D,base,xs,s.heap⟩) he hx hΓ hlen hturn rd F hsz src (fun b q=>(hwr b q).1) S₀ hJ ?_ ?_) (fun o_ o_ q=>q) fun o_ o_ x=>x.elim
 ·exact fun s' a b c d=>⟨rfl,a,b,c,d⟩
 ·exact fun m' s' h J=>⟨rfl,m',h,J⟩
end
noncomputable def relabel' (csc sc:Scope):Scope:={ csc with names:=csc.names.map fun (n,k)=>if (k==.free && sc.kind==.function && sc.names.lookup n==some .cell) then (n,.cell) else (n,k) }
noncomputable def capΓ (csc:Scope) (Γ:Str→Option V):Str→Option V:=fun y=>if csc.names.lookup y=some .free then Γ y else none
noncomputable def compOk (csc sc:Scope):Bool:=csc.kind==.function && csc.names.all fun y=>y.2 != .cell && (y.2 != .local || csc.names.lookup y.1==some .local) && (y.2 != .free || sc.names.lookup y.1==some .cell || sc.names.lookup y.1==some .free)
noncomputable def capt (env:Env):List (Str×NameKind)→List (Str×Addr)→List (Str×Addr)
 | [],acc=>acc
 | (x,k)::r,acc=>capt env r (if k==.free then (x,(env.cells.lookup x).getD 0)::acc else acc)
theorem capt_from {env:Env}:∀ {names:List (Str×NameKind)} {acc:List (Str×Addr)} {x:Str} {c:Addr},(∀ y,(y,NameKind.free)∈names→(env.cells.lookup y).isSome=true)→(capt env names acc).lookup x=some c→acc.lookup x=some c∨env.cells.lookup x=some c
 | [],_,_,_,_,h=>.inl h
 | (y,k)::r,acc,x,c,hs,h₀=>by
  rcases capt_from (names:=r) (fun z hz=>hs z (.tail _ hz)) h₀ with h|h
  ·by_cases hk:(k==.free)=true
   ·rw [if_pos hk,List.lookup_cons] at h
    have hk':k=.free:=by simpa using hk
    subst hk'
    by_cases e':x=y
    ·subst e'
     right
     obtain ⟨d,hd⟩:=Option.isSome_iff_exists.mp (hs x (.head _))
     simp only [beq_self_eq_true] at h
     rw [hd] at h ⊢;exact h
    ·have hb:(x==y)=false:=by simpa using e'
     rw [hb] at h;exact .inl h
   ·rw [if_neg hk] at h;exact .inl h
  ·exact .inr h
theorem capt_acc {env:Env}:∀ {names:List (Str×NameKind)} {acc:List (Str×Addr)} {x:Str},(∀ y,(y,NameKind.free)∈names→(env.cells.lookup y).isSome=true)→((x,NameKind.free)∈names∨acc.lookup x=env.cells.lookup x)→(capt env names acc).lookup x=env.cells.lookup x
 | [],_,_,_,h=>h.elim (fun q=>by contradiction) id
 | (y,k)::r,acc,x,hs,h=>by
  refine capt_acc (names:=r) (acc:=if k==.free then (y,(env.cells.lookup y).getD 0)::acc else acc) (fun z hz=>hs z (.tail _ hz)) ?_
  by_cases hxy:x=y
  ·subst hxy
   by_cases hk:(k==.free)=true
   ·right
    have hk':k=.free:=by simpa using hk
    subst hk'
    obtain ⟨d,hd⟩:=Option.isSome_iff_exists.mp (hs x (.head _))
    rw [if_pos hk,List.lookup_cons,hd];simp
   ·rw [if_neg hk]
    rcases h with h|h
    ·rcases List.mem_cons.mp h with q|q
     ·injection q with _ q;subst q;exact absurd rfl hk
     ·exact .inl q
    ·exact .inr h
  ·rcases h with h|h
   ·rcases List.mem_cons.mp h with q|q
    ·injection q with q _;exact absurd q hxy
    ·exact .inl q
   ·right
    have hb:(x==y)=false:=by simpa using hxy
    by_cases hk:(k==.free)=true
    ·rw [if_pos hk,List.lookup_cons,hb];exact h
    ·rw [if_neg hk];exact h
theorem closureFor_eq {scope:Scope} {env:Env} (hs:∀ y,(y,NameKind.free)∈scope.names→(env.cells.lookup y).isSome=true):closureFor scope env=pure (capt env scope.names []):=by
 have key:∀ (names:List (Str×NameKind)) (acc:List (Str×Addr)),(∀ y,(y,NameKind.free)∈names→(env.cells.lookup y).isSome=true) →
   (forIn names acc (fun (x:Str×NameKind) r=>match x with | (name,kind)=>if (kind==.free)=true then do let c ← cellOf env name;pure (ForInStep.yield ((name,c)::r)) else pure (ForInStep.yield r)):Sem _)=pure (capt env names acc):=by
  intro names
  induction names with
  | nil=>intro acc _;rfl
  | cons p r ih=>
   intro acc hs
   obtain ⟨y,k⟩:=p
   rw [List.forIn_cons]
   dsimp only
   by_cases hk:(k==.free)=true
   ·have hk':k=.free:=by simpa using hk
    subst hk'
    obtain ⟨d,hd⟩:=Option.isSome_iff_exists.mp (hs y (.head _))
    dsimp only [capt]
    rw [if_pos hk,if_pos hk,hd]
    delta cellOf
    rw [hd]
    exact ih _ fun z hz=>hs z (.tail _ hz)
   ·dsimp only [capt]
    rw [if_neg hk,if_neg hk]
    exact ih _ fun z hz=>hs z (.tail _ hz)
 skip
 exact congrArg (fun (m:Sem (List (Str×Addr)))=>m >>= fun cs=>pure cs) (key scope.names [] hs)
theorem relabel_free {sc:Scope}:∀ {names:List (Str×NameKind)} {y:Str},(∀ z∈names,z.2≠.cell)→((names.map fun (n,k)=>if (k==NameKind.free && sc.kind==.function && sc.names.lookup n==some .cell) then (n,NameKind.cell) else (n,k)).lookup y=some .cell∨(names.map fun (n,k)=>if (k==NameKind.free && sc.kind==.function && sc.names.lookup n==some .cell) then (n,NameKind.cell) else (n,k)).lookup y=some .free)→names.lookup y=some .free
 | [],_,_,h=>by exact nomatch h
 | (z,k)::r,y,hc,h=>by
  have ih:=@relabel_free sc r y fun z hz=>hc z (.tail _ hz)
  simp only [List.map_cons] at h
  rw [List.lookup_cons]
  by_cases hzy:y=z
  ·subst hzy
   by_cases q:(k==NameKind.free && sc.kind==.function && sc.names.lookup y==some .cell)=true
   ·have hk:k=.free:=by simp at q;exact q.1.1
    simp [hk]
   ·rw [if_neg q] at h
    have:=hc _ (.head _)
    simp at h ⊢
    rcases h with h|h
    ·exact absurd h this
    ·exact h
  ·have hb:(y==z)=false:=by simpa using hzy
   rw [hb]
   refine ih ?_
   by_cases q:(k==NameKind.free && sc.kind==.function && sc.names.lookup z==some .cell)=true
   ·rw [if_pos q,List.lookup_cons,hb] at h;exact h
   ·rw [if_neg q,List.lookup_cons,hb] at h;exact h
theorem relabel_local {sc:Scope}:∀ {names:List (Str×NameKind)} {y:Str},(names.map fun (n,k)=>if (k==NameKind.free && sc.kind==.function && sc.names.lookup n==some .cell) then (n,NameKind.cell) else (n,k)).lookup y=some .local→names.lookup y=some .local
 | [],_,h=>by contradiction
 | (z,k)::r,y,h=>by
  have ih:=@relabel_local sc r y
  simp only [List.map_cons] at h
  rw [List.lookup_cons]
  by_cases hzy:y=z
  ·subst hzy
   by_cases q:(k==NameKind.free && sc.kind==.function && sc.names.lookup y==some .cell)=true
   ·rw [if_pos q] at h;simp at h
   ·rw [if_neg q] at h;simpa using h
  ·have hb:(y==z)=false:=by simpa using hzy
   rw [hb]
   refine ih ?_
   by_cases q:(k==NameKind.free && sc.kind==.function && sc.names.lookup z==some .cell)=true
   ·rw [if_pos q,List.lookup_cons,hb] at h;exact h
   ·rw [if_neg q,List.lookup_cons,hb] at h;exact h
theorem relabel_local' {sc:Scope}:∀ {names:List (Str×NameKind)} {y:Str},names.lookup y=some .local→(names.map fun (n,k)=>if (k==NameKind.free && sc.kind==.function && sc.names.lookup n==some .cell) then (n,NameKind.cell) else (n,k)).lookup y=some .local
 | [],_,h=>by contradiction
 | (z,k)::r,y,h=>by
  have ih:=@relabel_local' sc r y
  simp only [List.map_cons]
  rw [List.lookup_cons] at h
  by_cases hzy:y=z
  ·subst hzy
   simp at h;subst h
   simp
  ·have hb:(y==z)=false:=by simpa using hzy
   rw [hb] at h
   by_cases q:(k==NameKind.free && sc.kind==.function && sc.names.lookup z==some .cell)=true
   ·rw [if_pos q,List.lookup_cons,hb];exact ih h
   ·rw [if_neg q,List.lookup_cons,hb];exact ih h
section
variable {cx:Cx} {n:Nat} {sc csc:Scope} {Γ Γ':Str→Option V} {σ σ':Store} {B B':Addr→Prop} {s s':Shared} {A:Around} {env:Env} {h h':Heap}
theorem St.take {D:Addr} {v:V} (X:St cx (fun a=>B a∨a=D) σ s) (hD:¬ B D) (h0:cx.h₀.get? D=none) (hm:v.isMut=true) (hv:G (cf cx (fun a=>B a∨a=D) σ s.heap) false v (.ref D)):St cx B (σ.set D v) s:=by
 have sD:σ D=none:=X.shut D (.inr rfl)
 have kept:∀ a o,¬ (cf cx (fun a=>B a∨a=D) σ s.heap).bad a→(cf cx (fun a=>B a∨a=D) σ s.heap).h.get? a=some o→(cf cx B (σ.set D v) s.heap).h.get? a=some o∧¬ (cf cx B (σ.set D v) s.heap).bad a:=fun a o hb e=>by
  have nb:¬ ((B a∨a=D)∨σ a≠none):=hb
  refine ⟨e,?_⟩
  rintro (q|q)
  ·exact nb (.inl (.inl q))
  ·by_cases z:a=D
   ·exact nb (.inl (.inr z))
   ·exact nb (.inr (by simpa [Store.set,z] using q))
 refine ⟨X.keep,X.gens,X.os,fun a u e=>?_,fun a q=>X.alive a (.inl q)⟩
 by_cases z:a=D
 ·subst z
  simp only [Store.set,if_true] at e;(injection e with e;subst e)
  exact ⟨hD,h0,hm,G_mono (C:=cf cx (fun b=>B b∨b=a) σ s.heap) (C':=cf cx B (σ.set a v) s.heap) rfl kept false v _ (fun o_ o_ o_ o_ e=>e) hv⟩
 ·simp only [Store.set,z,if_false] at e
  obtain ⟨h1,h2,h3,h4⟩:=X.own a u e
  exact ⟨fun q=>h1 (.inl q),h2,h3,G_mono (C:=cf cx (fun a=>B a∨a=D) σ s.heap) (C':=cf cx B (σ.set D v) s.heap) rfl kept false u _ (fun o_ o_ o_ o_ e=>e) h4⟩
theorem compStart_run {elt:Expr} {gens:List Comprehension} {scope:Scope} {pos:Pos} {depth:Nat} {g:Comprehension} {it acc:Value} {R:Result→Shared→Prop} (hg:gens[depth]? = some g) (ha:g.is_async=0)
  (h0:codeAny (model cx.prog cx.w) A (.compLoop (.ListComp elt gens scope pos) depth it acc env) R s)
  (h:wpAny (model cx.prog cx.w) A (pyIter it) (fun it' s'=>codeAny (model cx.prog cx.w) A (.compLoop (.ListComp elt gens scope pos) depth it' acc env) R s') (notedBy (model cx.prog cx.w) A env fun x s'=>R (.error x) s') s) :
  codeAny (model cx.prog cx.w) A (.compStart (.ListComp elt gens scope pos) depth it acc env) R s:=by
 refine codeAny_of_tree ?_
 skip
 refine wpAny_notedAt ?_
 have hc:(clausesOf (.ListComp elt gens scope pos))[depth]? = some g:=hg
 delta compStart
 rw [hc]
 simp only [Option.elim_some,ha,bne_self_eq_false,Bool.false_eq_true,if_false]
 skip
 refine wpAny_bind (wpAny_askSetting (wpAny_ite ?_))
 split
 ·first
   | exact wpAny_bind (wpAny_pure (wpAny_pure (And.intro rfl h0)))
   | exact wpAny_pure (And.intro rfl h0)
 ·exact wpAny_bind (wpAny_rule (wpAny_bind (wpAny_standAt (wpAny_bind (wpAny_mono h (fun it' s' h'=>wpAny_pure (And.intro rfl h')) fun o_ o_ x=>x)))))
end
section
variable {cx:Cx} {n:Nat} {sc csc:Scope} {Γ Γ':Str→Option V} {σ σ':Store} {B B':Addr→Prop} {s s':Shared} {A:Around} {env:Env} {h h':Heap}
noncomputable def Turns (cx:Cx) (n:Nat) (csc:Scope) (Γ:Str→Option V) (σ:Store) (x:Str) (ifs:List Expr) (X:Env→Value→Sem Unit) (l:List V) (us:List V):Prop:=
 ∃ rs:List (List V),rs.length=l.length∧rs.flatten=us∧us.length≤1000000∧∀ (i:Nat) (v:V) (u:List V),l[i]? = some v→rs[i]? = some u→CompT cx n csc (upd Γ x v) σ ifs fun b=>(b=false→u=[])∧(b=true→CompX cx n csc (upd Γ x v) σ X u)
theorem cenv_ok {wr':Addr→Prop} {C:Addr} {m:Str→Option Value} (E:EnvOk cx sc Γ B σ env h) (hok:compOk csc sc=true) (hC:B' C) (hC0:cx.h₀.get? C=none) (hn:h'.Ns C m) (hB:∀ a,B a→B' a)
  (k:∀ b o,B b→h.get? b=some o→h'.get? b=some o) (up:∀ v x,Rp (cf cx B σ h) v x→Rp (cf cx B' σ' h') v x) :
  closureFor csc env=pure (capt env csc.names [])∧EnvOk cx (relabel' csc sc) (capΓ csc Γ) B' σ' (compEnvC csc (capt env csc.names []) C env) h'∧∀ a,frameAddrs (compEnvC csc (capt env csc.names []) C env) (relabel' csc sc) a→a=C∨frameAddrs env sc a:=by
 delta compOk at hok
 simp only [Bool.and_eq_true,List.all_eq_true,beq_iff_eq] at hok
 obtain ⟨hk,hall⟩:=hok
 have hcell:∀ y∈csc.names,y.2≠.cell:=fun y hy=>by
  have:=(hall y hy).1.1
  simpa using this
 have hfree:∀ y,(y,NameKind.free)∈csc.names→sc.names.lookup y=some .cell∨sc.names.lookup y=some .free:=fun y hy=>by
  have:=(hall _ hy).2
  simpa using this
 have hs:∀ y,(y,NameKind.free)∈csc.names→(env.cells.lookup y).isSome=true:=fun y hy=>by
  obtain ⟨c,cv,h1,_⟩:=E.cells y (hfree y hy)
  rw [h1];rfl
 have lk0:∀ x c,(capt env csc.names []).lookup x=some c→env.cells.lookup x=some c:=fun x c e=>(capt_from hs e).resolve_left (by simp)
 have hfr:∀ x,((relabel' csc sc).names.lookup x=some .cell∨(relabel' csc sc).names.lookup x=some .free)→csc.names.lookup x=some .free:=fun x e=>relabel_free hcell e
 refine ⟨closureFor_eq hs,?_,?_⟩
 ·refine ⟨?_,hk,E.gl,E.bi,hC,hC0,⟨m,hn,fun y v e l=>?_⟩,fun x hx=>?_,fun x y c h1 h2=>E.apart x y c (lk0 x c h1) (lk0 y c h2)⟩
  ·show relabel csc env=relabel' csc sc
   delta relabel relabel' Env.kindOf
   rw [E.sc_]
  ·have:=relabel_local (sc:=sc) l
   dsimp only [capΓ] at e
   rw [this] at e
   simp at e
  ·have hf:=hfr x hx
   have hm:=mem_of_lookup hf
   obtain ⟨c,cv,h1,h2,h3,⟨o,ho,hd⟩,h5⟩:=E.cells x (hfree x hm)
   refine ⟨c,cv,?_,hB c h2,h3,⟨o,k c o h2 ho,hd⟩,fun v e=>?_⟩
   ·show (capt env csc.names []).lookup x=some c
    rw [capt_acc hs (.inl hm),h1]
   ·dsimp only [capΓ] at e
    rw [if_pos hf] at e
    obtain ⟨y,e1,e2⟩:=h5 v e
    exact ⟨y,e1,up _ _ e2⟩
 ·rintro a (q|⟨x,hx,hc⟩)
  ·exact .inl q
  ·have hf:=hfr x hx
   exact .inr (.inr ⟨x,hfree x (mem_of_lookup hf),lk0 x a hc⟩)
theorem comp_core {elt iter:Expr} {x:Str} {px:Pos} {ifs:List Expr} {gs:List Comprehension} {pos pos':Pos} {X:Env→Value→Sem Unit} {use:Option (Value→Sem Unit)} {P:Value→Shared→Prop} {R:V→Store→Prop}
  (he:LoopEq (.ListComp elt (⟨.Name x px,iter,ifs,0⟩::gs) csc pos) 0 iter (.Name x px) ifs X) (hok:compOk csc sc=true) (hx:csc.names.lookup x=some .local)
  (hI:EvI cx false n sc Γ σ iter fun l σ₁=>∃ us,Turns cx n (relabel' csc sc) (capΓ csc Γ) σ₁ x ifs X l us∧(R (.lst us) σ₁∨∀ a,σ₁ a=none→R (.ref a) (σ₁.set a (.lst us))))
  (rd:Rd n A) (XS:St cx B σ s) (E:EnvOk cx sc Γ B σ env s.heap)
  (hK:∀ C D v σ₂ s',St cx (fun a=>B a∨a=C) σ₂ s'→EnvOk cx sc Γ (fun a=>B a∨a=C) σ₂ env s'.heap→Step σ s.heap σ₂ s'.heap→Rp (cf cx (fun a=>B a∨a=C) σ₂ s'.heap) v (.ref D)→(∃ m,s'.heap.Ns C m)→s.heap.get? C=none→¬ B C →
   R v σ₂→compPost (model cx.prog cx.w) A NoE use P (.ref D) C (.ok .next) s')
  (hs:∀ x,foldedSetIterable iter env x=pure x) :
  wpAny (model cx.prog cx.w) A (comprehension (.ListComp elt (⟨.Name x px,iter,ifs,0⟩::gs) csc pos) csc env pos' (newList []) false (eval iter env) use) P NoE s:=by
 have hok':=hok
 dsimp only [compOk] at hok'
 simp only [Bool.and_eq_true,List.all_eq_true,beq_iff_eq] at hok'
 obtain ⟨hk,hall⟩:=hok'
 have hcell:∀ y∈csc.names,y.2≠.cell:=fun y hy=>by have:=(hall y hy).1.1;simpa using this
 have hnames:∀ y∈csc.names,y.2=.local→csc.names.lookup y.1=some .local:=fun y hy e=>by
  have:=(hall y hy).1.2
  rw [e] at this
  simpa using this
 have hfree:∀ y,(y,NameKind.free)∈csc.names→sc.names.lookup y=some .cell∨sc.names.lookup y=some .free:=fun y hy=>by
  have:=(hall _ hy).2
  simpa using this
 have hclos:closureFor csc env=pure (capt env csc.names []):=closureFor_eq fun y hy=>by
  obtain ⟨c,cv,h1,_⟩:=E.cells y (hfree y hy)
  rw [h1];rfl
 refine wpAny_comprehension_free (g:=⟨.Name x px,iter,ifs,0⟩) (gs:=gs) rfl hs hclos hk hnames (wpAny_mono (hI B env A s rd XS E) (fun xv s₁ h₁=>wpAny_mono h₁ (fun it s₂ h₂=>?_) fun o_ o_ z=>z) fun o_ o_ z=>z)
 obtain ⟨σ₁,base,xs,l,wr,fz,IA,Mid,I,rfl,X₁,S₁,src,ia,rb,hwr,hfz,us,⟨rs,hlen,hus,hul,hturn⟩,hR⟩:=h₂
 refine wpAny_newObj_type (wpAny_newFunctionEnv hcell (by intro y hy;simp at hy) (fun h₁ hns₁ hsb₁=>?_) hk)
 dsimp only at hns₁ hsb₁ ⊢
 generalize hH2:s₂.heap.push { cls:=.type "list",dict:=none,data:=.seq ([]:List Value).toArray } = H2 at hns₁ hsb₁ ⊢
 have hC:H2.objs.size=s₂.heap.objs.size+1:=by rw [← hH2,Heap.size_push]
 generalize hDd:s₂.heap.objs.size=D at *
 generalize hCd:H2.objs.size=C at *
 have hDC:D≠C:=by rw [hC];exact Nat.ne_of_lt (Nat.lt_succ_self _)
 have fresh:∀ a,D≤a→s₂.heap.get? a=none:=fun a ha=>by
  rcases e:s₂.heap.get? a with _|o'
  ·rfl
  ·exact absurd (Heap.lt_size e) (Nat.not_lt.mpr (hDd▸ha))
 have below:∀ b,b<D→b≠C∧b≠D:=fun b hb=>⟨by rw [hC];exact Nat.ne_of_lt (Nat.lt_succ_of_lt hb),Nat.ne_of_lt hb⟩
 have old:∀ b o,s₂.heap.get? b=some o→h₁.get? b=some o:=fun b o e=>hsb₁.extBut b o (below b (hDd▸Heap.lt_size e)).1 (Heap.get?_push_of_some _ (hH2▸Heap.get?_push_of_some _ e))
 have hacc:h₁.get? D=some (seqObj "list" #[] 0):=hsb₁.extBut _ _ hDC (Heap.get?_push_of_some _ (hH2▸(hDd▸Heap.get?_push_size _ rfl)))
 have D₂:s₂.heap.get? D=none:=fresh D (Nat.le_refl _)
 have C₂:s₂.heap.get? C=none:=fresh C (by rw [hC];exact Nat.le_succ _)
 have new:∀ a,s₂.heap.get? a=none→s.heap.get? a=none:=fun a e=>by
  rcases q:s.heap.get? a with _|o
  ·rfl
  ·obtain ⟨o',q'⟩:=S₁.live a o q;rw [q'] at e;contradiction
 have D₀:=X₁.base_none D₂
 have C₀:=X₁.base_none C₂
 have nBC:¬ B C:=fun q=>X₁.fresh_not C₂ (.inl q)
 have nBD:¬ B D:=fun q=>X₁.fresh_not D₂ (.inl q)
 have nwC:¬ wr C:=fun q=>X₁.fresh_not C₂ (.inr q)
 have nwD:¬ wr D:=fun q=>X₁.fresh_not D₂ (.inr q)
 obtain ⟨oC,hoC,_⟩:=LCg.ns_obj hns₁
 obtain ⟨X₂,up₂⟩:=X₁.more (s':={ s₂ with heap:=h₁,toks:=s₂.toks+([]:List (Str×Value)).length }) (B':=fun a=>((B a∨a=C)∨a=D)∨wr a) old rfl rfl (fun a q=>by
  rcases q with ((q|q) | q) | q
  ·exact .inl (.inl q)
  ·subst q;exact .inr ⟨C₂,_,hoC⟩
  ·subst q;exact .inr ⟨D₂,_,hacc⟩
  ·exact .inl (.inr q))
 have up₁:∀ v y,Rp (cf cx B σ s.heap) v y→Rp (cf cx (fun a=>B a∨wr a) σ₁ s₂.heap) v y:=fun v y r=>S₁.more (fun b q=>(hwr b q).1) r
 obtain ⟨_,E₂,fr₂⟩:=cenv_ok (B':=fun a=>((B a∨a=C)∨a=D)∨wr a) (σ':=σ₁) (h':=h₁) (wr':=wr) E hok (.inl (.inl (.inr rfl))) C₀ hns₁ (fun a q=>.inl (.inl (.inl q))) (fun b o q e=>old b o (S₁.keep b o (XS.shut b q) e)) (fun v y r=>up₂ v y (up₁ v y r))
 have hF:∀ a,frameAddrs (compEnvC csc (capt env csc.names []) C env) (relabel' csc sc) a→((B a∨a=C)∨a=D):=fun a q=>(fr₂ a q).elim (fun z=>.inl (.inr z)) fun z=>.inl (.inl (E.frame_B a z))
 have nF:¬ frameAddrs (compEnvC csc (capt env csc.names []) C env) (relabel' csc sc) D:=fun q=>(fr₂ D q).elim hDC fun z=>nBD (E.frame_B D z)
 have S₀:StepX (fun a=>a=C∨a=D) σ s.heap σ₁ h₁:=⟨fun b o hb ho e=>old b o (S₁.keep b o hb e),S₁.dom,fun a o e=>by obtain ⟨o',e'⟩:=S₁.live a o e;exact ⟨o',old a o' e'⟩⟩
 have loop:=comp_loop (n:=n) (A:=A) (B:=fun a=>(B a∨a=C)∨a=D) (σ:=σ₁) (σ₀:=σ) (h₁:=s.heap) (s:={ s₂ with heap:=h₁,toks:=s₂.toks+([]:List (Str×Value)).length }) (D:=D) (vs:=[]) he (relabel_local' (sc:=sc) hx) (by
   delta capΓ;rw [hx];simp) hlen hturn rd X₂ E₂ hF (.inr rfl) nF D₀ ⟨#[],0,hacc,rfl⟩ (by rw [hus];simpa using hul) src (src.fr _ _ _ ia fun b o o_ e=>old b o e) (rpL_of up₂ rb)
   (fun b q=>⟨(hwr b q).1,fun z=>by
    rcases z with (z|z) | z
    ·exact (hwr b q).2 z
    ·exact nwC (z▸q)
    ·exact nwD (z▸q),XS.base_none (hwr b q).1⟩)
   (fun b q w=>by
    obtain ⟨h1,o,h2⟩:=hfz b q w
    refine ⟨fun z=>?_,o,old b o h2⟩
    rcases z with ((z|z) | z) | z
    ·exact h1 (.inl z)
    ·subst z;rw [C₂] at h2;contradiction
    ·subst z;rw [D₂] at h2;contradiction
    ·exact h1 (.inr z)) S₀
 have fin:∀ r s',(r=.ok .next∧St cx (fun a=>(B a∨a=C)∨a=D) σ₁ s'∧EnvOk cx (relabel' csc sc) (capΓ csc Γ) (fun a=>(B a∨a=C)∨a=D) σ₁ (compEnvC csc (capt env csc.names []) C env) s'.heap∧AccAt (cf cx (fun a=>(B a∨a=C)∨a=D) σ₁ s'.heap) D ([]++rs.flatten)∧StepX (fun a=>a=C∨a=D) σ s.heap σ₁ s'.heap) →
   compPost (model cx.prog cx.w) A NoE use P (.ref D) C r s':=by
  rintro r s' ⟨rfl,X₃,E₃,⟨ys,kk,hoD,hl⟩,S₃⟩
  rw [List.nil_append,hus] at hl
  obtain ⟨mC,hmC,_⟩:=E₃.ns
  have S₃':Step σ s.heap σ₁ s'.heap:=⟨fun b o hb e=>S₃.keep b o hb (fun z=>by rcases z with z | z;subst z;rw [new _ C₂] at e;contradiction;subst z;rw [new _ D₂] at e;contradiction) e,S₃.dom,S₃.live⟩
  have sD:σ₁ D=none:=X₃.shut D (.inr rfl)
  have nw:∀ b,b=C→s.heap.get? b=none:=fun b q=>q▸new _ C₂
  rcases hR with hR|hR
  ·-- frozen
   have X₄:St cx (fun a=>B a∨a=C) σ₁ s':=X₃.fewer fun a q=>.inl q
   refine hK C D (.lst us) σ₁ s' X₄ (E.more (fun a q=>.inl q) (fun b o q e=>S₃'.keep b o (XS.shut b q) e) fun v y r=>S₃'.more nw r) S₃' ?_ ⟨mC,hmC⟩ (new _ C₂) nBC hR
   refine ⟨D,ys,kk,rfl,fun o_=>?_,hoD,rpL_of (fun v y r=>rp_less (B:=fun a=>B a∨a=C) (B':=fun a=>(B a∨a=C)∨a=D) (fun a q=>.inl q) r) hl⟩
   rintro ((q|q) | q)
   ·exact nBD q
   ·exact hDC q
   ·exact q sD
  ·have gD:G (cf cx (fun a=>(B a∨a=C)∨a=D) σ₁ s'.heap) false (.lst us) (.ref D):=by
    exact ⟨D,ys,kk,rfl,fun e=>(by contradiction),hoD,hl⟩
   have X₄:St cx (fun a=>B a∨a=C) (σ₁.set D (.lst us)) s':=X₃.take (fun q=>q.elim nBD hDC) D₀ rfl gD
   have S₄:Step σ s.heap (σ₁.set D (.lst us)) s'.heap:=⟨S₃'.keep,fun a q=>by
    by_cases z:a=D
    ·subst z;exact .inr (new _ D₂)
    ·exact S₃'.dom a (by simpa [Store.set,z] using q),S₃'.live⟩
   exact hK C D (.ref D) _ s' X₄ (E.more (fun a q=>.inl q) (fun b o q e=>S₄.keep b o (XS.shut b q) e) fun v y r=>S₄.more nw r) S₄ (rp_ref D) ⟨mC,hmC⟩ (new _ C₂) nBC (hR D sD)
 have loop':=codeAny_mono loop fin
 refine compStart_run rfl rfl loop' ?_
 exact src.self A _ 0 _ _ rd.1 (src.fr _ _ _ ia fun b o o_ e=>old b o e) loop'
theorem Ev_comp {elt iter:Expr} {x:Str} {px:Pos} {ifs:List Expr} {pos:Pos} {Q:V→Store→Prop} (hok:compOk csc sc=true) (hx:csc.names.lookup x=some .local)
  (hI:EvI cx false n sc Γ σ iter fun l σ₁=>∃ us,Turns cx n (relabel' csc sc) (capΓ csc Γ) σ₁ x ifs (emit elt) l us∧(Q (.lst us) σ₁∨∀ a,σ₁ a=none→Q (.ref a) (σ₁.set a (.lst us))))
  (hs:∀ env x,foldedSetIterable iter env x=pure x:=by intro _ _;rfl):Ev cx n sc Γ σ (.ListComp elt [⟨.Name x px,iter,ifs,0⟩] csc pos) Q:=fun B env A s rd XS E=>by
 rw [eval_ListComp]
 refine comp_core (use:=none) (gs:=[]) loopEq1 hok hx hI rd XS E (fun C D v σ₂ s' X₂ E₂ S₂ r hn hC nB q=>?_) (hs env)
 obtain ⟨m,hm⟩:=hn
 refine ⟨m,hm,fun h' hs'=>?_⟩
 have k:∀ b o,¬ b=C→s'.heap.get? b=some o→h'.get? b=some o:=fun b o nb e=>(hs'.2 b nb).trans e
 have X₃:St cx B σ₂ { s' with heap:=h',toks:=s'.toks }:=X₂.wrEnd (wr:=fun a=>a=C) (fun b z=>z▸nB) (fun b z=>z▸XS.base_none hC) k
 refine ⟨v,σ₂,X₃,⟨fun b o hb e=>k b o (fun z=>by subst z;rw [hC] at e;contradiction) (S₂.keep b o hb e),S₂.dom,fun a o e=>?_⟩,?_,q⟩
 ·obtain ⟨o',e'⟩:=S₂.live a o e
  exact ⟨o',k a o' (fun z=>by subst z;rw [hC] at e;contradiction) e'⟩
 ·exact G_mono (C:=cf cx (fun a=>B a∨a=C) σ₂ s'.heap) (C':=cf cx B σ₂ h') rfl (wr_kept (wr:=fun a=>a=C) (fun b z=>z▸nB) k) true _ _ (fun e=>by contradiction) r
theorem Ex_comp {elt iter:Expr} {x y:Str} {px py:Pos} {ifs:List Expr} {pos spos:Pos} {Q:Fl→(Str→Option V)→Store→Prop} (hok:compOk csc sc=true) (hx:csc.names.lookup x=some .local) (hy:sc.names.lookup y=some .local)
  (hI:EvI cx false n sc Γ σ iter fun l σ₁=>∃ us,Turns cx n (relabel' csc sc) (capΓ csc Γ) σ₁ x ifs (emit elt) l us∧(Q .next (upd Γ y (.lst us)) σ₁∨∀ a,σ₁ a=none→Q .next (upd Γ y (.ref a)) (σ₁.set a (.lst us))))
  (hsw:∀ env,env.scope=sc→swapsWith (.ListComp elt [⟨.Name x px,iter,ifs,0⟩] csc pos) (some (.Name y py)) spos.line env=pure true)
  (hs:∀ env x,foldedSetIterable iter env x=pure x):Ex cx n sc Γ σ (.Assign [.Name y py] (.ListComp elt [⟨.Name x px,iter,ifs,0⟩] csc pos) spos) Q:=fun B env A s rd XS E=>by
 rw [exec_Assign_Name_used _ _ _ _ (hsw env E.sc_)]
 refine wpAny_bind (wpAny_standAt (wpAny_bind ?_))
 skip
 refine wpAny_bind (wpAny_mono (comp_core (use:=some (assign (.Name y py) env)) (gs:=[]) (P:=fun o_ s'=>OutX cx B sc env σ s.heap Q .next s') (R:=fun v σ₁=>Q .next (upd Γ y v) σ₁) loopEq1 hok hx hI rd XS E (fun C D v σ₂ s' X₂ E₂ S₂ r hn hC nB q=>?_) (hs env)) (fun o_ s' hq=>wpAny_pure (wpAny_pure hq)) fun o_ o_ e=>e)
 skip
 refine wpAny_assign_Name (store_name X₂ E₂ (.inl hy) r fun s'' X₃ E₃ S₃=>?_)
 obtain ⟨m,hm⟩:=hn
 have CL:¬ ownOf' env sc C:=fun z=>nB (E.own_B C z).1
 have C0:cx.h₀.get? C=none:=XS.base_none hC
 refine ⟨m,hm.at' fun o e=>S₃.keep C o (X₂.shut C (.inr rfl)) CL e,fun h' hs'=>?_⟩
 have k:∀ b o,¬ b=C→s''.heap.get? b=some o→h'.get? b=some o:=fun b o nb e=>(hs'.2 b nb).trans e
 have X₄:St cx B σ₂ { s'' with heap:=h',toks:=s''.toks }:=X₃.wrEnd (wr:=fun a=>a=C) (fun b z=>z▸nB) (fun b z=>z▸C0) k
 have E₄:EnvOk cx sc (upd Γ y v) B σ₂ env h':=E₃.wrEnd (wr:=fun a=>a=C) (fun b z=>z▸nB) E.frame_B k
 refine ⟨.next,_,σ₂,X₄,E₄,⟨fun b o hb ho e=>?_,S₂.dom,fun a o e=>?_⟩,rfl,q⟩
 ·exact k b o (fun z=>by subst z;rw [hC] at e;contradiction) (S₃.keep b o (S₂.stay hb e) ho (S₂.keep b o hb e))
 ·obtain ⟨o',e'⟩:=S₂.live a o e
  obtain ⟨o'',e''⟩:=S₃.live a o' e'
  exact ⟨o'',k a o'' (fun z=>by subst z;rw [hC] at e;contradiction) e''⟩
end
noncomputable def nest (e:Expr) (iter2:Expr) (env:Env) (acc:Value):Sem Unit:=do
 let x ← eval iter2 env
 standAt iter2.pos
 let x ← foldedSetIterable iter2 env x
 let _ ← runOwn (.compStart e 1 (← holding [x] (pyIter x)) acc env) env
theorem loopEq2_0 {elt i1 t1 i2 t2:Expr} {f1 f2:List Expr} {scope:Scope} {pos:Pos}:LoopEq (.ListComp elt [⟨t1,i1,f1,0⟩,⟨t2,i2,f2,0⟩] scope pos) 0 i1 t1 f1 (nest (.ListComp elt [⟨t1,i1,f1,0⟩,⟨t2,i2,f2,0⟩] scope pos) i2):=fun it acc env=>by
 have e:compTurn (.ListComp elt [⟨t1,i1,f1,0⟩,⟨t2,i2,f2,0⟩] scope pos) 0 it acc env=(do
   standAt i1.pos
   match ← pyNext it with
   | none=>pure (.done .next)
   | some v=>
    letOwnedTupleGo t1 it v
    assign t1 env v
    let mut ok:=true
    for c in f1 do
     if ok then ok ← isTrue c env (eval c env)
    if ok then
     let x ← eval i2 env
     standAt i2.pos
     let x ← foldedSetIterable i2 env x
     let _ ← runOwn (.compStart (.ListComp elt [⟨t1,i1,f1,0⟩,⟨t2,i2,f2,0⟩] scope pos) 1 (← holding [x] (pyIter x)) acc env) env
    again (.compLoop (.ListComp elt [⟨t1,i1,f1,0⟩,⟨t2,i2,f2,0⟩] scope pos) 0 it acc env)):=by rfl
 rw [e]
 delta nest
 simp only [bind_assoc,pure_bind]
 all_goals rfl
theorem loopEq2_1 {elt i1 t1 i2 t2:Expr} {f1 f2:List Expr} {scope:Scope} {pos:Pos}:LoopEq (.ListComp elt [⟨t1,i1,f1,0⟩,⟨t2,i2,f2,0⟩] scope pos) 1 i2 t2 f2 (emit elt):=fun o_ o_ o_=>by rfl
section
variable {cx:Cx} {n:Nat} {sc csc:Scope} {Γ Γ':Str→Option V} {σ σ':Store} {B B':Addr→Prop} {s s':Shared} {A:Around} {env:Env} {h h':Heap}
theorem CompX_nest {elt i1 t1 i2:Expr} {x2:Str} {p2:Pos} {f1 f2:List Expr} {scope:Scope} {pos:Pos} {us:List V} (hx:csc.names.lookup x2=some .local) (hΓ:Γ x2=none)
  (hI:EvI cx false n csc Γ σ i2 fun l σ₁=>σ₁=σ∧Turns cx n csc Γ σ x2 f2 (emit elt) l us) (hs:∀ env x,foldedSetIterable i2 env x=pure x) :
  CompX cx n csc Γ σ (nest (.ListComp elt [⟨t1,i1,f1,0⟩,⟨.Name x2 p2,i2,f2,0⟩] scope pos) i2) us:=by
 intro B env A s D vs rd X E hBD nF hD0 acc hlen
 skip
 refine wpAny_bind (wpAny_mono (hI B env A s rd X E) (fun x s₁ h₁=>?_) fun o_ o_ x=>x)
 refine wpAny_bind (wpAny_standAt (wpAny_bind (wpAny_of_eq (hs env x) (wpAny_bind (wpAny_holding (wpAny_mono h₁ (fun it s₂ o=>?_) fun o_ o_ x=>x.elim))))))
 obtain ⟨σ₁,base,xs,l,wr,fz,IA,Mid,I,rfl,X₁,S₁,src,ia,rb,hwr,hfz,rfl,rs,hl,hus,hul,hturn⟩:=o
 have E₁:EnvOk cx csc Γ (fun a=>B a∨wr a) σ₁ env s₂.heap:=E.more (fun a q=>.inl q) (fun b o q e=>S₁.keep b o (X.shut b q) e) fun v x r=>S₁.more (fun b q=>(hwr b q).1) r
 obtain ⟨ys,kk,hoD,hlD⟩:=acc
 have acc₁:AccAt (cf cx (fun a=>B a∨wr a) σ₁ s₂.heap) D vs:=⟨ys,kk,S₁.keep D _ (X.shut D hBD) hoD,rpL_of (fun v x r=>S₁.more (fun b q=>(hwr b q).1) r) hlD⟩
 have shutO:∀ a,(a=env.locals∨a=D)→σ₁ a=none:=fun a q=>X.shut a (q.elim (fun q=>q▸E.ownL) fun q=>q▸hBD)
 have loop:=comp_loop (n:=n) (A:=A) (B:=B) (σ:=σ₁) (σ₀:=σ₁) (h₁:=s.heap) (s:=s₂) (D:=D) (vs:=vs) (loopEq2_1 (elt:=elt) (i1:=i1) (t1:=t1) (f1:=f1) (i2:=i2) (t2:=.Name x2 p2) (f2:=f2) (scope:=scope) (pos:=pos)) hx hΓ hl hturn rd X₁ E₁ E.frame_B hBD nF hD0 acc₁
  (by rw [hus];omega) src ia rb (fun b q=>⟨(hwr b q).1,(hwr b q).2,X.base_none (hwr b q).1⟩) hfz (S₁.toX shutO)
 refine wpAny_bind (wpAny_runOwn ?_)
 rw [Around.mark_none]
 let R':Result→Shared→Prop:=fun r s'=>match r with
   | .ok f=>wpAny (model cx.prog cx.w) A (pure ()) (fun x s'=>XOut cx B csc Γ σ₁ env D s.heap (vs++us) s') NoE s'
   | .error e=>cameBackBy (model cx.prog cx.w) A env NoE e s'
 have toR:∀ r s',(r=.ok .next∧St cx B σ₁ s'∧EnvOk cx csc Γ B σ₁ env s'.heap∧AccAt (cf cx B σ₁ s'.heap) D (vs++rs.flatten)∧StepX (fun a=>a=env.locals∨a=D) σ₁ s.heap σ₁ s'.heap)→R' r s':=by
  rintro r s' ⟨rfl,z1,z2,z3,z4⟩
  rw [hus] at z3
  exact wpAny_pure ⟨z1,z2,z3,z4⟩
 have loop':=codeAny_mono loop toR
 refine compStart_run rfl rfl loop' ?_
 exact src.self A _ 0 _ _ rd.1 ia loop'
theorem Ev_comp2 {elt i1 i2:Expr} {x x2:Str} {px p2:Pos} {f1 f2:List Expr} {pos:Pos} {Q:V→Store→Prop} (hok:compOk csc sc=true) (hx:csc.names.lookup x=some .local)
  (hI:EvI cx false n sc Γ σ i1 fun l σ₁=>∃ us,Turns cx n (relabel' csc sc) (capΓ csc Γ) σ₁ x f1 (nest (.ListComp elt [⟨.Name x px,i1,f1,0⟩,⟨.Name x2 p2,i2,f2,0⟩] csc pos) i2) l us∧(Q (.lst us) σ₁∨∀ a,σ₁ a=none→Q (.ref a) (σ₁.set a (.lst us))))
  (hs:∀ env x,foldedSetIterable i1 env x=pure x):Ev cx n sc Γ σ (.ListComp elt [⟨.Name x px,i1,f1,0⟩,⟨.Name x2 p2,i2,f2,0⟩] csc pos) Q:=fun B env A s rd XS E=>by
 rw [eval_ListComp]
 refine comp_core (use:=none) (gs:=[⟨.Name x2 p2,i2,f2,0⟩]) loopEq2_0 hok hx hI rd XS E (fun C D v σ₂ s' X₂ E₂ S₂ r hn hC nB q=>?_) (hs env)
 obtain ⟨m,hm⟩:=hn
 refine ⟨m,hm,fun h' hs'=>?_⟩
 have k:∀ b o,¬ b=C→s'.heap.get? b=some o→h'.get? b=some o:=fun b o nb e=>(hs'.2 b nb).trans e
 have X₃:St cx B σ₂ { s' with heap:=h',toks:=s'.toks }:=X₂.wrEnd (wr:=fun a=>a=C) (fun b z=>z▸nB) (fun b z=>z▸XS.base_none hC) k
 refine ⟨v,σ₂,X₃,⟨fun b o hb e=>k b o (fun z=>by subst z;rw [hC] at e;contradiction) (S₂.keep b o hb e),S₂.dom,fun a o e=>?_⟩,?_,q⟩
 ·obtain ⟨o',e'⟩:=S₂.live a o e
  exact ⟨o',k a o' (fun z=>by subst z;rw [hC] at e;contradiction) e'⟩
 ·exact G_mono (C:=cf cx (fun a=>B a∨a=C) σ₂ s'.heap) (C':=cf cx B σ₂ h') rfl (wr_kept (wr:=fun a=>a=C) (fun b z=>z▸nB) k) true _ _ (fun e=>by contradiction) r
end
section
variable {prog:Program} {w:World} {A:Around} {E:Value→Shared→Prop} {s:Shared}
theorem wpAny_loadIfAlive' {a:Addr} {Q:Option Obj→Shared→Prop} (h:Q (s.heap.get? a) s):wpAny (model prog w) A (loadIfAlive a) Q E s:=fun o_ o_ o_=>h
theorem nextOf_tuple_item {it t:Addr} {i:Nat} {items:Array Value} {x:Value} {Q:Value→Shared→Prop} (hit:s.heap.IsTupleIter it t i)
  (ht:s.heap.IsTuple t items) (hx:items[i]? = some x)
  (hQ:∀ h',h'.IsTupleIter it t (i+1)→Heap.SameBut it s.heap h'→Q x { s with heap:=h' }) :
  wpAny (model prog w) A (Builtin.SmallTypes.nextOf (.ref it)) Q E s:=by
 obtain ⟨o,ho,hc,hd⟩:=id hit
 obtain ⟨ol,hol,_,nl,hdl⟩:=ht
 skip
 refine wpAny_bind (wpAny_callSpecial?_slot (name:=Str.ofString "__next__") hit.typeIs F.slot_tuple_iterator_next
  (wpAny_call_entry F.slot_tuple_iterator_next hit.typeIs F.entry_tuple_iterator_next ?_ (F.args_tuple_iterator_next_1 _)))
 show wpAny _ _ (field (.ref it) 0 >>= _) _ _ s
 refine wpAny_bind (wpAny_field ho hd (x:=.ref t) rfl ?_)
 skip
 rw [if_neg (show ¬ ((Value.ref t==Value.none)=true) from Bool.false_ne_true)]
 skip
 refine wpAny_bind (wpAny_field ho hd (x:=.int i 0) rfl ?_)
 skip
 refine wpAny_bind (wpAny_seqItems hol hdl ?_)
 simp only [Int.toNat_natCast,hx]
 refine wpAny_bind (wpAny_setField ho hd (by simp) (wpAny_pure ⟨x,rfl,wpAny_pure (hQ _ ?_ (Heap.SameBut.update ..))⟩))
 exact ⟨_,Heap.get?_update_self _ ho (Obj.isFreed_of_fields (Obj.data_mapFields hd _)),(Obj.cls_mapFields ..).trans hc,by
  rw [Obj.data_mapFields hd];simp [rawInt]⟩
theorem nextOf_tuple_end {it t:Addr} {i:Nat} {items:Array Value} {Q:Value→Shared→Prop} (hh:A.handled=none) (hit:s.heap.IsTupleIter it t i)
  (ht:s.heap.IsTuple t items) (hx:items[i]? = none)
  (hE:∀ h' e,(∀ c o,c≠it→s.heap.get? c=some o→h'.get? c=some o)→(∃ o,h'.get? e=some o∧o.cls=.type "StopIteration")→E (.ref e) { s with heap:=h' }) :
  wpAny (model prog w) A (Builtin.SmallTypes.nextOf (.ref it)) Q E s:=by
 obtain ⟨o,ho,hc,hd⟩:=id hit
 obtain ⟨ol,hol,_,nl,hdl⟩:=ht
 skip
 refine wpAny_bind (wpAny_callSpecial?_slot (name:=Str.ofString "__next__") hit.typeIs F.slot_tuple_iterator_next
  (wpAny_call_entry F.slot_tuple_iterator_next hit.typeIs F.entry_tuple_iterator_next ?_ (F.args_tuple_iterator_next_1 _)))
 show wpAny _ _ (field (.ref it) 0 >>= _) _ _ s
 refine wpAny_bind (wpAny_field ho hd (x:=.ref t) rfl ?_)
 skip
 rw [if_neg (show ¬ ((Value.ref t==Value.none)=true) from Bool.false_ne_true)]
 skip
 refine wpAny_bind (wpAny_field ho hd (x:=.int i 0) rfl ?_)
 skip
 refine wpAny_bind (wpAny_seqItems hol hdl ?_)
 simp only [Int.toNat_natCast,hx]
 refine wpAny_bind (wpAny_rule (wpAny_bind (wpAny_setField ho hd (by simp) ?_)))
 skip
 refine wpAny_bind ?_
 skip
 refine wpAny_bind (wpAny_newObj_type ?_ (by size_fits))
 refine wpAny_bind (m:=firstArgMember _ _) (wpAny_of_eq (a:=Value.none) (by first | rfl | (skip;rfl)) ?_)
 refine wpAny_newObj_type ?_ (by size_fits)
 skip
 refine wpAny_bind (wpAny_handled ?_)
 first | rw [show A.in1.handled=none from hh] | rw [hh]
 refine wpAny_bind (wpAny_pure (wpAny_throw (hE _ _ (fun c o hc e=>(((Heap.SameBut.update ..).extBut.push _).push _) c o hc e) ⟨_,Heap.get?_push_size _ rfl,rfl⟩)))
noncomputable abbrev IsZip' (h:Heap) (z TI TO:Addr) (f0 f1:Value):Prop:=
 h.get? z=some { cls:=.type "zip",dict:=none,data:=.fields #[f0,f1,.bool false,.ref TI,.ref TO],slots:=#[] }
structure ZApart (z TI TO i1 i2 l1 l2:Addr):Prop where
 TIz:TI≠z
 TOz:TO≠z
 i1z:i1≠z
 i2z:i2≠z
 TITO:TI≠TO
 TIi1:TI≠i1
 TIi2:TI≠i2
 TOi1:TO≠i1
 TOi2:TO≠i2
 i12:i1≠i2
 l1z:l1≠z
 l1TO:l1≠TO
 l1i1:l1≠i1
 l1i2:l1≠i2
 l2z:l2≠z
 l2TO:l2≠TO
 l2i1:l2≠i1
 l2i2:l2≠i2
noncomputable def Z0 (f:Value):Prop:=f=.none∨∃ k t,f=.int k t
structure ZipSt (h:Heap) (z TI TO i1 i2 l1 l2:Addr) (xs ys:Array Value) (i:Nat):Prop where
 z:∃ f0 f1,Z0 f0∧IsZip' h z TI TO f0 f1
 ti:IsPair h TI (.ref i1) (.ref i2)
 to:∃ a b,IsPair h TO a b
 it1:h.IsTupleIter i1 l1 i
 it2:h.IsTupleIter i2 l2 i
 l1:h.IsTuple l1 xs
 l2:h.IsTuple l2 ys
theorem tiAt {h h':Heap} {a t:Addr} {i:Nat} (x:h.IsTupleIter a t i) (k:∀ o,h.get? a=some o→h'.get? a=some o):h'.IsTupleIter a t i:=by obtain ⟨o,e,r⟩:=x;exact ⟨o,k o e,r⟩
theorem tuAt {h h':Heap} {a:Addr} {i:Array Value} (x:h.IsTuple a i) (k:∀ o,h.get? a=some o→h'.get? a=some o):h'.IsTuple a i:=by obtain ⟨o,e,r⟩:=x;exact ⟨o,k o e,r⟩
theorem zip_free {z TI TO:Addr} {f0 f1:Value} {Q:Bool→Shared→Prop} (hf:Z0 f0) (hz:IsZip' s.heap z TI TO f0 f1) (h:∀ b f1' h',IsZip' h' z TI TO f0 f1'→Heap.SameBut z s.heap h'→Q b { s with heap:=h' }) :
  wpAny (model prog w) A (Builtin.SmallTypes.ownedTupleIsFree (.ref z)) Q E s:=by
 skip
 rcases hf with rfl|⟨k,t,rfl⟩
 ·refine wpAny_bind (wpAny_field hz rfl (x:=.none) rfl (wpAny_pure ?_))
  exact h true f1 s.heap hz (Heap.SameBut.refl _ _)
 ·refine wpAny_bind (wpAny_field hz rfl (x:=.int k t) rfl ?_)
  refine wpAny_bind (wpAny_loadIfAlive' ?_)
  rcases q:s.heap.get? k.toNat with _|o
  ·
   skip
   exact wpAny_pure (h true f1 s.heap hz (Heap.SameBut.refl _ _))
  ·
   skip
   refine wpAny_bind (wpAny_field hz rfl (x:=f1) rfl ?_)
   by_cases hb:(f1 != Value.bool true)=true
   ·rw [if_pos hb]
    refine wpAny_bind (wpAny_setField_rec hz (by simp) fun h₁ hz₁ hs₁=>wpAny_pure ?_)
    exact h false (.bool true) h₁ hz₁ hs₁
   ·rw [if_neg hb]
    exact wpAny_pure (h false f1 s.heap hz (Heap.SameBut.refl _ _))
end
set_option genInjectivity false in
structure ZI where
 (z TI TO i1 i2 l1 l2:Addr)
 (xs ys:Array Value)
noncomputable def ZI.W (Z:ZI) (b:Addr):Prop:=b=Z.z∨b=Z.TO∨b=Z.i1∨b=Z.i2
noncomputable def ZI.R (Z:ZI) (b:Addr):Prop:=b=Z.TI∨b=Z.l1∨b=Z.l2
noncomputable def ZI.D (Z:ZI):Prop:=ZApart Z.z Z.TI Z.TO Z.i1 Z.i2 Z.l1 Z.l2
noncomputable def ZS (h:Heap) (Z:ZI) (i:Nat):Prop:=ZipSt h Z.z Z.TI Z.TO Z.i1 Z.i2 Z.l1 Z.l2 Z.xs Z.ys i
theorem ZS.keep {h h':Heap} {Z:ZI} {i:Nat} (st:ZS h Z i) (k:∀ b o,Z.W b∨Z.R b→h.get? b=some o→h'.get? b=some o):ZS h' Z i:=by
 obtain ⟨⟨f0,f1,hf,hz⟩,hTI,⟨a,b',hTO⟩,h1,h2,hl1,hl2⟩:=st
 exact ⟨⟨f0,f1,hf,k _ _ (.inl (.inl rfl)) hz⟩,k _ _ (.inr (.inl rfl)) hTI,⟨a,b',k _ _ (.inl (.inr (.inl rfl))) hTO⟩,tiAt h1 fun o=>k _ o (.inl (.inr (.inr (.inl rfl)))),tiAt h2 fun o=>k _ o (.inl (.inr (.inr (.inr rfl)))),tuAt hl1 fun o=>k _ o (.inr (.inr (.inl rfl))),tuAt hl2 fun o=>k _ o (.inr (.inr (.inr rfl)))⟩
theorem ZS.live {h:Heap} {Z:ZI} {i:Nat} (st:ZS h Z i) {b:Addr} (hb:Z.W b∨Z.R b):∃ o,h.get? b=some o:=by
 obtain ⟨⟨f0,f1,hf,hz⟩,hTI,⟨a,b',hTO⟩,⟨o1,h1,_⟩,⟨o2,h2,_⟩,⟨o3,h3,_⟩,⟨o4,h4,_⟩⟩:=st
 rcases hb with (rfl|rfl|rfl|rfl) | (rfl|rfl|rfl)
 ·exact ⟨_,hz⟩
 ·exact ⟨_,hTO⟩
 ·exact ⟨_,h1⟩
 ·exact ⟨_,h2⟩
 ·exact ⟨_,hTI⟩
 ·exact ⟨_,h3⟩
 ·exact ⟨_,h4⟩
structure ZP (h:Heap) (Z:ZI) (f0 f1 a b:Value) (i j:Nat):Prop where
 z:IsZip' h Z.z Z.TI Z.TO f0 f1
 ti:IsPair h Z.TI (.ref Z.i1) (.ref Z.i2)
 to:IsPair h Z.TO a b
 it1:h.IsTupleIter Z.i1 Z.l1 i
 it2:h.IsTupleIter Z.i2 Z.l2 j
 l1:h.IsTuple Z.l1 Z.xs
 l2:h.IsTuple Z.l2 Z.ys
section
variable {h h':Heap} {Z:ZI} {f0 f1 a b:Value} {i j:Nat}
theorem ZP.atZ (J:ZP h Z f0 f1 a b i j) (D:Z.D) {g0 g1:Value} (hs:Heap.SameBut Z.z h h') (hz:IsZip' h' Z.z Z.TI Z.TO g0 g1):ZP h' Z g0 g1 a b i j:=
 ⟨hz,hs.extBut _ _ D.TIz J.ti,hs.extBut _ _ D.TOz J.to,J.it1.extBut hs.extBut D.i1z,J.it2.extBut hs.extBut D.i2z,J.l1.extBut hs.extBut D.l1z,J.l2.extBut hs.extBut D.l2z⟩
theorem ZP.atTO (J:ZP h Z f0 f1 a b i j) (D:Z.D) {a' b':Value} (hs:Heap.SameBut Z.TO h h') (ht:IsPair h' Z.TO a' b'):ZP h' Z f0 f1 a' b' i j:=
 ⟨hs.extBut _ _ D.TOz.symm J.z,hs.extBut _ _ D.TITO J.ti,ht,J.it1.extBut hs.extBut D.TOi1.symm,J.it2.extBut hs.extBut D.TOi2.symm,J.l1.extBut hs.extBut D.l1TO,J.l2.extBut hs.extBut D.l2TO⟩
theorem ZP.at1 (J:ZP h Z f0 f1 a b i j) (D:Z.D) {k:Nat} (hs:Heap.SameBut Z.i1 h h') (h1:h'.IsTupleIter Z.i1 Z.l1 k):ZP h' Z f0 f1 a b k j:=
 ⟨hs.extBut _ _ D.i1z.symm J.z,hs.extBut _ _ D.TIi1 J.ti,hs.extBut _ _ D.TOi1 J.to,h1,J.it2.extBut hs.extBut D.i12.symm,J.l1.extBut hs.extBut D.l1i1,J.l2.extBut hs.extBut D.l2i1⟩
theorem ZP.at2 (J:ZP h Z f0 f1 a b i j) (D:Z.D) {k:Nat} (hs:Heap.SameBut Z.i2 h h') (h2:h'.IsTupleIter Z.i2 Z.l2 k):ZP h' Z f0 f1 a b i k:=
 ⟨hs.extBut _ _ D.i2z.symm J.z,hs.extBut _ _ D.TIi2 J.ti,hs.extBut _ _ D.TOi2 J.to,J.it1.extBut hs.extBut D.i12,h2,J.l1.extBut hs.extBut D.l1i2,J.l2.extBut hs.extBut D.l2i2⟩
theorem ZP.push (J:ZP h Z f0 f1 a b i j) (o:Obj):ZP (h.push o) Z f0 f1 a b i j:=
 ⟨Heap.get?_push_of_some _ J.z,Heap.get?_push_of_some _ J.ti,Heap.get?_push_of_some _ J.to,tiAt J.it1 fun _ e=>Heap.get?_push_of_some _ e,tiAt J.it2 fun _ e=>Heap.get?_push_of_some _ e,tuAt J.l1 fun _ e=>Heap.get?_push_of_some _ e,tuAt J.l2 fun _ e=>Heap.get?_push_of_some _ e⟩
theorem ZP.st (J:ZP h Z f0 f1 a b i i) (hf:Z0 f0):ZS h Z i:=⟨⟨_,_,hf,J.z⟩,J.ti,⟨_,_,J.to⟩,J.it1,J.it2,J.l1,J.l2⟩
theorem ZS.p (st:ZS h Z i):∃ f0 f1 a b,Z0 f0∧ZP h Z f0 f1 a b i i:=by
 obtain ⟨⟨f0,f1,hf,hz⟩,hTI,⟨a,b,hTO⟩,h1,h2,hl1,hl2⟩:=st
 exact ⟨f0,f1,a,b,hf,hz,hTI,hTO,h1,h2,hl1,hl2⟩
theorem ZI.nW {c:Addr} (h:¬ Z.W c):c≠Z.z∧c≠Z.TO∧c≠Z.i1∧c≠Z.i2:=⟨fun q=>h (.inl q),fun q=>h (.inr (.inl q)),fun q=>h (.inr (.inr (.inl q))),fun q=>h (.inr (.inr (.inr q)))⟩
end
section
variable {prog:Program} {w:World} {A:Around} {E:Value→Shared→Prop} {s:Shared}
theorem zip_item {Z:ZI} {i:Nat} {x y:Value} {Q:Value→Shared→Prop} (D:Z.D) (st:ZS s.heap Z i) (hx:Z.xs[i]? = some x) (hy:Z.ys[i]? = some y)
  (hQ:∀ h',ZS h' Z (i+1)→IsPair h' s.heap.objs.size x y→(∀ c o,¬ Z.W c→s.heap.get? c=some o→h'.get? c=some o)→Q (.ref s.heap.objs.size) { s with heap:=h' }) :
  wpAny (model prog w) A (Builtin.«zip.__next__» ⟨[.ref Z.z],[]⟩) (fun fin s'=>∃ v,fin=.done (.ret v)∧Q v s') E s:=by
 obtain ⟨f0,f1,a,b,hf,J⟩:=st.p
 show wpAny _ _ (field (.ref Z.z) 2 >>= _) _ _ _
 refine wpAny_bind (wpAny_field J.z rfl (x:=.bool false) rfl ?_)
 refine wpAny_bind (wpAny_field J.z rfl (x:=.ref Z.TI) rfl ?_)
 refine wpAny_bind (wpAny_seqItems J.ti rfl ?_)
 refine wpAny_bind (zip_free hf J.z fun fr f1' h₀ hz₀ hs₀=>?_)
 have J:=J.atZ D hs₀ hz₀
 have hsz₀:h₀.objs.size=s.heap.objs.size:=hs₀.1
 cases fr with
 | true=>
  refine wpAny_bind (wpAny_rule ?_)
  refine wpAny_bind (wpAny_field J.z rfl (x:=.ref Z.TO) rfl ?_)
  refine wpAny_bind (wpAny_setField_rec J.z (by simp) fun h₁ hz₁ hs₁=>?_)
  have J:=J.atZ D hs₁ (g0:=.ellipsis) (g1:=f1') hz₁
  refine wpAny_bind ?_
  refine wpAny_bind (wpAny_bind (wpAny_onRaise ?_))
  refine wpAny_bind (nextOf_tuple_item J.it1 J.l1 hx fun h₂ h1₂ hs₂=>wpAny_pure ?_)
  have J:=J.at1 D hs₂ h1₂
  refine wpAny_bind (wpAny_seqItems J.to rfl ?_)
  refine wpAny_bind (wpAny_updateSeq_pair J.to fun h₃ hTO₃ hs₃=>?_)
  have J:=J.atTO D hs₃ (a':=x) (b':=b) hTO₃
  refine wpAny_bind (wpAny_letGo (wpAny_pure ?_))
  refine wpAny_bind (wpAny_bind (wpAny_onRaise ?_))
  refine wpAny_bind (nextOf_tuple_item J.it2 J.l2 hy fun h₄ h2₄ hs₄=>wpAny_pure ?_)
  have J:=J.at2 D hs₄ h2₄
  refine wpAny_bind (wpAny_seqItems J.to rfl ?_)
  refine wpAny_bind (wpAny_updateSeq_pair J.to fun h₅ hTO₅ hs₅=>?_)
  have J:=J.atTO D hs₅ (a':=x) (b':=y) hTO₅
  refine wpAny_bind (wpAny_letGo (wpAny_pure (wpAny_pure ?_)))
  refine wpAny_bind (wpAny_seqItems J.to rfl ?_)
  refine wpAny_bind (wpAny_newTuple ?_)
  have hsz:h₅.objs.size=s.heap.objs.size:=by rw [hs₅.1,hs₄.1,hs₃.1,hs₂.1,hs₁.1,hsz₀]
  have hk₅:∀ c o,¬ Z.W c→s.heap.get? c=some o→h₅.get? c=some o:=fun c o hc e=>
   have q:=ZI.nW hc
   hs₅.extBut _ _ q.2.1 (hs₄.extBut _ _ q.2.2.2 (hs₃.extBut _ _ q.2.1 (hs₂.extBut _ _ q.2.2.1 (hs₁.extBut _ _ q.1 (hs₀.extBut _ _ q.1 e)))))
  have hzlt:Z.z<h₅.objs.size:=Heap.lt_size J.z
  clear hs₅ hs₄ hs₃ hs₂ hs₁ hs₀
  refine wpAny_bind ?_
  have J:=J.push { cls:=.type "tuple",data:=.seq #[x,y] }
  refine wpAny_bind (wpAny_setField_rec J.z (by simp) fun h₇ hz₇ hs₇=>?_)
  have J:=J.atZ D hs₇ (g0:=rawInt h₅.objs.size) (g1:=f1') hz₇
  refine wpAny_setField_rec J.z (by simp) fun h₈ hz₈ hs₈=>?_
  have J:=J.atZ D hs₈ (g0:=rawInt h₅.objs.size) (g1:=.bool false) hz₈
  have hT₈:IsPair h₈ h₅.objs.size x y:=hs₈.extBut _ _ (Nat.ne_of_gt hzlt) (hs₇.extBut _ _ (Nat.ne_of_gt hzlt) (Heap.get?_push_size _ rfl))
  refine wpAny_pure ⟨_,rfl,?_⟩
  have R:=hQ h₈ (J.st (.inr ⟨_,_,rfl⟩)) (hsz▸hT₈) fun c o hc e=>hs₈.extBut _ _ (ZI.nW hc).1 (hs₇.extBut _ _ (ZI.nW hc).1 (Heap.get?_push_of_some _ (hk₅ c o hc e)))
  rw [hsz]
  exact R
 | false=>
  refine wpAny_bind ?_
  refine wpAny_bind (wpAny_bind (wpAny_holding ?_))
  refine wpAny_bind (nextOf_tuple_item J.it1 J.l1 hx fun h₂ h1₂ hs₂=>wpAny_pure ?_)
  have J:=J.at1 D hs₂ h1₂
  refine wpAny_pure ?_
  refine wpAny_bind (wpAny_bind (wpAny_holding ?_))
  refine wpAny_bind (nextOf_tuple_item J.it2 J.l2 hy fun h₄ h2₄ hs₄=>wpAny_pure ?_)
  have J:=(J.at2 D hs₄ h2₄).push { cls:=.type "tuple",data:=.seq #[x,y] }
  refine wpAny_pure (wpAny_pure ?_)
  refine wpAny_bind (wpAny_newTuple (hsz:=by show 2≤sizeLine;decide) ?_)
  have hsz:h₄.objs.size=s.heap.objs.size:=by rw [hs₄.1,hs₂.1,hsz₀]
  refine wpAny_pure ⟨_,rfl,?_⟩
  have R:=hQ _ (J.st hf) (hsz▸Heap.get?_push_size _ rfl) fun c o hc e=>Heap.get?_push_of_some _ (hs₄.extBut _ _ (ZI.nW hc).2.2.2 (hs₂.extBut _ _ (ZI.nW hc).2.2.1 (hs₀.extBut _ _ (ZI.nW hc).1 e)))
  rw [hsz]
  exact R
theorem zip_end {Z:ZI} {i:Nat} {Q:Fin→Shared→Prop} (hh:A.handled=none) (D:Z.D) (st:ZS s.heap Z i) (hend:Z.xs[i]? = none∨Z.ys[i]? = none)
  (hE:∀ h' e,(∀ c o,¬ Z.W c→s.heap.get? c=some o→h'.get? c=some o)→(∃ o,h'.get? e=some o∧o.cls=.type "StopIteration")→E (.ref e) { s with heap:=h' }) :
  wpAny (model prog w) A (Builtin.«zip.__next__» ⟨[.ref Z.z],[]⟩) Q E s:=by
 obtain ⟨f0,f1,a,b,hf,J⟩:=st.p
 show wpAny _ _ (field (.ref Z.z) 2 >>= _) _ _ _
 refine wpAny_bind (wpAny_field J.z rfl (x:=.bool false) rfl ?_)
 refine wpAny_bind (wpAny_field J.z rfl (x:=.ref Z.TI) rfl ?_)
 refine wpAny_bind (wpAny_seqItems J.ti rfl ?_)
 refine wpAny_bind (zip_free hf J.z fun fr f1' h₀ hz₀ hs₀=>?_)
 have J:=J.atZ D hs₀ hz₀
 have stop:∀ {h:Heap} {e:Addr} {f0 f1:Value},IsZip' h Z.z Z.TI Z.TO f0 f1→(∃ o,h.get? e=some o∧o.cls=.type "StopIteration")→e≠Z.z:=fun {h e f0 f1} hz he x=>by
  obtain ⟨o,h1,h2⟩:=he
  rw [x,hz] at h1
  obtain rfl:=Option.some.inj h1
  simp at h2
 cases fr with
 | true=>
  refine wpAny_bind (wpAny_rule ?_)
  refine wpAny_bind (wpAny_field J.z rfl (x:=.ref Z.TO) rfl ?_)
  refine wpAny_bind (wpAny_setField_rec J.z (by simp) fun h₁ hz₁ hs₁=>?_)
  have J:=J.atZ D hs₁ (g0:=.ellipsis) (g1:=f1') hz₁
  refine wpAny_bind ?_
  refine wpAny_bind (wpAny_bind (wpAny_onRaise ?_))
  rcases hx:Z.xs[i]? with _|x
  ·refine wpAny_bind (nextOf_tuple_end hh J.it1 J.l1 hx fun h₂ e hs₂ he=>?_)
   have hz₂:=hs₂ _ _ D.i1z.symm J.z
   obtain ⟨oe,hoe,hce⟩:=id he
   exact wpAny_setField_rec hz₂ (by simp) fun h₃ o_ hs₃=>hE h₃ e (fun c o hc x=>hs₃.extBut _ _ (ZI.nW hc).1 (hs₂ _ _ (ZI.nW hc).2.2.1 (hs₁.extBut _ _ (ZI.nW hc).1 (hs₀.extBut _ _ (ZI.nW hc).1 x)))) ⟨oe,hs₃.extBut _ _ (stop hz₂ he) hoe,hce⟩
  ·have hy:Z.ys[i]? = none:=hend.resolve_left fun h=>by rw [hx] at h;contradiction
   refine wpAny_bind (nextOf_tuple_item J.it1 J.l1 hx fun h₂ h1₂ hs₂=>wpAny_pure ?_)
   have J:=J.at1 D hs₂ h1₂
   refine wpAny_bind (wpAny_seqItems J.to rfl ?_)
   refine wpAny_bind (wpAny_updateSeq_pair J.to fun h₃ hTO₃ hs₃=>?_)
   have J:=J.atTO D hs₃ (a':=x) (b':=b) hTO₃
   refine wpAny_bind (wpAny_letGo (wpAny_pure ?_))
   refine wpAny_bind (wpAny_bind (wpAny_onRaise ?_))
   refine wpAny_bind (nextOf_tuple_end hh J.it2 J.l2 hy fun h₄ e hs₄ he=>?_)
   have hz₄:=hs₄ _ _ D.i2z.symm J.z
   obtain ⟨oe,hoe,hce⟩:=id he
   exact wpAny_setField_rec hz₄ (by simp) fun h₅ o_ hs₅=>hE h₅ e (fun c o hc x=>hs₅.extBut _ _ (ZI.nW hc).1 (hs₄ _ _ (ZI.nW hc).2.2.2 (hs₃.extBut _ _ (ZI.nW hc).2.1 (hs₂.extBut _ _ (ZI.nW hc).2.2.1 (hs₁.extBut _ _ (ZI.nW hc).1 (hs₀.extBut _ _ (ZI.nW hc).1 x)))))) ⟨oe,hs₅.extBut _ _ (stop hz₄ he) hoe,hce⟩
 | false=>
  refine wpAny_bind ?_
  refine wpAny_bind (wpAny_bind (wpAny_holding ?_))
  rcases hx:Z.xs[i]? with _|x
  ·exact wpAny_bind (nextOf_tuple_end hh J.it1 J.l1 hx fun h₂ e hs₂ he=>hE h₂ e (fun c o hc x=>hs₂ _ _ (ZI.nW hc).2.2.1 (hs₀.extBut _ _ (ZI.nW hc).1 x)) he)
  ·have hy:Z.ys[i]? = none:=hend.resolve_left fun h=>by rw [hx] at h;contradiction
   refine wpAny_bind (nextOf_tuple_item J.it1 J.l1 hx fun h₂ h1₂ hs₂=>wpAny_pure ?_)
   have J:=J.at1 D hs₂ h1₂
   refine wpAny_pure ?_
   refine wpAny_bind (wpAny_bind (wpAny_holding ?_))
   exact wpAny_bind (nextOf_tuple_end hh J.it2 J.l2 hy fun h₄ e hs₄ he=>hE h₄ e (fun c o hc x=>hs₄ _ _ (ZI.nW hc).2.2.2 (hs₂.extBut _ _ (ZI.nW hc).2.2.1 (hs₀.extBut _ _ (ZI.nW hc).1 x))) he)
end
noncomputable abbrev tit (l:Addr):Obj:={ cls:=.type "tuple_iterator",data:=.fields #[.ref l,.int 0 0] }
noncomputable abbrev zH1 (h:Heap) (l1:Addr):Heap:=h.push (tit l1)
noncomputable abbrev zH2 (h:Heap) (l1 l2:Addr):Heap:=(zH1 h l1).push (tit l2)
noncomputable abbrev zH3 (h:Heap) (l1 l2:Addr):Heap:=(zH2 h l1 l2).push { cls:=.type "tuple",data:=.seq #[.ref h.objs.size,.ref (zH1 h l1).objs.size] }
noncomputable abbrev zH4 (h:Heap) (l1 l2:Addr):Heap:=(zH3 h l1 l2).push { cls:=.type "tuple",data:=.seq #[.none,.none] }
noncomputable abbrev zH5 (h:Heap) (l1 l2:Addr):Heap:=(zH4 h l1 l2).push { cls:=.type "zip",data:=.fields #[.none,.bool false,.bool false,.ref (zH2 h l1 l2).objs.size,.ref (zH3 h l1 l2).objs.size] }
theorem meets_zip_tup (l1 l2:Addr) (xs ys:Array Value) :
  Meets (Builtin.«zip.__new__» ⟨[.type "zip",.ref l1,.ref l2],[]⟩) (fun o_ R s=>s.heap.IsTuple l1 xs∧s.heap.IsTuple l2 ys ∧
   R (.ok (.ret (.ref (zH4 s.heap l1 l2).objs.size))) { s with heap:=zH5 s.heap l1 l2 }):=
 .of_wp fun prog w A R s h=>by
  obtain ⟨hp,g,d,tk,os⟩:=s;obtain ⟨hl1,hl2,h⟩:=h
  have hsub:=sub_zip
  have hL1:Heap.IsTuple (Shared.heap ⟨hp,g,d,tk,os⟩) l1 xs:=hl1
  have hL2:Heap.IsTuple (Shared.heap ⟨hp.push (tit l1),g,d,tk,os⟩) l2 ys:=Heap.IsTuple.push hl2 _
  wp_walk using wpAny_pyIter_tuple hL1,wpAny_pyIter_tuple hL2
  exact ⟨_,rfl,h⟩
theorem zapart_new {n l1 l2:Addr} (h1:l1<n) (h2:l2<n):ZApart (n+4) (n+2) (n+3) n (n+1) l1 l2:=
 let D:=zipApart_new h1 h2
 ⟨D.TIz,D.TOz,D.i1z,D.i2z,D.TITO,D.TIi1,D.TIi2,D.TOi1,D.TOi2,D.i12,D.l1z,D.l1TO,D.l1i1,D.l1i2,D.l2z,D.l2TO,D.l2i1,D.l2i2⟩
section
variable {prog:Program} {w:World} {A:Around} {E:Value→Shared→Prop} {s:Shared}
theorem call_zip_tup {l1 l2:Addr} {xs ys:Array Value} {Q:Value→Shared→Prop} (hl1:s.heap.IsTuple l1 xs) (hl2:s.heap.IsTuple l2 ys)
  (h:∀ h',ZipSt h' (s.heap.objs.size+4) (s.heap.objs.size+2) (s.heap.objs.size+3) s.heap.objs.size (s.heap.objs.size+1) l1 l2 xs ys 0 →
   (∀ c o,s.heap.get? c=some o→h'.get? c=some o)→Q (.ref (s.heap.objs.size+4)) { s with heap:=h' }) :
  wpAny (model prog w) A (call (.type "zip") [.ref l1,.ref l2]) Q E s:=by
 refine callType_new F.called_zip (by decide) (F.typeCall_zip_2 _ _) (F.newCall_zip_2 _ _) (fun obj=>F.args_object_init_3 obj _ _) F.entry_zip_new
  (meets_zip_tup l1 l2 xs ys) ⟨hl1,hl2,?_⟩
 have z1:(zH1 s.heap l1).objs.size=s.heap.objs.size+1:=Heap.size_push ..
 have z2:(zH2 s.heap l1 l2).objs.size=s.heap.objs.size+2:=by rw [Heap.size_push,z1]
 have z3:(zH3 s.heap l1 l2).objs.size=s.heap.objs.size+3:=by rw [Heap.size_push,z2]
 have z4:(zH4 s.heap l1 l2).objs.size=s.heap.objs.size+4:=by rw [Heap.size_push,z3]
 have g5:(zH5 s.heap l1 l2).get? (zH4 s.heap l1 l2).objs.size=some _:=Heap.get?_push_size _ rfl
 have g4:(zH5 s.heap l1 l2).get? (zH3 s.heap l1 l2).objs.size=some _:=Heap.get?_push_of_some _ (Heap.get?_push_size _ rfl)
 have g3:(zH5 s.heap l1 l2).get? (zH2 s.heap l1 l2).objs.size=some _:=Heap.get?_push_of_some _ (Heap.get?_push_of_some _ (Heap.get?_push_size _ rfl))
 have g2:(zH5 s.heap l1 l2).get? (zH1 s.heap l1).objs.size=some _:=Heap.get?_push_of_some _ (Heap.get?_push_of_some _ (Heap.get?_push_of_some _ (Heap.get?_push_size _ rfl)))
 have g1:(zH5 s.heap l1 l2).get? s.heap.objs.size=some _:=Heap.get?_push_of_some _ (Heap.get?_push_of_some _ (Heap.get?_push_of_some _ (Heap.get?_push_of_some _ (Heap.get?_push_size _ rfl))))
 have up:∀ c o,s.heap.get? c=some o→(zH5 s.heap l1 l2).get? c=some o:=fun c o x=>
  Heap.get?_push_of_some _ (Heap.get?_push_of_some _ (Heap.get?_push_of_some _ (Heap.get?_push_of_some _ (Heap.get?_push_of_some _ x))))
 skip
 rw [z2,z3,z4] at g5
 rw [z1,z2] at g3
 rw [z3] at g4
 rw [z1] at g2
 rw [z4]
 exact ⟨⟨_,g5,rfl⟩,h _ ⟨⟨_,_,.inl rfl,g5⟩,g3,⟨_,_,g4⟩,⟨_,g1,rfl,rfl⟩,⟨_,g2,rfl,rfl⟩,tuAt hl1 fun o e=>up _ o e,tuAt hl2 fun o e=>up _ o e⟩ up⟩
theorem nz_item {Z:ZI} {i:Nat} {x y:Value} {Q:Option Value→Shared→Prop} (D:Z.D) (st:ZS s.heap Z i) (hx:Z.xs[i]? = some x) (hy:Z.ys[i]? = some y)
  (hQ:∀ h',ZS h' Z (i+1)→IsPair h' s.heap.objs.size x y→(∀ c o,¬ Z.W c→s.heap.get? c=some o→h'.get? c=some o)→Q (some (.ref s.heap.objs.size)) { s with heap:=h' }) :
  wpAny (model prog w) A (pyNext (.ref Z.z)) Q E s:=by
 obtain ⟨f0,f1,hf,hz⟩:=st.z
 have hT:s.TypeIs (.ref Z.z) "zip":=⟨_,hz,rfl⟩
 exact wpAny_bind (wpAny_attempt (wpAny_callSpecial?_slot (name:=Str.ofString "__next__") hT F.slot_zip_next
  (wpAny_call_entry F.slot_zip_next hT F.entry_zip_next (zip_item D st hx hy fun h' a1 a2 a3=>wpAny_pure (hQ h' a1 a2 a3)) (F.args_zip_next_1 _))))
theorem nz_end {Z:ZI} {i:Nat} {Q:Option Value→Shared→Prop} (hh:A.handled=none) (D:Z.D) (st:ZS s.heap Z i) (hend:Z.xs[i]? = none∨Z.ys[i]? = none)
  (hQ:∀ h',(∀ c o,¬ Z.W c→s.heap.get? c=some o→h'.get? c=some o)→Q none { s with heap:=h' }):wpAny (model prog w) A (pyNext (.ref Z.z)) Q E s:=by
 obtain ⟨f0,f1,hf,hz⟩:=st.z
 have hT:s.TypeIs (.ref Z.z) "zip":=⟨_,hz,rfl⟩
 refine wpAny_bind (wpAny_attempt (wpAny_callSpecial?_slot (name:=Str.ofString "__next__") hT F.slot_zip_next
  (wpAny_call_entry F.slot_zip_next hT F.entry_zip_next (zip_end hh D st hend fun h' e hk he=>?_) (F.args_zip_next_1 _))))
 obtain ⟨o,ho,hc⟩:=he
 exact wpAny_bind (wpAny_isInstance (T := "StopIteration") (b:=true) ⟨o,ho,hc⟩ isSubtype_stop (wpAny_pure (hQ _ hk)))
theorem iter_zip {z TI TO:Addr} {f0 f1:Value} {Q:Value→Shared→Prop} (hz:IsZip' s.heap z TI TO f0 f1) (h:Q (.ref z) s):wpAny (model prog w) A (pyIter (.ref z)) Q E s:=by
 have hT:s.TypeIs (.ref z) "zip":=⟨_,hz,rfl⟩
 refine wpAny_pyIter_slot hT F.slot_zip_iter (wpAny_call_entry F.slot_zip_iter hT F.entry_zip_iter ?_ (F.args_zip_iter_1 _))
 skip
 exact wpAny_pure ⟨_,rfl, "zip",_,hT,F.slot_zip_next.lookup,h⟩
theorem go_zip {z TI TO i1 i2 l1 l2:Addr} {i:Nat} {xs ys:Array Value} {t:Expr} {x:Value} {Q:Unit→Shared→Prop} (D:ZApart z TI TO i1 i2 l1 l2) (st:ZipSt s.heap z TI TO i1 i2 l1 l2 xs ys i)
  (hQ:∀ h',ZipSt h' z TI TO i1 i2 l1 l2 xs ys i→(∀ c o,c≠z→s.heap.get? c=some o→h'.get? c=some o)→Q () { s with heap:=h' }):wpAny (model prog w) A (letOwnedTupleGo t (.ref z) x) Q E s:=by
 have fin:wpAny (model prog w) A (pure ():Sem Unit) Q E s:=wpAny_pure (hQ s.heap st fun o_ o_ o_ e=>e)
 obtain ⟨⟨f0,f1,hf,hz⟩,hTI,⟨a,b,hTO⟩,h1,h2,hl1,hl2⟩:=st
 have key:∀ a:Addr,wpAny (model prog w) A (do
   let o ← load z
   match o.cls,o.data with
   | .type n,.fields vs=>
    if ownersOfTuples.contains n && vs[0]? == some (rawInt a) then
     rule "for.unpacks-the-owned-tuple"
     updateField z 0 .none
   | _,_=>pure ()) Q E s:=fun a'=>by
  refine wpAny_bind (wpAny_load hz ?_)
  show wpAny _ _ (if (ownersOfTuples.contains "zip" && (#[f0,f1,.bool false,.ref TI,.ref TO]:Array Value)[0]? == some (rawInt a'))=true then _ else _) Q E s
  split
  ·refine wpAny_bind (wpAny_rule ?_)
   show wpAny _ _ (setField (.ref z) 0 .none) Q E s
   exact wpAny_setField_rec hz (by simp) fun h' hz' hs'=>hQ h' ⟨⟨.none,f1,.inl rfl,hz'⟩,hs'.extBut _ _ D.TIz hTI,⟨a,b,hs'.extBut _ _ D.TOz hTO⟩,h1.extBut hs'.extBut D.i1z,h2.extBut hs'.extBut D.i2z,hl1.extBut hs'.extBut D.l1z,hl2.extBut hs'.extBut D.l2z⟩ fun c o hc e=>hs'.extBut _ _ hc e
  ·exact fin
 skip
 cases t <;> first | exact fin | (cases x <;> first | exact fin | exact key _)
theorem ZS.iter {Z:ZI} {i:Nat} {Q:Value→Shared→Prop} (st:ZS s.heap Z i) (h:Q (.ref Z.z) s):wpAny (model prog w) A (pyIter (.ref Z.z)) Q E s:=by
 obtain ⟨f0,f1,hf,hz⟩:=st.z
 exact iter_zip hz h
end
noncomputable def zipV:List V→List V→List V
 | a::as,b::bs=>.tup [a,b]::zipV as bs
 | _,_=>[]
theorem zipV_at:∀ {as bs:List V} {i:Nat} {v:V},(zipV as bs)[i]? = some v→∃ a b,as[i]? = some a∧bs[i]? = some b∧v=.tup [a,b]
 | [],_,_,_,h=>nomatch (show (Option.none:Option V)=some _ from h)
 | _::_,[],_,_,h=>nomatch (show (Option.none:Option V)=some _ from h)
 | a::as,b::bs,0,v,h=>⟨a,b,rfl,rfl,(Option.some.inj h).symm⟩
 | a::as,b::bs,i+1,v,h=>by
  have h':(zipV as bs)[i]? = some v:=h
  obtain ⟨x,y,h1,h2,h3⟩:=zipV_at h'
  exact ⟨x,y,h1,h2,h3⟩
theorem zipV_end:∀ {as bs:List V},as[(zipV as bs).length]? = none∨bs[(zipV as bs).length]? = none
 | [],_=>.inl rfl
 | _::_,[]=>.inr rfl
 | a::as,b::bs=>by
  rcases @zipV_end as bs with h|h
  ·exact .inl (h)
  ·exact .inr (h)
section
variable {cx:Cx} {n:Nat} {sc:Scope} {Γ:Str→Option V} {σ σ':Store} {B B':Addr→Prop} {s s':Shared} {A:Around}
theorem RpL_split {C:Cf}:∀ {l₁ l₂:List V} {x₁ x₂:List Value},x₁.length=l₁.length→RpL C (l₁++l₂) (x₁++x₂)→RpL C l₁ x₁∧RpL C l₂ x₂
 | [],_,[],_,_,h=>⟨rfl,h⟩
 | [],_,_::_,_,e,_=>by contradiction
 | v::l,_,[],_,e,_=>by contradiction
 | v::l,_,x::xs,_,e,h=>by
  have h':GL C (v::(l++_)) (x::(xs++_)):=h
  obtain ⟨y,r,q,hy,hr⟩:=h'
  cases q
  obtain ⟨h1,h2⟩:=RpL_split (Nat.succ.inj e) hr
  exact ⟨by exact ⟨x,xs,rfl,hy,h1⟩,h2⟩
theorem get_lt {α:Type} {l:List α} {i:Nat} {a:α} (h:l[i]? = some a):i<l.length:=(List.getElem?_eq_some_iff.mp h).1
theorem arr_get {xs:Array Value} {n i:Nat} (hx:xs.size=n) (h:i<n):∃ x,xs[i]? = some x:=⟨_,Array.getElem?_eq_getElem (hx▸h)⟩
theorem arr_none {xs:Array Value} {as:List V} {i:Nat} (hx:xs.size=as.length) (h:as[i]? = none):xs[i]? = none:=Array.getElem?_eq_none (hx▸List.getElem?_eq_none_iff.mp h)
theorem pair_at {C:Cf} {xs ys:Array Value} {as bs:List V} {i:Nat} {a b:V} {x y:Value} {T:Addr} (g1:RpL C as xs.toList) (g2:RpL C bs ys.toList) (ha:as[i]? = some a) (hb:bs[i]? = some b) (ex:xs[i]? = some x) (ey:ys[i]? = some y) (hT:IsPair C.h T x y) (hbad:¬ C.bad T):Rp C (.tup [a,b]) (.ref T):=by
 obtain ⟨x',e1,hx'⟩:=RpL_get g1 ha
 obtain ⟨y',e2,hy'⟩:=RpL_get g2 hb
 rw [Array.getElem?_toList,ex] at e1
 rw [Array.getElem?_toList,ey] at e2
 obtain rfl:=Option.some.inj e1
 obtain rfl:=Option.some.inj e2
 exact ⟨T,_,_,rfl,fun o_=>hbad,hT,_,_,rfl,hx',_,_,rfl,hy',rfl⟩
theorem zip_src {tu:Bool} {Z:ZI} {as bs:List V} (D:Z.D) (hx:Z.xs.size=as.length) (hy:Z.ys.size=bs.length) :
  Src cx tu (as++bs) (Z.xs.toList++Z.ys.toList) (zipV as bs) Z.W Z.R (fun i h=>ZS h Z i) (fun i o_ h=>ZS h Z (i+1)) Z.z:=by
 refine ⟨fun i h h' st k=>st.keep k,fun i h b st hb=>st.live (.inl hb),fun i x h b st hb=>ZS.live st (.inl hb),fun A s i P Er hh hi st hP=>?_,fun A s i t x P Er o_ st hP=>?_,fun A s P Er hh st hP=>?_,fun A s i P Er hh st h=>st.iter h⟩
 ·obtain ⟨v,hv⟩:∃ v,(zipV as bs)[i]? = some v:=⟨_,List.getElem?_eq_getElem hi⟩
  obtain ⟨a,b,ha,hb,rfl⟩:=zipV_at hv
  obtain ⟨x,ex⟩:=arr_get hx (get_lt ha)
  obtain ⟨y,ey⟩:=arr_get hy (get_lt hb)
  refine nz_item D st ex ey fun h' st' hT k=>hP (.ref s.heap.objs.size) (.tup [a,b]) h' s.toks hv st' k fun C hC hbad r=>?_
  obtain ⟨r1,r2⟩:=RpL_split (Array.length_toList.trans hx) r
  exact pair_at r1 r2 ha hb ex ey (hC▸hT) (hbad _ (get_none_size _))
 ·exact go_zip D st fun h' st' k=>hP h' st' fun c o hc=>k c o fun q=>hc (.inl q)
 ·exact nz_end hh D st (zipV_end.imp (arr_none hx) (arr_none hy)) fun h' k=>hP h' s.toks k
theorem fresh_at (h:Heap) (k:Nat):h.get? (h.objs.size+k)=none:=by
 rcases e:h.get? (h.objs.size+k) with _|o
 ·rfl
 ·exact absurd (Heap.lt_size e) (Nat.not_lt.mpr (Nat.le_add_right _ _))
noncomputable def ZI.new (n l1 l2:Nat) (xs ys:Array Value):ZI:=⟨n+4,n+2,n+3,n,n+1,l1,l2,xs,ys⟩
theorem ZI.fresh {h:Heap} {l1 l2:Addr} {xs ys:Array Value} {b:Addr} (hb:(ZI.new h.objs.size l1 l2 xs ys).W b):h.get? b=none:=by
 rcases hb with rfl|rfl|rfl|rfl
 ·exact fresh_at h 4
 ·exact fresh_at h 3
 ·exact fresh_at h 0
 ·exact fresh_at h 1
theorem zip_out {tu:Bool} {as bs:List V} {h₀ h':Heap} {σ₀:Store} {Q:List V→Store→Prop} {Z:ZI} (X:St cx B σ s) (S:Step σ₀ h₀ σ s.heap) (D:Z.D) (st:ZS h' Z 0) (kp:∀ b o,s.heap.get? b=some o→h'.get? b=some o) (new:∀ b,Z.W b→s.heap.get? b=none) (g1:RpL (cf cx B σ s.heap) as Z.xs.toList) (g2:RpL (cf cx B σ s.heap) bs Z.ys.toList)
  (fz:∀ b,Z.R b→¬ bad B σ b∧∃ o,h'.get? b=some o) (q:Q (zipV as bs) σ):SrcOut cx tu B σ₀ h₀ Q (.ref Z.z) { s with heap:=h' }:=by
 obtain ⟨X',up⟩:=X.more (s':={ s with heap:=h' }) (B':=fun a=>B a∨Z.W a) kp rfl rfl (fun a q=>q.imp id fun q=>⟨new a q,st.live (.inl q)⟩)
 refine ⟨σ,_,_,_,_,_,_,_,_,rfl,X',S.trans (step_all (s:=s) (s':={ s with heap:=h' }) kp),zip_src (as:=as) (bs:=bs) D (Array.length_toList.symm.trans (RpL.length g1)) (Array.length_toList.symm.trans (RpL.length g2)),st,RpL_append (rpL_of up g1) (rpL_of up g2),fun b hb=>⟨?_,X.fresh_not (new b hb)⟩,fun b hb hw=>fz b hb,q⟩
 rcases e:h₀.get? b with _|o
 ·rfl
 ·obtain ⟨o',e'⟩:=S.live _ _ e;rw [new b hb] at e';contradiction
theorem zip_ready {tu:Bool} {as bs:List V} {x y:Value} {h₀:Heap} {σ₀:Store} {Q:List V→Store→Prop} (X:St cx B σ s) (S:Step σ₀ h₀ σ s.heap) (r1:Rp (cf cx B σ s.heap) (.tup as) x) (r2:Rp (cf cx B σ s.heap) (.tup bs) y) (q:Q (zipV as bs) σ) :
  wpAny (model cx.prog cx.w) A (call (.type "zip") [x,y]) (fun v s'=>SrcOut cx tu B σ₀ h₀ Q v s') NoE s:=by
 obtain ⟨l1,xs,k1,rfl,b1,o1,g1⟩:=r1
 obtain ⟨l2,ys,k2,rfl,b2,o2,g2⟩:=r2
 refine call_zip_tup ⟨_,o1,rfl,k1,rfl⟩ ⟨_,o2,rfl,k2,rfl⟩ fun h' st kp=>zip_out (Z:=ZI.new s.heap.objs.size l1 l2 xs ys) X S (zapart_new (Heap.lt_size o1) (Heap.lt_size o2)) st kp (fun b=>ZI.fresh) g1 g2 (fun b hb=>?_) q
 rcases hb with rfl|rfl|rfl
 ·exact ⟨X.fresh (fresh_at s.heap 2),_,st.ti⟩
 ·exact ⟨b1 rfl,_,kp _ _ o1⟩
 ·exact ⟨b2 rfl,_,kp _ _ o2⟩
theorem EvI_zip {tu:Bool} {e₁ e₂:Expr} {fp pos:Pos} {Q:List V→Store→Prop} (hk:sc.names.lookup ("zip" : Str)=some .globalImplicit) (hg:GlobIs cx ("zip" : Str) (.type "zip")) (hp:notStar e₁=true) (hp2:notStar e₂=true)
  (h:Ev cx n sc Γ σ e₁ fun v σ₁=>Ev cx n sc Γ σ₁ e₂ fun u σ₂=>∃ as bs,v=.tup as∧u=.tup bs∧Q (zipV as bs) σ₂):EvI cx tu n sc Γ σ (.Call (.Name ("zip" : Str) fp) [e₁,e₂] [] pos) Q:=fun B env A s rd X E=>by
 skip
 refine wpAny_bind (glob_name X E hk hg ?_)
 have hL:EvL cx n sc Γ σ [e₁,e₂] fun vs σ₁=>∃ as bs,vs=[.tup as,.tup bs]∧Q (zipV as bs) σ₁:=⟨hp,h.mono fun v σ₁ q=>⟨hp2,q.mono fun u σ₂ q=>by obtain ⟨as,bs,rfl,rfl,q⟩:=q;exact ⟨as,bs,rfl,q⟩⟩⟩
 refine callWith_run X (keeps_type _) (by simp [hp,hp2]) (wpAny_mono (hL.run B env A s rd X E) (fun xs s₁ o=>?_) fun o_ o_ x=>x)
 obtain ⟨vs,σ₁,X₁,S₁,r₁,as,bs,rfl,q⟩:=o
 refine ⟨cx.X.keeps X₁.keep,?_⟩
 obtain ⟨x,_,rfl,hx,y,_,rfl,hy,rfl⟩:=r₁
 refine wpAny_mono (zip_ready (tu:=tu) X₁ S₁ hx hy q) (fun v s₂ o=>?_) fun o_ o_ x=>x
 obtain ⟨σ',base,xs,l,wr,fz,IA,Mid,I,rfl,c1,c2,c3,c4,c5,c6,c7,c8⟩:=o
 exact c3.self A s₂ 0 _ _ rd.1 c4 ⟨σ',base,xs,l,wr,fz,IA,Mid,I,rfl,c1,c2,c3,c4,c5,c6,c7,c8⟩
end
noncomputable def enumV:Nat→List V→List V
 | _,[]=>[]
 | i,v::l=>.tup [.int (i:Int),v]::enumV (i+1) l
theorem enumV_length:∀ {l:List V} {i:Nat},(enumV i l).length=l.length
 | [],_=>rfl
 | _::l,i=>congrArg Nat.succ enumV_length
theorem enumV_at:∀ {l:List V} {k i:Nat} {v:V},l[i]? = some v→(enumV k l)[i]? = some (.tup [.int ((k+i:Nat):Int),v])
 | [],_,_,_,h=>by contradiction
 | v::l,k,0,u,h=>by obtain rfl:=Option.some.inj h;rfl
 | v::l,k,i+1,u,h=>by
  have:=@enumV_at l (k+1) i u (h)
  rw [show k+(i+1)=k+1+i from (Nat.add_assoc k i 1).symm.trans (Nat.add_right_comm k i 1)]
  exact this
section
variable {cx:Cx} {n:Nat} {sc:Scope} {Γ:Str→Option V} {σ σ':Store} {B B':Addr→Prop} {s s':Shared} {A:Around}
theorem isTup_inv {t:Expr} (h:isTup t=true):∃ a b c,t=.Tuple a b c:=by
 cases t
 case Tuple=>exact ⟨_,_,_,rfl⟩
 all_goals exact Bool.noConfusion (show false=true from h)
theorem enum_src {e it l:Addr} {items:Array Value} {vs:List V} (hei:e≠it) (hle:l≠e) (hli:l≠it) (hx:items.size=vs.length) :
  Src cx true vs items.toList (enumV 0 vs) (fun b=>b∈[e,it]) (fun b=>b∈[l]) (fun i h=>(∃ old,IsEnum h e it i old)∧h.IsListIter it l i∧h.IsList l items)
   (fun i v h=>∃ T,v=.ref T∧(∃ x,IsEnumOut h e it ((i:Int)+1) x T)∧h.IsListIter it l (i+1)∧h.IsList l items∧T≠e∧T≠it) e:=by
 have W:∀ A:Around,A.handled=none→_:=fun A hh=>WalksT.enumerate (prog:=cx.prog) (w:=cx.w) (A:=A) hh e it l hei hle hli items
 refine ⟨fun i h h' st k=>?_,fun i h b st hb=>?_,fun i x h b st hb=>?_,fun A s i P Er hh hi st hP=>?_,fun A s i t x P Er ht st hP=>?_,fun A s P Er hh st hP=>?_,fun A s i P Er hh st h=>?_⟩
 ·exact (W {} rfl).frame i h h' st fun b hb o e=>k b o (by simp at hb ⊢;rcases hb with rfl | rfl | rfl <;> simp) e
 ·obtain ⟨⟨old,he⟩,⟨o,h1,_⟩,_⟩:=st
  simp at hb
  rcases hb with rfl|rfl
  ·exact ⟨_,he⟩
  ·exact ⟨_,h1⟩
 ·obtain ⟨T,_,⟨x,he⟩,⟨o,h1,_⟩,_⟩:=st
  simp at hb
  rcases hb with rfl|rfl
  ·exact ⟨_,he⟩
  ·exact ⟨_,h1⟩
 ·rw [enumV_length] at hi
  obtain ⟨⟨old,he⟩,hit,hl⟩:=st
  have hxi:items[i]? = some items[i]:=Array.getElem?_eq_getElem (by omega)
  refine wpAny_pyNext_enum_item he hit hl hxi hei fun h' ho hit' hT hsz k=>?_
  have helt:e<s.heap.objs.size:=Heap.lt_size he
  have hilt:it<s.heap.objs.size:=by obtain ⟨_,x,_⟩:=hit;exact Heap.lt_size x
  obtain ⟨v,hv⟩:∃ v,vs[i]? = some v:=⟨_,List.getElem?_eq_getElem hi⟩
  have ev:=enumV_at (k:=0) hv
  rw [Nat.zero_add] at ev
  refine hP (.ref s.heap.objs.size) _ h' (s.toks+1) ev ⟨_,rfl,⟨_,ho⟩,hit',hl.at fun o x=>k l o hle hli x,Nat.ne_of_gt helt,Nat.ne_of_gt hilt⟩
   (fun b o hb x=>k b o (fun e'=>hb (by simp [e'])) (fun e'=>hb (by simp [e'])) x) fun C hC hbad r=>?_
  obtain ⟨y,e1,hy⟩:=RpL_get r hv
  have e1':items[i]? = some y:=Array.getElem?_toList.symm.trans e1
  rw [hxi] at e1';(injection e1' with e1';subst e1')
  refine ⟨_,_,_,rfl,fun o_=>hbad _ (get_none_size _),by rw [hC];exact hT,?_⟩
  exact ⟨_,_,rfl,(by exact ⟨_,rfl⟩),_,_,rfl,hy,rfl⟩
 ·obtain ⟨T,rfl,⟨x,ho⟩,hit,hl,hTe,hTi⟩:=st
  obtain ⟨_,_,_,rfl⟩:=isTup_inv ht
  refine wpAny_letOwnedTupleGo_enum ho fun h' he' hs'=>hP h' ⟨⟨x,by simpa using he'⟩,hit.at fun o y=>(hs'.2 it hei.symm).trans y,hl.at fun o y=>(hs'.2 l hle).trans y⟩ fun b o hb y=>?_
  exact (hs'.2 b fun e'=>hb (by simp [e'])).trans y
 ·rw [enumV_length,← hx] at st
  exact (W A hh).done s P Er st hP
 ·exact (W A hh).self i s P Er st h
theorem EvI_enum {e:Expr} {fp pos:Pos} {Q:List V→Store→Prop} (hk:sc.names.lookup ("enumerate" : Str)=some .globalImplicit) (hg:GlobIs cx ("enumerate" : Str) (.type "enumerate")) (hp:notStar e=true)
  (h:Ev cx n sc Γ σ e fun v σ₁=>∃ vs,v=.lst vs∧Q (enumV 0 vs) σ₁):EvI cx true n sc Γ σ (.Call (.Name ("enumerate" : Str) fp) [e] [] pos) Q:=fun B env A s rd X E=>by
 skip
 refine wpAny_bind (glob_name X E hk hg ?_)
 have hL:EvL cx n sc Γ σ [e] fun vs σ₁=>∃ l,vs=[.lst l]∧Q (enumV 0 l) σ₁:=⟨hp,h.mono fun v σ₁ q=>by obtain ⟨l,rfl,a⟩:=q;exact ⟨l,rfl,a⟩⟩
 refine callWith_run X (keeps_type _) (by simp [hp]) (wpAny_mono (hL.run B env A s rd X E) (fun xs s₁ o=>?_) fun o_ o_ x=>x)
 obtain ⟨vs,σ₁,X₁,S₁,r₁,l,rfl,q⟩:=o
 refine ⟨cx.X.keeps X₁.keep,?_⟩
 obtain ⟨x,_,rfl,hx,rfl⟩:=r₁
 obtain ⟨a,items,k,rfl,hbd,ho,hl⟩:=hx
 have e:items.size=l.length:=by have:=RpL.length hl;simpa using this
 have hlt:a<s₁.heap.objs.size:=Heap.lt_size ho
 have hL:s₁.heap.IsList a items:=⟨_,ho,rfl,k,rfl⟩
 refine call_enumerate_list hL fun h' he hit hsz kp=>?_
 have fresh:∀ k,s₁.heap.get? (s₁.heap.objs.size+k)=none:=fun k=>by
  rcases e:s₁.heap.get? (s₁.heap.objs.size+k) with _|o
  ·rfl
  ·exact absurd (Heap.lt_size e) (Nat.not_lt.mpr (Nat.le_add_right _ _))
 have new:∀ b,b∈[s₁.heap.objs.size+1,s₁.heap.objs.size]→s₁.heap.get? b=none:=by
  intro b hb
  simp at hb
  rcases hb with rfl|rfl
  ·exact fresh 1
  ·exact fresh 0
 have src:=enum_src (cx:=cx) (e:=s₁.heap.objs.size+1) (it:=s₁.heap.objs.size) (l:=a) (items:=items) (vs:=l) (Nat.ne_of_gt (Nat.lt_succ_self _)) (Nat.ne_of_lt (Nat.lt_succ_of_lt hlt)) (Nat.ne_of_lt hlt) e
 have st:(∃ old,IsEnum h' (s₁.heap.objs.size+1) s₁.heap.objs.size 0 old)∧h'.IsListIter s₁.heap.objs.size a 0∧h'.IsList a items:=⟨⟨_,he⟩,hit,hL.at fun o e=>kp a o e⟩
 obtain ⟨X',up⟩:=X₁.more (s':={ s₁ with heap:=h' }) (B':=fun b=>B b∨b∈[s₁.heap.objs.size+1,s₁.heap.objs.size]) kp rfl rfl (fun a q=>q.imp id fun q=>⟨new a q,src.live 0 h' a st q⟩)
 have out:SrcOut cx true B σ s.heap Q (.ref (s₁.heap.objs.size+1)) { s₁ with heap:=h' }:=by
  refine ⟨σ₁,_,_,_,_,_,_,_,_,rfl,X',S₁.trans (step_all (s:=s₁) (s':={ s₁ with heap:=h' }) kp),src,st,rpL_of up hl,fun b hb=>?_,fun b hb hw=>?_,q⟩
  ·refine ⟨?_,X₁.fresh_not (new b hb)⟩
   rcases e:s.heap.get? b with _|o
   ·rfl
   ·obtain ⟨o',e'⟩:=S₁.live _ _ e;rw [new b hb] at e';contradiction
  ·simp only [List.mem_cons,List.not_mem_nil,or_false] at hb
   subst hb
   exact ⟨hbd rfl,_,kp _ _ ho⟩
 exact src.self A _ 0 _ _ rd.1 st out
structure KeySt (h:Heap) (it d:Addr) (es:List DictEntry) (ep i:Nat):Prop where
 it:h.get? it=some { cls:=.type "dict_keyiterator",data:=.fields #[.ref d,.int i 0,.int es.length 0,.int ep 0] }
 d:h.get? d=some (dictOf es ep)
section
variable {prog:Program} {w:World} {Er:Value→Shared→Prop}
theorem next_key_item {it d:Addr} {es:List DictEntry} {ep i:Nat} {en:DictEntry} {Q:Option Value→Shared→Prop} (st:KeySt s.heap it d es ep i) (hx:es[i]? = some en) (hne:d≠it)
  (hQ:∀ h',KeySt h' it d es ep (i+1)→Heap.SameBut it s.heap h'→Q (some en.key) { s with heap:=h' }):wpAny (model prog w) A (pyNext (.ref it)) Q Er s:=by
 obtain ⟨ho,hod⟩:=st
 have hT:s.TypeIs (.ref it) "dict_keyiterator":=⟨_,ho,rfl⟩
 have hd:(({ cls:=.type "dict_keyiterator",data:=.fields #[.ref d,.int i 0,.int es.length 0,.int ep 0] }:Obj)).data=.fields #[.ref d,.int i 0,.int es.length 0,.int ep 0]:=rfl
 have hdd:(dictOf es ep).data=.dict es.toArray ep:=rfl
 skip
 refine wpAny_bind (wpAny_attempt (wpAny_callSpecial?_slot (name:=Str.ofString "__next__") hT F.slot_dict_keyiterator_next
  (wpAny_call_entry F.slot_dict_keyiterator_next hT F.entry_dict_keyiterator_next ?_ (F.args_dict_keyiterator_next_1 _))))
 refine wpAny_bind (wpAny_pure ?_)
 refine wpAny_bind ?_
 refine wpAny_bind ?_
 first | refine wpAny_bind (wpAny_typeNameOfWhole_keyiter hT (wpAny_pure ?_)) | refine wpAny_bind (wpAny_typeNameOf_keyiter hT (wpAny_pure ?_))
 refine wpAny_bind (wpAny_fieldsOf ho hd ?_)
 have hown:Builtin.Dict_items.ownsTuple "dict_keyiterator" = false:=by decide
 skip
 show wpAny _ _ (if (Value.ref d==Value.none)=true then _ else _) _ _ s
 rw [if_neg (show ¬ ((Value.ref d==Value.none)=true) from Bool.false_ne_true)]
 refine wpAny_bind (wpAny_pure ?_)
 refine wpAny_bind (wpAny_dictEntries hod hdd ?_)
 have hsz:es.toArray.size=es.length:=by rfl
 rw [if_neg (by rw [hsz];simp)]
 refine wpAny_bind (wpAny_pure ?_)
 refine wpAny_bind (wpAny_dictEpoch hod hdd ?_)
 rw [if_neg (by simp)]
 refine wpAny_pure ?_
 have he:es.toArray[i]? = some en:=Array.getElem?_toList.symm.trans hx
 simp only [show ¬ ((i:Int)<0) from by omega,if_false,Int.toNat_natCast,he]
 refine wpAny_bind ?_
 first | refine wpAny_bind (wpAny_typeNameOfWhole_keyiter hT (wpAny_pure ?_)) | refine wpAny_bind (wpAny_typeNameOf_keyiter hT (wpAny_pure ?_))
 refine wpAny_bind (wpAny_isOneOf_keyiter hT ?_)
 show wpAny _ _ (setField (.ref it) 1 (rawInt ((i:Int)+1)) >>= _) _ _ s
 refine wpAny_bind (wpAny_setField_rec ho (by simp) fun h₁ hit₁ hs₁=>?_)
 have st':KeySt h₁ it d es ep (i+1):=⟨hit₁,hs₁.extBut _ _ hne hod⟩
 refine wpAny_bind (wpAny_holding ?_)
 refine wpAny_bind (wpAny_isOneOf_keyiter (s:={ s with heap:=h₁ }) ⟨_,st'.it,rfl⟩ ?_)
 skip
 exact wpAny_pure (wpAny_pure ⟨_,rfl,wpAny_pure (hQ _ st' hs₁)⟩)
theorem next_key_end {it d:Addr} {es:List DictEntry} {ep:Nat} {Q:Option Value→Shared→Prop} (hh:A.handled=none) (st:KeySt s.heap it d es ep es.length)
  (hQ:∀ h',Heap.ExtBut it s.heap h'→Q none { s with heap:=h' }):wpAny (model prog w) A (pyNext (.ref it)) Q Er s:=by
 obtain ⟨ho,hod⟩:=st
 have hT:s.TypeIs (.ref it) "dict_keyiterator":=⟨_,ho,rfl⟩
 have hd:(({ cls:=.type "dict_keyiterator",data:=.fields #[.ref d,.int es.length 0,.int es.length 0,.int ep 0] }:Obj)).data=.fields #[.ref d,.int es.length 0,.int es.length 0,.int ep 0]:=rfl
 have hdd:(dictOf es ep).data=.dict es.toArray ep:=rfl
 skip
 refine wpAny_bind (wpAny_attempt (wpAny_callSpecial?_slot (name:=Str.ofString "__next__") hT F.slot_dict_keyiterator_next
  (wpAny_call_entry F.slot_dict_keyiterator_next hT F.entry_dict_keyiterator_next ?_ (F.args_dict_keyiterator_next_1 _))))
 refine wpAny_bind (wpAny_pure ?_)
 refine wpAny_bind ?_
 refine wpAny_bind ?_
 first | refine wpAny_bind (wpAny_typeNameOfWhole_keyiter hT (wpAny_pure ?_)) | refine wpAny_bind (wpAny_typeNameOf_keyiter hT (wpAny_pure ?_))
 refine wpAny_bind (wpAny_fieldsOf ho hd ?_)
 have hown:Builtin.Dict_items.ownsTuple "dict_keyiterator" = false:=by decide
 skip
 show wpAny _ _ (if (Value.ref d==Value.none)=true then _ else _) _ _ s
 rw [if_neg (show ¬ ((Value.ref d==Value.none)=true) from Bool.false_ne_true)]
 refine wpAny_bind (wpAny_pure ?_)
 refine wpAny_bind (wpAny_dictEntries hod hdd ?_)
 have hsz:es.toArray.size=es.length:=by rfl
 rw [if_neg (by rw [hsz];simp)]
 refine wpAny_bind (wpAny_pure ?_)
 refine wpAny_bind (wpAny_dictEpoch hod hdd ?_)
 rw [if_neg (by simp)]
 refine wpAny_pure ?_
 have he:es.toArray[es.length]? = none:=by simp
 simp only [show ¬ ((es.length:Int)<0) from by omega,if_false,Int.toNat_natCast,he]
 refine wpAny_bind ?_
 first | refine wpAny_bind (wpAny_typeNameOfWhole_keyiter hT (wpAny_pure ?_)) | refine wpAny_bind (wpAny_typeNameOf_keyiter hT (wpAny_pure ?_))
 show wpAny _ _ (setField (.ref it) 0 .none >>= _) _ _ s
 refine wpAny_bind (wpAny_setField ho hd (by simp) ?_)
 skip
 refine wpAny_bind ?_
 skip
 refine wpAny_bind (wpAny_newObj_type ?_ (by size_fits))
 refine wpAny_bind (m:=firstArgMember _ _) (wpAny_of_eq (a:=Value.none) (by first | rfl | (skip;rfl)) ?_)
 refine wpAny_newObj_type ?_ (by size_fits)
 skip
 refine wpAny_bind (wpAny_handled ?_)
 rw [show A.in1.handled=none from hh]
 refine wpAny_bind (wpAny_pure (wpAny_throw ?_))
 refine wpAny_bind (wpAny_isInstance (T := "StopIteration") (b:=true) ⟨_,Heap.get?_push_size _ rfl,rfl⟩ isSubtype_stop ?_)
 exact wpAny_pure (hQ _ (((Heap.SameBut.update ..).extBut.push _).push _))
theorem iter_keys_self {it d:Addr} {es:List DictEntry} {ep i:Nat} {Q:Value→Shared→Prop} (st:KeySt s.heap it d es ep i) (h:Q (.ref it) s):wpAny (model prog w) A (pyIter (.ref it)) Q Er s:=by
 have hT:s.TypeIs (.ref it) "dict_keyiterator":=⟨_,st.it,rfl⟩
 refine wpAny_pyIter_slot hT F.slot_dict_keyiterator_iter (wpAny_call_entry F.slot_dict_keyiterator_iter hT F.entry_dict_keyiterator_iter ?_ (F.args_dict_keyiterator_iter_1 _))
 skip
 exact wpAny_pure ⟨_,rfl, "dict_keyiterator",_,hT,F.slot_dict_keyiterator_next.lookup,h⟩
theorem iter_keys {d:Addr} {es:List DictEntry} {ep:Nat} {Q:Value→Shared→Prop} (hd:(d==sysModules)=false) (ho:s.heap.get? d=some (dictOf es ep))
  (hQ:Q (.ref s.heap.objs.size) { s with heap:=s.heap.push { cls:=.type "dict_keyiterator",data:=.fields #[.ref d,.int ((0:Nat):Int) 0,.int es.length 0,.int ep 0] } }):wpAny (model prog w) A (pyIter (.ref d)) Q Er s:=by
 have hT:s.TypeIs (.ref d) "dict":=⟨_,ho,rfl⟩
 have hdat:(dictOf es ep).data=.dict es.toArray ep:=rfl
 refine wpAny_pyIter_slot hT F.slot_dict_iter (wpAny_call_entry F.slot_dict_iter hT F.entry_dict_iter ?_ (F.args_dict_iter_1 _))
 skip
 refine wpAny_bind ?_
 skip
 refine wpAny_bind (wpAny_notOrdered_dict hT ?_)
 skip
 refine wpAny_pure ?_
 show wpAny _ _ (Builtin.Dict.showsAll d >>= _) _ _ s
 delta Builtin.Dict.showsAll
 rw [if_neg (by rw [hd];exact Bool.false_ne_true)]
 refine wpAny_bind (wpAny_pure ?_)
 refine wpAny_bind (wpAny_dictEntries ho hdat ?_)
 refine wpAny_bind (wpAny_dictEpoch ho hdat ?_)
 refine wpAny_bind (wpAny_newObj_type (wpAny_pure ⟨_,rfl, "dict_keyiterator",_,⟨_,Heap.get?_push_size _ rfl,rfl⟩,F.slot_dict_keyiterator_next.lookup,?_⟩))
 exact hQ
end
theorem At.rp {C:Cf} {k:At} {x:Value}:k.isV x=true↔Rp C k.v x:=by
 cases k with
 | i m=>
  constructor
  ·intro h;obtain ⟨t,rfl⟩:=At.isI h;exact rp_int _ _
  ·intro h;obtain ⟨t,rfl⟩:=of_int h;show (m==m)=true;simp
 | s y=>
  constructor
  ·intro h;obtain ⟨t,rfl⟩:=At.isS h;exact rp_str _ _
  ·intro h;obtain ⟨t,rfl⟩:=of_str h;show (y==y)=true;simp
theorem items_rp {C:Cf} {w:World}:∀ {ks:List At} {xs:List Value},ItemsAre (atKind default w) ks xs↔RpL C (ks.map At.v) xs
 | [],xs=>by
  constructor
  ·intro h;cases h;exact rfl
  ·intro h;skip;subst h;exact .nil
 | k::ks,xs=>by
  constructor
  ·intro h
   cases h with
   | cons h1 h2=>
    exact ⟨_,_,rfl,At.rp.mp h1,items_rp.mp h2⟩
  ·intro h
   obtain ⟨x,r,rfl,h1,h2⟩:=h
   exact .cons (At.rp.mpr h1) (items_rp.mpr h2)
theorem IsT_rp {C:Cf} {ks:List At} {a:Addr}:IsT C ks a↔Rp C (T ks) (.ref a):=by
 constructor
 ·intro h
  obtain ⟨hb,items,k,ho,hi⟩:=h
  exact ⟨a,items,k,rfl,fun o_=>hb,ho,items_rp.mp hi⟩
 ·intro h
  obtain ⟨b,items,k,e,hb,ho,hi⟩:=h
  (injection e with e;subst e)
  exact ⟨hb rfl,items,k,ho,items_rp.mpr hi⟩
theorem GT_length {C:Cf}:∀ {l:List (List At×V)} {es:List DictEntry},GT C l es→es.length=l.length
 | [],_,h=>by subst h;rfl
 | (k,v)::l,_,h=>by
  obtain ⟨a,x,r,rfl,hk,hv,h⟩:=h
  simp [GT_length h]
noncomputable def keysV (l:List (List At×V)):List V:=l.map fun p=>T p.1
theorem keys_src {tu:Bool} {it d:Addr} {es:List DictEntry} {ep:Nat} {l:List (List At×V)} (hne:d≠it) (he:es.length=l.length) :
  Src cx tu (keysV l) (es.map (·.key)) (keysV l) (fun b=>b∈[it]) (fun b=>b∈[d]) (fun i h=>KeySt h it d es ep i) (fun i o_ h=>KeySt h it d es ep (i+1)) it:=by
 have ll:(keysV l).length=es.length:=by simp [keysV,he]
 refine ⟨fun i h h' st k=>⟨k _ _ (.inl (.head _)) st.it,k _ _ (.inr (.head _)) st.d⟩,fun i h b st hb=>by simp at hb;subst hb;exact ⟨_,st.it⟩,fun i x h b st hb=>by simp at hb;subst hb;exact ⟨_,st.it⟩,
  fun A s i P Er hh hi st hP=>?_,fun A s i t x P Er o_ st hP=>go_quiet st.it ⟨_,rfl,by decide⟩ (hP s.heap st fun o_ o_ o_ e=>e),fun A s P Er hh st hP=>?_,fun A s i P Er hh st h=>iter_keys_self st h⟩
 ·rw [ll] at hi
  have hx:es[i]? = some es[i]:=List.getElem?_eq_getElem hi
  obtain ⟨v,hv⟩:∃ v,(keysV l)[i]? = some v:=⟨_,List.getElem?_eq_getElem (by exact Nat.lt_of_lt_of_le (by assumption) (Nat.le_of_eq (Eq.symm (by assumption))))⟩
  refine next_key_item st hx hne fun h' st' hs'=>hP _ v h' s.toks hv st' (fun b o hb e=>hs'.extBut _ _ (fun q=>hb (by simp [q])) e) fun C hC hbad r=>?_
  obtain ⟨y,e1,hy⟩:=RpL_get r hv
  have:(es.map (·.key))[i]? = some es[i].key:=by simp [hx]
  rw [this] at e1;(injection e1 with e1;subst e1);exact hy
 ·rw [ll] at st
  exact next_key_end hh st fun h' k=>hP h' s.toks fun b o hb e=>k b o (fun q=>hb (by simp [q])) e
theorem GT_keys {C:Cf}:∀ {l:List (List At×V)} {es:List DictEntry},GT C l es→RpL C (keysV l) (es.map (·.key))
 | [],_,h=>by subst h;exact rfl
 | (k,v)::l,_,h=>by
  obtain ⟨a,x,r,rfl,hk,hv,h⟩:=h
  have:=GT_keys h
  skip
  exact ⟨_,_,rfl,IsT_rp.mp hk,this⟩
theorem EvI_keys {tu:Bool} {e:Expr} {Q:List V→Store→Prop} (h:Ev cx n sc Γ σ e fun v σ₁=>∃ l,v=.dT l∧Q (keysV l) σ₁):EvI cx tu n sc Γ σ e Q:=fun B env A s rd X E=>by
 refine wpAny_mono (h B env A s rd X E) (fun x s₁ o=>?_) fun o_ o_ x=>x
 obtain ⟨v,σ₁,X₁,S₁,r₁,l,rfl,q⟩:=o
 obtain ⟨d,es,ep,rfl,hb,ho,hl,hn,hd⟩:=r₁
 have hlt:d<s₁.heap.objs.size:=Heap.lt_size ho
 refine iter_keys hd ho ?_
 refine srcOut_push (base:=keysV l) (xs:=es.map (·.key)) (fz:=fun b=>b∈[d]) X₁ S₁ (keys_src (Nat.ne_of_lt hlt) (GT_length hl)) ⟨Heap.get?_push_size _ rfl,push_keep _ _ _ _ ho⟩ rfl (GT_keys hl) (fun b hb' hn=>?_) q
 simp at hb'
 subst hb'
 exact ⟨hb rfl,_,ho⟩
end
mutual
noncomputable def V.dat:V→PyData
 | .int i=>.int i
 | .str x=>.str x
 | .tup l=>.tuple (V.dats l)
 | .lst l=>.list (V.dats l)
 | _=>.none
noncomputable def V.dats:List V→List PyData
 | []=>[]
 | v::l=>v.dat::V.dats l
end
mutual
noncomputable def V.isDat:V→Bool
 | .none | .int _=>true
 | .str x=>PyData.strOk x
 | .tup l=>V.areDat l
 | .lst l=>V.areDat l
 | _=>false
noncomputable def V.areDat:List V→Bool
 | []=>true
 | v::l=>v.isDat && V.areDat l
end
mutual
theorem reads_of {C:Cf}:∀ {f:Bool} {v:V} {x:Value},G C f v x→v.isDat=true→(∃ as,Reads C.h x v.dat as)∧v.dat.canLay0=true
 | _,.none,_,r,_=>by have:=of_none r;subst this;exact ⟨⟨_,.none⟩,rfl⟩
 | _,.int i,_,r,_=>by obtain ⟨t,rfl⟩:=of_int r;exact ⟨⟨_,.int _ _⟩,rfl⟩
 | _,.str x,_,r,h=>by obtain ⟨t,rfl⟩:=of_str r;exact ⟨⟨_,.str _ _⟩,h⟩
 | f,.tup l,_,r,h=>by
  obtain ⟨a,items,n,rfl,_,ho,hl⟩:=r
  obtain ⟨⟨as,h1⟩,h2⟩:=readsL_of hl (h)
  exact ⟨⟨_,.tuple ho rfl rfl h1⟩,h2⟩
 | f,.lst l,_,r,h=>by
  obtain ⟨a,items,n,rfl,_,ho,hl⟩:=r
  obtain ⟨⟨as,h1⟩,h2⟩:=readsL_of hl (h)
  exact ⟨⟨_,.list ho rfl rfl h1⟩,h2⟩
 | _,.bool _,_,_,h | _,.dI _,_,_,h | _,.dS _,_,_,h | _,.dT _,_,_,h | _,.fld _,_,_,h | _,.sI _,_,_,h | _,.sT _,_,_,h | _,.inst _ _,_,_,h | _,.ref _,_,_,h=>Bool.noConfusion (show false=true from h)
theorem readsL_of {C:Cf}:∀ {l:List V} {xs:List Value},GL C l xs→V.areDat l=true→(∃ as,ReadsAll C.h xs (V.dats l) as)∧PyData.canLayAll0 (V.dats l)=true
 | [],_,r,_=>by subst r;exact ⟨⟨_,.nil⟩,rfl⟩
 | v::l,_,r,h=>by
  obtain ⟨x,q,rfl,hx,hr⟩:=r
  have h':(v.isDat && V.areDat l)=true:=h
  obtain ⟨h1,h2⟩:=Bool.and_eq_true_iff.mp h'
  obtain ⟨⟨as,a1⟩,a2⟩:=reads_of hx h1
  obtain ⟨⟨bs,b1⟩,b2⟩:=readsL_of hr h2
  exact ⟨⟨_,.cons a1 b1⟩,Bool.and_eq_true_iff.mpr ⟨a2,b2⟩⟩
end
theorem dat_no {b:Bool} {v u:V} (h:b=false) (n:v≠u):(b=true↔v=u):=⟨fun z=>Bool.noConfusion (h.symm.trans z),fun z=>absurd z n⟩
mutual
theorem eqv_iff:∀ {v u:V},v.isDat=true→u.isDat=true→(PyData.eqv v.dat u.dat=true↔v=u)
 | .none,u,_,hu=>by
  cases u
  case none=>exact ⟨fun o_=>rfl,fun o_=>rfl⟩
  all_goals first | exact Bool.noConfusion (show false=true from hu) | exact dat_no rfl (fun z=>V.noConfusion z)
 | .int i,u,_,hu=>by
  cases u
  case int=>exact Iff.trans (beq_iff_eq (a:=i)) ⟨congrArg V.int,fun z=>by injection z⟩
  all_goals first | exact Bool.noConfusion (show false=true from hu) | exact dat_no rfl (fun z=>V.noConfusion z)
 | .str x,u,_,hu=>by
  cases u
  case str=>exact Iff.trans (beq_iff_eq (a:=x)) ⟨congrArg V.str,fun z=>by injection z⟩
  all_goals first | exact Bool.noConfusion (show false=true from hu) | exact dat_no rfl (fun z=>V.noConfusion z)
 | .tup l,u,hv,hu=>by
  cases u
  case tup=>exact Iff.trans (eqvL_iff hv hu) ⟨congrArg V.tup,fun z=>by injection z⟩
  all_goals first | exact Bool.noConfusion (show false=true from hu) | exact dat_no rfl (fun z=>V.noConfusion z)
 | .lst l,u,hv,hu=>by
  cases u
  case lst=>exact Iff.trans (eqvL_iff hv hu) ⟨congrArg V.lst,fun z=>by injection z⟩
  all_goals first | exact Bool.noConfusion (show false=true from hu) | exact dat_no rfl (fun z=>V.noConfusion z)
 | .bool _,_,h,_ | .dI _,_,h,_ | .dS _,_,h,_ | .dT _,_,h,_ | .fld _,_,h,_ | .sI _,_,h,_ | .sT _,_,h,_ | .inst _ _,_,h,_ | .ref _,_,h,_=>Bool.noConfusion (show false=true from h)
theorem eqvL_iff:∀ {l l':List V},V.areDat l=true→V.areDat l'=true→(PyData.eqvAll (V.dats l) (V.dats l')=true↔l=l')
 | [],[],_,_=>⟨fun o_=>rfl,fun o_=>rfl⟩
 | [],_::_,_,_=>⟨fun z=>Bool.noConfusion (show false=true from z),fun z=>by injection z⟩
 | _::_,[],_,_=>⟨fun z=>Bool.noConfusion (show false=true from z),fun z=>by injection z⟩
 | v::l,u::l',h,h'=>
  have a:=Bool.and_eq_true_iff.mp h
  have b:=Bool.and_eq_true_iff.mp h'
  (Bool.and_eq_true_iff.trans (and_congr (eqv_iff a.1 b.1) (eqvL_iff a.2 b.2))).trans ⟨fun q=>q.1▸q.2▸rfl,fun z=>by injection z with z1 z2;exact ⟨z1,z2⟩⟩
end
theorem depthL_le {k:Nat}:∀ {l:List V},(∀ v∈l,v.dat.depth≤k)→PyData.depthAll (V.dats l)≤k
 | [],_=>Nat.zero_le _
 | v::l,h=>by
  exact Nat.max_le.mpr ⟨h v (.head _),depthL_le (k:=k) (l:=l) fun u hu=>h u (.tail _ hu)⟩
theorem depth_lst {k:Nat} {l:List V} (h:∀ v∈l,v.dat.depth≤k):(V.lst l).dat.depth≤k+1:=by
 exact Nat.succ_le_succ (depthL_le h)
theorem depth_tup {k:Nat} {l:List V} (h:∀ v∈l,v.dat.depth≤k):(V.tup l).dat.depth≤k+1:=by
 exact Nat.succ_le_succ (depthL_le h)
section
variable {cx:Cx} {n:Nat} {sc:Scope} {Γ:Str→Option V} {σ σ':Store} {B B':Addr→Prop} {s s':Shared} {A:Around} {Q:V→Store→Prop}
theorem P2_add {a b:Int} (h:Q (.int (a+b)) σ):P2 cx n σ (binaryOp .Add) (.int a) (.int b) Q:=fun B A s x y rd X r r'=>by
 obtain ⟨t,rfl⟩:=of_int r;obtain ⟨u,rfl⟩:=of_int r'
 exact P.add_int (out_tok X (rp_int _ _) h)
theorem P2_sub {a b:Int} (h:Q (.int (a - b)) σ):P2 cx n σ (binaryOp .Sub) (.int a) (.int b) Q:=fun B A s x y rd X r r'=>by
 obtain ⟨t,rfl⟩:=of_int r;obtain ⟨u,rfl⟩:=of_int r'
 exact P.sub_int (out_tok X (rp_int _ _) h)
theorem P2_mul {a b:Int} (hm:IntMulOk a b) (h:Q (.int (a*b)) σ):P2 cx n σ (binaryOp .Mult) (.int a) (.int b) Q:=fun B A s x y rd X r r'=>by
 obtain ⟨t,rfl⟩:=of_int r;obtain ⟨u,rfl⟩:=of_int r'
 exact P.mul_int (out_tok X (rp_int _ _) h) hm
theorem P2_mod {a b:Int} (hb:b≠0) (h:Q (.int (a.fmod b)) σ):P2 cx n σ (binaryOp .Mod) (.int a) (.int b) Q:=fun B A s x y rd X r r'=>by
 obtain ⟨t,rfl⟩:=of_int r;obtain ⟨u,rfl⟩:=of_int r'
 exact mod_int hb (out_tok X (rp_int _ _) h)
theorem P2_lt {a b:Int} (h:Q (.bool (decide (a<b))) σ):P2 cx n σ (compareOp .Lt) (.int a) (.int b) Q:=fun B A s x y rd X r r'=>by
 obtain ⟨t,rfl⟩:=of_int r;obtain ⟨u,rfl⟩:=of_int r'
 exact P.lt_int (out_here X (rp_bool _) h)
theorem P2_le {a b:Int} (h:Q (.bool (decide (a≤b))) σ):P2 cx n σ (compareOp .LtE) (.int a) (.int b) Q:=fun B A s x y rd X r r'=>by
 obtain ⟨t,rfl⟩:=of_int r;obtain ⟨u,rfl⟩:=of_int r'
 exact P.le_int (out_here X (rp_bool _) h)
theorem P2_gt {a b:Int} (h:Q (.bool (decide (a > b))) σ):P2 cx n σ (compareOp .Gt) (.int a) (.int b) Q:=fun B A s x y rd X r r'=>by
 obtain ⟨t,rfl⟩:=of_int r;obtain ⟨u,rfl⟩:=of_int r'
 exact P.gt_int (out_here X (rp_bool _) h)
theorem P2_ge {a b:Int} (h:Q (.bool (decide (a≥b))) σ):P2 cx n σ (compareOp .GtE) (.int a) (.int b) Q:=fun B A s x y rd X r r'=>by
 obtain ⟨t,rfl⟩:=of_int r;obtain ⟨u,rfl⟩:=of_int r'
 exact P.ge_int (out_here X (rp_bool _) h)
theorem P2_eqi {a b:Int} (h:Q (.bool (decide (a=b))) σ):P2 cx n σ (compareOp .Eq) (.int a) (.int b) Q:=fun B A s x y rd X r r'=>by
 obtain ⟨t,rfl⟩:=of_int r;obtain ⟨u,rfl⟩:=of_int r'
 have e:(a==b)=decide (a=b):=by by_cases q:a=b <;> simp [q]
 exact P.eq_int (by rw [e];exact out_here X (rp_bool _) h)
theorem P2_nei {a b:Int} (h:Q (.bool (!decide (a=b))) σ):P2 cx n σ (compareOp .NotEq) (.int a) (.int b) Q:=fun B A s x y rd X r r'=>by
 obtain ⟨t,rfl⟩:=of_int r;obtain ⟨u,rfl⟩:=of_int r'
 have e:(a != b) = !decide (a=b):=by by_cases q:a=b <;> simp [q]
 exact P.ne_int (by rw [e];exact out_here X (rp_bool _) h)
theorem P2_eqs {a b:Str} (h:Q (.bool (decide (a=b))) σ):P2 cx n σ (compareOp .Eq) (.str a) (.str b) Q:=fun B A s x y rd X r r'=>by
 obtain ⟨t,rfl⟩:=of_str r;obtain ⟨u,rfl⟩:=of_str r'
 have e:(a==b)=decide (a=b):=by by_cases q:a=b <;> simp [q]
 exact eq_str (by rw [e];exact out_here X (rp_bool _) h)
theorem P2_nes {a b:Str} (h:Q (.bool (!decide (a=b))) σ):P2 cx n σ (compareOp .NotEq) (.str a) (.str b) Q:=fun B A s x y rd X r r'=>by
 obtain ⟨t,rfl⟩:=of_str r;obtain ⟨u,rfl⟩:=of_str r'
 have e:(a != b) = !decide (a=b):=by by_cases q:a=b <;> simp [q]
 exact ne_str (by rw [e];exact out_here X (rp_bool _) h)
theorem P1_neg {a:Int} (h:Q (.int (-a)) σ):P1 cx n σ (unaryOp .USub) (.int a) Q:=fun B A s x rd X r=>by
 obtain ⟨t,rfl⟩:=of_int r
 exact P.neg_int (out_tok X (rp_int _ _) h)
theorem PT_bool {b:Bool} {Q:Bool→Store→Prop} (h:Q b σ):PT cx n σ (.bool b) Q:=fun B A s x rd X r=>by
 rw [of_bool r]
 exact wpAny_truthy_bool ⟨σ,X,Step.refl _ _,h⟩
theorem room_ok {d:Nat} (rd:Rd n A) (hd:d≤90):A.units+d<cLine:=by have:=rd.2.2;show A.units+d<9900;omega
theorem P2_eq {v u:V} (hv:v.isDat=true) (hu:u.isDat=true) (hd:min v.dat.depth u.dat.depth≤80) (h:∀ b:Bool,(b=true↔v=u)→Q (.bool b) σ):P2 cx n σ (compareOp .Eq) v u Q:=fun B A s x y rd X r r'=>by
 obtain ⟨⟨as,h1⟩,h2⟩:=reads_of r hv
 obtain ⟨⟨bs,h3⟩,h4⟩:=reads_of r' hu
 exact SeqAt.compareEq_reads h1 h3 h2 h4 (room_ok rd (by exact Nat.le_trans (by assumption) (by decide))) (out_here X (rp_bool _) (h _ (eqv_iff hv hu)))
theorem P2_ne {v u:V} (hv:v.isDat=true) (hu:u.isDat=true) (hd:min v.dat.depth u.dat.depth≤80) (h:∀ b:Bool,(b=true↔v≠u)→Q (.bool b) σ):P2 cx n σ (compareOp .NotEq) v u Q:=fun B A s x y rd X r r'=>by
 obtain ⟨⟨as,h1⟩,h2⟩:=reads_of r hv
 obtain ⟨⟨bs,h3⟩,h4⟩:=reads_of r' hu
 refine SeqAt.compareNe_reads h1 h3 h2 h4 (room_ok rd (by exact Nat.le_trans (by assumption) (by decide))) (out_here X (rp_bool _) (h _ ?_))
 rw [Bool.not_eq_true',← Bool.not_eq_true,eqv_iff hv hu]
theorem any_eqv {u:V} (hu:u.isDat=true):∀ {l:List V},V.areDat l=true→(((V.dats l).any fun y=>PyData.eqv y u.dat)=true↔u∈l)
 | [],_=>⟨fun z=>Bool.noConfusion (show false=true from z),fun z=>by contradiction⟩
 | v::l,h=>by
  have a:(v.isDat && V.areDat l)=true:=h
  obtain ⟨a1,a2⟩:=Bool.and_eq_true_iff.mp a
  exact (Bool.or_eq_true_iff.trans (or_congr ((eqv_iff a1 hu).trans eq_comm) (any_eqv hu a2))).trans List.mem_cons.symm
theorem room_in {l:List V} {u:V} (rd:Rd n A) (hd:u.dat.depth≤80):A.units+1+min (PyData.depthAll (V.dats l)) u.dat.depth<cLine:=by have:=rd.2.2;show _<9900;omega
theorem P2_in {u v c:V} {l:List V} (hv:lk σ v=some c) (hc:seqOf c=some l) (hl:V.areDat l=true) (hu:u.isDat=true) (hd:u.dat.depth≤80) (h:∀ b:Bool,(b=true↔u∈l)→Q (.bool b) σ):P2 cx n σ (compareOp .In) u v Q:=fun B A s x y rd X r r'=>by
 have g:=looked X r' hv (fun a q=>by subst q;contradiction)
 obtain ⟨⟨as,h1⟩,h2⟩:=reads_of r hu
 have hroom:=room_in rd (l:=l) hd
 rcases seqOf_inv hc with rfl|rfl
 ·obtain ⟨⟨bs,h3⟩,h4⟩:=reads_of g (hl)
  exact SeqAt.in_tuple_reads h3 h1 (h4) h2 hroom (out_here X (rp_bool _) (h _ (any_eqv hu hl)))
 ·obtain ⟨⟨bs,h3⟩,h4⟩:=reads_of g (hl)
  exact SeqAt.in_list_reads h3 h1 (h4) h2 hroom (out_here X (rp_bool _) (h _ (any_eqv hu hl)))
theorem P2_notin {u v c:V} {l:List V} (hv:lk σ v=some c) (hc:seqOf c=some l) (hl:V.areDat l=true) (hu:u.isDat=true) (hd:u.dat.depth≤80) (h:∀ b:Bool,(b=true↔u∉l)→Q (.bool b) σ):P2 cx n σ (compareOp .NotIn) u v Q:=fun B A s x y rd X r r'=>by
 have g:=looked X r' hv (fun a q=>by subst q;contradiction)
 obtain ⟨⟨as,h1⟩,h2⟩:=reads_of r hu
 have hroom:=room_in rd (l:=l) hd
 have fin:((!(V.dats l).any fun y=>PyData.eqv y u.dat)=true↔u∉l):=by rw [Bool.not_eq_true',← Bool.not_eq_true,any_eqv hu hl]
 rcases seqOf_inv hc with rfl|rfl
 ·obtain ⟨⟨bs,h3⟩,h4⟩:=reads_of g (hl)
  exact SeqAt.notIn_tuple_reads h3 h1 (h4) h2 hroom (out_here X (rp_bool _) (h _ fin))
 ·obtain ⟨⟨bs,h3⟩,h4⟩:=reads_of g (hl)
  exact SeqAt.notIn_list_reads h3 h1 (h4) h2 hroom (out_here X (rp_bool _) (h _ fin))
end
section
variable {cx:Cx} {n:Nat} {sc:Scope} {Γ:Str→Option V} {σ σ':Store} {B B':Addr→Prop} {s s':Shared} {A:Around} {Q:V→Store→Prop}
theorem out_set {a:Addr} {v v' u:V} {x:Value} {h':Heap} {tk:Nat} (X:St cx B σ s) (e:σ a=some v) (k:∀ b o,b≠a→s.heap.get? b=some o→h'.get? b=some o) (hm:v'.isMut=true)
  (hv:Step σ s.heap (σ.set a v') h'→G (cf cx B (σ.set a v') h') false v' (.ref a)) (la:∃ o,h'.get? a=some o) (rx:Step σ s.heap (σ.set a v') h'→Rp (cf cx B (σ.set a v') h') u x) (q:Q u (σ.set a v')) :
  Out cx B σ s.heap Q x { s with heap:=h',toks:=tk }:=by
 have S:Step σ s.heap (σ.set a v') h':=set_step (s:=s) (s':={ s with heap:=h',toks:=tk }) e la k
 exact ⟨u,_,X.set (s':={ s with heap:=h',toks:=tk }) e k rfl rfl hm (hv S),S,rx S,q⟩
theorem of_lst {C:Cf} {f:Bool} {l:List V} {a:Addr} (h:G C f (.lst l) (.ref a)):∃ items m,C.h.get? a=some (seqObj "list" items m)∧RpL C l items.toList:=by
 obtain ⟨b,items,m,e,_,ho,hl⟩:=h
 (injection e with e;subst e);exact ⟨items,m,ho,hl⟩
theorem lst_of {C:Cf} {l:List V} {a:Addr} {items:Array Value} {m:Nat} (h:C.h.get? a=some (seqObj "list" items m)) (hl:RpL C l items.toList):G C false (.lst l) (.ref a):=by
 exact ⟨a,items,m,rfl,fun e=>(by contradiction),h,hl⟩
theorem St.lst (X:St cx B σ s) {a:Addr} {l:List V} (e:σ a=some (.lst l)):∃ items m,s.heap.get? a=some (seqObj "list" items m)∧RpL (cf cx B σ s.heap) l items.toList∧items.size=l.length:=by
 obtain ⟨items,m,h1,h2⟩:=of_lst (X.own a _ e).2.2.2
 exact ⟨items,m,h1,h2,RpL.length h2⟩
theorem GL_one {C:Cf} {v:V} {x:Value} (h:Rp C v x):RpL C [v] [x]:=by exact ⟨x,[],rfl,h,rfl⟩
theorem upd_get {h:Heap} {a:Addr} {items:Array Value} {m:Nat} (ho:h.get? a=some (seqObj "list" items m)) (f:Array Value→Array Value):∃ m',(h.update a (Obj.mapSeq f)).get? a=some (seqObj "list" (f items) m'):=
 ⟨_,PySem.IsL.update ho f⟩
theorem Cl_append {a:Addr} {l:List V} {u:V} (e:σ a=some (.lst l)) (hz:l.length≤999999) (q:Q .none (σ.set a (.lst (l++[u])))):Cl cx n σ (.builtin "list.append") [.ref a,u] Q:=fun B A s xs rd X r=>by
 obtain ⟨x,_,rfl,hx,y,_,rfl,hy,rfl⟩:=r
 rw [of_ref hx]
 obtain ⟨items,m,ho,hl,hs⟩:=X.lst e
 refine wpAny_list_append_plain ⟨m,ho⟩ (fun h' hp hs'=>?_) (sizeLine_big (hs▸Nat.le_succ_of_le hz))
 obtain ⟨m',hp⟩:=hp
 refine out_set (h':=h') (tk:=s.toks) X e (fun b o hb q=>(hs'.2 b hb).trans q) rfl (fun S=>lst_of hp ?_) ⟨_,hp⟩ (fun S=>rp_none) q
 rw [Array.toList_push]
 exact RpL_append (S.rpL hl) (GL_one (S.rp hy))
theorem Cl_extend {a:Addr} {l l':List V} {u c:V} (e:σ a=some (.lst l)) (hu:lk σ u=some (.lst l')) (hz:l.length+l'.length≤1000000) (q:Q .none (σ.set a (.lst (l++l')))):Cl cx n σ (.builtin "list.extend") [.ref a,u] Q:=fun B A s xs rd X r=>by
 obtain ⟨x,_,rfl,hx,y,_,rfl,hy,rfl⟩:=r
 rw [of_ref hx]
 obtain ⟨items,m,ho,hl,hs⟩:=X.lst e
 have g:=looked X hy hu (fun b=>by exact nofun)
 obtain ⟨b,items2,m2,rfl,_,ho2,hl2⟩:=g
 have hs2:items2.size=l'.length:=RpL.length hl2
 have hne:items.size+items2.size≤1000000:=by rw [hs,hs2];exact hz
 have nl:¬(!items.isEmpty && Builtin.List.listTooLong (items.size+items2.size))=true:=by
  have:Builtin.List.listTooLong (items.size+items2.size)=false:=by
   exact decide_eq_false (Nat.not_lt.mpr (sizeLine_big hne))
  rw [this,Bool.and_false];exact Bool.false_ne_true
 refine call_meets PySem.F.slot_list_extend ⟨_,ho,rfl⟩ PySem.F.entry_list_extend (PySem.F.args_list_extend_2 _ _) (PySem.AutoSeq1.list_extend_list_list_0 a items m b items2 m2 nl (sizeLine_big (by exact Nat.le_trans (Nat.le_add_right _ _) (by assumption))) (Nat.le_succ_of_le (sizeLine_big hne))) ⟨ho,ho2,?_⟩
 obtain ⟨m',hp⟩:=upd_get ho (fun x=>x++items2)
 refine out_set (h':=s.heap.update a (Obj.mapSeq fun x=>x++items2)) (tk:=s.toks) X e (fun b o hb q=>(Heap.get?_update_other _ _ (Ne.symm hb)).trans q) rfl (fun S=>lst_of hp ?_) ⟨_,hp⟩ (fun S=>rp_none) q
 rw [Array.toList_append]
 exact RpL_append (S.rpL hl) (S.rpL hl2)
theorem Cl_pop {a:Addr} {l:List V} {u:V} (e:σ a=some (.lst (l++[u]))) (hz:l.length≤999999) (q:Q u (σ.set a (.lst l))):Cl cx n σ (.builtin "list.pop") [.ref a] Q:=fun B A s xs rd X r=>by
 obtain ⟨x,_,rfl,hx,rfl⟩:=r
 rw [of_ref hx]
 obtain ⟨items,m,ho,hl,hs⟩:=X.lst e
 have hs':items.size=l.length+1:=hs.trans List.length_append
 obtain ⟨y,ey,hy⟩:=RpL_get hl (i:=l.length) (v:=u) List.getElem?_concat_length
 have ey':items[items.size - 1]? = some y:=by rw [hs'];exact Array.getElem?_toList.symm.trans ey
 refine call_meets PySem.F.slot_list_pop ⟨_,ho,rfl⟩ PySem.F.entry_list_pop (PySem.F.args_list_pop_1 _) (MeetsSeq.list_pop_last a items m y ey' (sizeLine_big (hs'▸Nat.succ_le_succ hz))) ⟨ho,?_⟩
 obtain ⟨m',hp⟩:=upd_get ho (fun xs=>xs.eraseIdxIfInBounds (items.size - 1))
 have hl':RpL (cf cx B σ s.heap) l (items.eraseIdxIfInBounds (items.size - 1)).toList:=by
  obtain ⟨xs,hxs⟩:∃ xs:List Value,items.toList=xs:=⟨_,rfl⟩
  have elen:xs.length=l.length+1:=by rw [← hxs];exact hs'
  have e1:(items.eraseIdxIfInBounds (items.size - 1)).toList=xs.take l.length:=by
   rw [Array.toList_eraseIdxIfInBounds,hxs,hs',Nat.add_sub_cancel]
   rw [List.eraseIdx_eq_take_drop_succ,List.drop_of_length_le (by exact Nat.le_of_eq (by assumption)),List.append_nil]
  rw [e1]
  rw [hxs] at hl
  have hsplit:xs=xs.take l.length++xs.drop l.length:=(List.take_append_drop _ _).symm
  rw [hsplit] at hl
  exact (RpL_split (List.length_take_of_le (elen▸Nat.le_succ _)) hl).1
 refine out_set (h':=s.heap.update a (Obj.mapSeq fun xs=>xs.eraseIdxIfInBounds (items.size - 1))) (tk:=s.toks) X e (fun b o hb q=>(Heap.get?_update_other _ _ (Ne.symm hb)).trans q) rfl (fun S=>lst_of hp (S.rpL hl')) ⟨_,hp⟩ (fun S=>S.rp hy) q
theorem P2_addL {v u:V} {l l':List V} (hv:lk σ v=some (.lst l)) (hu:lk σ u=some (.lst l')) (hz:l.length+l'.length≤1000000) (q:(Q (.lst (l++l')) σ)∨∀ a,σ a=none→Q (.ref a) (σ.set a (.lst (l++l')))):P2 cx n σ (binaryOp .Add) v u Q:=fun B A s x y rd X r r'=>by
 have g1:=looked X r hv (fun b=>by exact nofun)
 have g2:=looked X r' hu (fun b=>by exact nofun)
 obtain ⟨a,i1,m1,rfl,_,o1,h1⟩:=g1
 obtain ⟨b,i2,m2,rfl,_,o2,h2⟩:=g2
 have s1:i1.size=l.length:=RpL.length h1
 have s2:i2.size=l'.length:=RpL.length h2
 have hz':i1.size+i2.size≤sizeLine:=sizeLine_big (by rw [s1,s2];exact hz)
 refine P.add_list o1 o2 ?_ hz'
 have hl:RpL (cf cx B σ s.heap) (l++l') (i1++i2).toList:=by rw [Array.toList_append];exact RpL_append h1 h2
 rcases q with q|q
 ·refine out_new (hf:=by rfl) X (fun σ' h' k ho e=>?_) q
  subst e
  exact ⟨_,_,_,rfl,fun o_=>X.fresh (get_none_size _),ho,Step.rpL (cx:=cx) (B:=B) ⟨fun b o o_ e=>k b o e,fun o_ e=>.inl e,fun a o e=>⟨o,k a o e⟩⟩ hl⟩
 ·exact out_obj (hf:=by rfl) X rfl (fun σ' h' S ho=>lst_of ho (S.rpL hl)) q
theorem P2_addT {l l':List V} (h1:l≠[]) (h2:l'≠[]) (hz:l.length+l'.length≤1000000) (q:Q (.tup (l++l')) σ):P2 cx n σ (binaryOp .Add) (.tup l) (.tup l') Q:=fun B A s x y rd X r r'=>by
 obtain ⟨a,i1,m1,rfl,_,o1,g1⟩:=r
 obtain ⟨b,i2,m2,rfl,_,o2,g2⟩:=r'
 have s1:i1.size=l.length:=RpL.length g1
 have s2:i2.size=l'.length:=RpL.length g2
 have e1:¬ i1.isEmpty=true:=fun z=>h1 (List.length_eq_zero_iff.mp (s1.symm.trans (Array.isEmpty_iff_size_eq_zero.mp z)))
 have e2:¬ i2.isEmpty=true:=fun z=>h2 (List.length_eq_zero_iff.mp (s2.symm.trans (Array.isEmpty_iff_size_eq_zero.mp z)))
 refine P.add_tuple o1 o2 e1 e2 ?_ (sizeLine_big (by rw [s1,s2];exact hz))
 have hl:RpL (cf cx B σ s.heap) (l++l') (i1++i2).toList:=by rw [Array.toList_append];exact RpL_append g1 g2
 refine out_new (hf:=by rfl) X (fun σ' h' k ho e=>?_) q
 subst e
 exact ⟨_,_,_,rfl,fun o_=>X.fresh (get_none_size _),ho,Step.rpL (cx:=cx) (B:=B) ⟨fun b o o_ e=>k b o e,fun o_ e=>.inl e,fun a o e=>⟨o,k a o e⟩⟩ hl⟩
theorem P2_addT0 {l:List V} (h1:l≠[]) (q:Q (.tup l) σ):P2 cx n σ (binaryOp .Add) (.tup l) (.tup []) Q:=fun B A s x y rd X r r'=>by
 have rr:=r
 obtain ⟨a,i1,m1,rfl,_,o1,g1⟩:=r
 obtain ⟨b,i2,m2,rfl,_,o2,g2⟩:=r'
 have s1:i1.size=l.length:=RpL.length g1
 have s2:i2.size=0:=RpL.length g2
 have e2:i2.isEmpty=true:=Array.isEmpty_iff_size_eq_zero.mpr s2
 have e1:¬ i1.isEmpty=true:=fun z=>h1 (List.length_eq_zero_iff.mp (s1.symm.trans (Array.isEmpty_iff_size_eq_zero.mp z)))
 exact concat_meets ⟨_,o1,rfl⟩ ⟨_,o2,rfl⟩ noFill_tuple_add seq_tuple_add PySem.F.slot_tuple_add PySem.F.entry_tuple_add (PySem.F.args_tuple_add_2 _ _) (tuple_addW1 a b i1 i2 m1 m2 none none #[] #[] e1 e2) ⟨o1,o2,out_here X rr q⟩
theorem mkInt_ {M:Model} {i:Int} {P:Value→Shared→Prop} {Er:Value→Shared→Prop} (h:P (.int i s.toks) { s with toks:=s.toks+1 }):wpAny M A (mkInt i) P Er s:=fun o_ o_ o_=>h
noncomputable def NoGo (_:Expr):Prop:=True
theorem subTail {prog:Program} {w:World} {A:Around} {Er:Value→Shared→Prop} {s:Shared} {value slice:Expr} {o i:Value} {T id:String} {P:Value→Shared→Prop} (hT:s.TypeIs o T)
  (hl:typeLookup (.type T) "__getitem__" = pure (some (.builtin id))) (h:wpAny (model prog w) A (getItem o i) P Er s) (hs:subscripted slice false o i=operate [o,i] (getItem o i)):wpAny (model prog w) A (subscriptTail value slice o i) P Er s:=by
 skip
 refine wpAny_bind ?_
 rw [getitemInPython_of_ne hT.not_modules]
 refine wpAny_bind (wpAny_specialOf hT hl ?_)
 refine wpAny_pure ?_
 refine wpAny_bind ?_
 rw [hs]
 exact wpAny_operating (wpAny_mono h (fun r s₃ h₃=>wpAny_bind (wpAny_letTemporaryGo (wpAny_pure h₃))) fun o_ o_ x=>x)
theorem sub_slice {prog:Program} {w:World} {A:Around} {env:Env} {Er:Value→Shared→Prop} {s:Shared} {value:Expr} {lower upper:Option Expr} {p pos:Pos} {T id:String} {P:Value→Shared→Prop} (hl:typeLookup (.type T) "__getitem__" = pure (some (.builtin id)))
  (h:wpAny (model prog w) A (eval value env) (fun o s₁=>wpAny (model prog w) A (eval (.Slice lower upper none p) env) (fun i s₂=>s₂.TypeIs o T∧wpAny (model prog w) A (getItem o i) P Er s₂) Er s₁) Er s) :
  wpAny (model prog w) A (eval (.Subscript value (.Slice lower upper none p) pos) env) P Er s:=by
 rw [eval_Subscript]
 refine wpAny_bind (wpAny_mono h (fun o s₁ h₁=>wpAny_bind (wpAny_holding (wpAny_mono h₁ (fun i s₂ h₂=>wpAny_bind (wpAny_standAt ?_)) fun o_ o_ x=>x))) fun o_ o_ x=>x)
 have fin:wpAny (model prog w) A (operate [i,o] (getItem o i)) (fun r s₃=>wpAny (model prog w) A (letTemporaryGo value o r >>= fun o_=>pure r) P Er s₃) Er s₂:=
  wpAny_operating (wpAny_mono h₂.2 (fun r s₃ h₃=>wpAny_bind (wpAny_letTemporaryGo (wpAny_pure h₃))) fun o_ o_ x=>x)
 refine wpAny_bind ?_
 rw [getitemInPython_of_ne h₂.1.not_modules]
 refine wpAny_bind (wpAny_specialOf h₂.1 hl ?_)
 first
  | exact wpAny_pure (wpAny_bind fin)
  | exact wpAny_bind (wpAny_pure (wpAny_bind fin))
  | exact wpAny_bind fin
theorem seqIdx {k:Int} {m:Nat} (h0:0≤k) (h1:k<m):seqIndex? k m=some k.toNat:=by
 delta seqIndex?
 simp only [if_neg (Int.not_lt.mpr h0)]
 rw [if_pos (by simp [h0,h1])]
theorem P2_item {value slice:Expr} {v c u:V} {l:List V} {k:Int} (hv:lk σ v=some c) (hc:seqOf c=some l) (h0:0≤k) (hz:l.length≤1000000) (hu:l[k.toNat]? = some u) (q:Q u σ)
  (hs:∀ (a:Addr) t,subscripted slice false (.ref a) (.int k t)=operate [.ref a,.int k t] (getItem (.ref a) (.int k t)):=by intro _ _;with_unfolding_all rfl) (hg:NoGo value:=by exact trivial) :
  P2 cx n σ (subscriptTail value slice) v (.int k) Q:=fun B A s x y rd X r r'=>by
 obtain ⟨t,rfl⟩:=of_int r'
 have g:=looked X r hv (fun a q=>by subst q;contradiction)
 have hk:k<l.length:=by
  rcases Int.lt_or_le k l.length with h|h
  ·exact h
  ·rw [List.getElem?_eq_none ((Int.le_toNat h0).mpr h)] at hu;contradiction
 have hb:k<2 ^ 63:=Int.lt_of_lt_of_le hk (Int.le_trans (Int.ofNat_le.mpr hz) (by decide))
 rcases seqOf_inv hc with rfl|rfl
 ·obtain ⟨a,items,m,rfl,_,ho,hl⟩:=g
  have hsz:items.size=l.length:=items_size hl
  obtain ⟨z,ez,hz'⟩:=RpL_get hl hu
  exact subTail (T := "tuple") ⟨_,ho,rfl⟩ slot_tuple_getitem.lookup (getItem_tuple (j:=k.toNat) (x:=z) ⟨_,ho,rfl,m,rfl⟩ (Int.le_trans (by decide) h0) hb (seqIdx h0 (hsz.symm▸hk)) (Array.getElem?_toList.symm.trans ez) (out_here X hz' q)) (hs _ _)
 ·obtain ⟨a,items,m,rfl,_,ho,hl⟩:=g
  have hsz:items.size=l.length:=items_size hl
  obtain ⟨z,ez,hz'⟩:=RpL_get hl hu
  exact subTail (T := "list") ⟨_,ho,rfl⟩ list_getitem_lookup (wpAny_getItem_list (x:=z) ⟨_,ho,rfl,m,rfl⟩ h0 hb (Array.getElem?_toList.symm.trans ez) (out_here X hz' q)) (hs _ _)
theorem P2_last {value slice:Expr} {v:V} {l:List V} {u:V} (hv:lk σ v=some (.lst (l++[u]))) (q:Q u σ)
  (hs:∀ (a:Addr) t,subscripted slice false (.ref a) (.int (-1) t)=operate [.ref a,.int (-1) t] (getItem (.ref a) (.int (-1) t))) (hg:NoGo value) :
  P2 cx n σ (subscriptTail value slice) v (.int (-1)) Q:=fun B A s x y rd X r r'=>by
 obtain ⟨t,rfl⟩:=of_int r'
 have g:=looked X r hv (fun a=>by exact nofun)
 obtain ⟨a,items,m,rfl,_,ho,hl⟩:=g
 have hsz:items.size=l.length+1:=(items_size hl).trans List.length_append
 obtain ⟨z,ez,hz'⟩:=RpL_get hl (i:=l.length) (v:=u) List.getElem?_concat_length
 refine subTail (Heap.IsList.typeIs ⟨_,ho,rfl,m,rfl⟩) list_getitem_lookup (wpAny_getItem_list_neg ⟨_,ho,rfl,m,rfl⟩ (by exact Int.natCast_nonneg _) (Int.neg_le_neg (Int.ofNat_le.mpr (hsz▸Nat.succ_pos _))) (by exact Int.natCast_nonneg _) (x:=z) ?_ (out_here X hz' q)) (hs _ _)
 rw [hsz,show (-1+((l.length+1:Nat):Int))=l.length from (congrArg (-1 + ·) (Int.natCast_succ _)).trans ((Int.add_comm _ _).trans (Int.add_neg_cancel_right _ 1)),Int.toNat_natCast]
 exact Array.getElem?_toList.symm.trans ez
theorem Ev_from1 {value:Expr} {k:Nat} {p p2 pos:Pos} (h:Ev cx n sc Γ σ value fun v σ₁=>∃ u l,v=.tup (u::l)∧l.length≤999999∧Q (.tup l) σ₁):Ev cx n sc Γ σ (.Subscript value (.Slice (some (.Constant (.int 1) k p2)) none none p) pos) Q:=fun B env A s rd X E=>by
 refine sub_slice (T := "tuple") slot_tuple_getitem.lookup (wpAny_mono (h B env A s rd X E) (fun x s₁ o=>?_) fun o_ o_ x=>x)
 obtain ⟨v,σ₁,X₁,S₁,r₁,u,l,rfl,hz,q⟩:=o
 obtain ⟨a,items,m,rfl,hb,ho,hl⟩:=r₁
 have hsz:items.size=l.length+1:=items_size hl
 refine wpAny_Slice ?_
 skip
 refine mkInt_ (wpAny_pure (wpAny_pure ?_))
 have ho':=push_keep s₁.heap { cls:=.type "slice",data:=.fields #[.int 1 s₁.toks,.none,.none] } _ _ ho
 refine ⟨⟨_,ho',rfl⟩,?_⟩
 refine getItem_tuple_from (a:=1) (u:=s₁.toks) ⟨_,ho',rfl,m,rfl⟩ (Heap.IsSliceOf.new ..) (Nat.le_refl _) (hsz▸Nat.succ_pos _) ?_ (sizeLine_big (hsz▸Nat.succ_le_succ hz))
 have kp:∀ b o,s₁.heap.get? b=some o→((s₁.heap.push { cls:=.type "slice",data:=.fields #[.int 1 s₁.toks,.none,.none] }).push (seqObj "tuple" (items.toList.drop 1).toArray 0)).get? b=some o:=fun b o e=>push_keep _ _ _ _ (push_keep _ _ _ _ e)
 have hl':RpL (cf cx B σ₁ s₁.heap) l (items.toList.drop 1):=by
  obtain ⟨x,r,e,_,hr⟩:=hl
  rw [e];exact hr
 have S:=step_all (σ:=σ₁) (s:=s₁) (s':={ s₁ with heap:=(s₁.heap.push { cls:=.type "slice",data:=.fields #[.int 1 s₁.toks,.none,.none] }).push (seqObj "tuple" (items.toList.drop 1).toArray 0),toks:=s₁.toks+1 }) kp
 refine ⟨.tup l,σ₁,X₁.all (s':={ s₁ with heap:=(s₁.heap.push { cls:=.type "slice",data:=.fields #[.int 1 s₁.toks,.none,.none] }).push (seqObj "tuple" (items.toList.drop 1).toArray 0),toks:=s₁.toks+1 }) kp rfl rfl,S₁.trans S,?_,q⟩
 refine ⟨_,_,_,rfl,fun o_=>?_,Heap.get?_push_size _ rfl,S.rpL hl'⟩
 have fr:s₁.heap.get? (s₁.heap.push { cls:=.type "slice",data:=.fields #[.int 1 s₁.toks,.none,.none] }).objs.size=none:=by
  rw [Heap.size_push]
  rcases e:s₁.heap.get? (s₁.heap.objs.size+1) with _|o
  ·rfl
  ·exact absurd (Heap.lt_size e) (Nat.not_lt.mpr (Nat.le_succ _))
 exact X₁.fresh fr
end
noncomputable def dget {K:Type} [DecidableEq K] (l:List (K×V)) (k:K):Option V:=(l.find? fun p=>decide (p.1=k)).map (·.2)
noncomputable def dput {K:Type} [DecidableEq K] (l:List (K×V)) (k:K) (v:V):List (K×V):=if (dget l k).isSome then l.map (fun p=>if p.1=k then (p.1,v) else p) else l++[(k,v)]
theorem items_kind {w:World} {prog:Program}:∀ {ks:List At} {xs:List Value},ItemsAre (atKind default w) ks xs↔ItemsAre (atKind prog w) ks xs
 | [],_=>⟨fun h=>by cases h;exact .nil,fun h=>by cases h;exact .nil⟩
 | k::ks,_=>⟨fun h=>by
   cases h with
   | cons h1 h2=>exact .cons h1 (items_kind.mp h2),fun h=>by
   cases h with
   | cons h1 h2=>exact .cons h1 (items_kind.mpr h2)⟩
noncomputable def XL (C:Cf):List (List At×V)→List (List At×Addr×Value)→Prop
 | [],xs=>xs=[]
 | (k,v)::l,xs=>∃ a x r,xs=(k,a,x)::r∧IsT C k a∧Rp C v x∧XL C l r
section
variable {C:Cf} {prog:Program}
theorem GT_XL:∀ {l:List (List At×V)} {es:List DictEntry},GT C l es→∃ xs,es=xs.map (entryOfKey (tupleKind (atKind prog C.w)))∧XL C l xs
 | [],_,h=>by subst h;exact ⟨[],rfl,rfl⟩
 | (k,v)::l,_,h=>by
  obtain ⟨a,x,r,rfl,hk,hv,h⟩:=h
  obtain ⟨xs,rfl,hx⟩:=GT_XL h
  exact ⟨(k,a,x)::xs,rfl,a,x,xs,rfl,hk,hv,hx⟩
theorem XL_GT:∀ {l:List (List At×V)} {xs:List (List At×Addr×Value)},XL C l xs→GT C l (xs.map (entryOfKey (tupleKind (atKind prog C.w))))
 | [],_,h=>by skip;subst h;exact rfl
 | (k,v)::l,_,h=>by
  skip
  obtain ⟨a,x,r,rfl,hk,hv,h⟩:=h
  exact ⟨a,x,_,rfl,hk,hv,XL_GT h⟩
theorem XL_keys:∀ {l:List (List At×V)} {xs:List (List At×Addr×Value)},XL C l xs→xs.map (·.1)=l.map (·.1)
 | [],_,h=>by skip;subst h;rfl
 | (k,v)::l,_,h=>by
  skip
  obtain ⟨a,x,r,rfl,hk,hv,h⟩:=h
  simp [XL_keys h]
theorem XL_is:∀ {l:List (List At×V)} {xs:List (List At×Addr×Value)},XL C l xs→∀ x∈xs,IsT C x.1 x.2.1
 | [],_,h,x,hx=>by skip;subst h;contradiction
 | (k,v)::l,_,h,x,hx=>by
  skip
  obtain ⟨a,y,r,rfl,hk,hv,h⟩:=h
  rcases List.mem_cons.mp hx with rfl|hx
  ·exact hk
  ·exact XL_is h x hx
theorem XL_some {k:List At} {v:V}:∀ {l:List (List At×V)} {xs:List (List At×Addr×Value)},XL C l xs→dget l k=some v→∃ p,atKey xs k=some p∧Rp C v p.2
 | [],_,h,e=>by contradiction
 | (k',u)::l,_,h,e=>by
  skip
  obtain ⟨a,y,r,rfl,hk,hv,h⟩:=h
  delta dget at e
  unfold atKey
  by_cases q:k'=k
  ·rw [List.find?_cons_of_pos (by simpa using q)] at e
   rw [List.find?_cons_of_pos (by simpa using q)]
   simp at e;subst e
   exact ⟨_,rfl,hv⟩
  ·rw [List.find?_cons_of_neg (by simpa using q)] at e
   rw [List.find?_cons_of_neg (by simpa using q)]
   exact XL_some h e
theorem XL_none {k:List At}:∀ {l:List (List At×V)} {xs:List (List At×Addr×Value)},XL C l xs→dget l k=none→atKey xs k=none
 | [],_,h,e=>by skip;subst h;rfl
 | (k',u)::l,_,h,e=>by
  skip
  obtain ⟨a,y,r,rfl,hk,hv,h⟩:=h
  delta dget at e
  unfold atKey
  by_cases q:k'=k
  ·rw [List.find?_cons_of_pos (by simpa using q)] at e
   contradiction
  ·rw [List.find?_cons_of_neg (by simpa using q)] at e
   rw [List.find?_cons_of_neg (by simpa using q)]
   exact XL_none h e
theorem XL_map {k:List At} {v:V} {x:Value} (hv:Rp C v x):∀ {l:List (List At×V)} {xs:List (List At×Addr×Value)},XL C l xs→XL C (l.map fun p=>if p.1=k then (p.1,v) else p) (xs.map (putAt k x))
 | [],_,h=>by skip;subst h;rfl
 | (k',u)::l,_,h=>by
  skip
  obtain ⟨a,y,r,rfl,hk,hu,h⟩:=h
  simp only [List.map_cons]
  delta putAt
  by_cases q:k'=k
  ·rw [if_pos q,if_pos q];exact ⟨a,x,_,rfl,hk,hv,XL_map hv h⟩
  ·rw [if_neg q,if_neg q];exact ⟨a,y,_,rfl,hk,hu,XL_map hv h⟩
theorem XL_snoc {k:List At} {v:V} {a:Addr} {x:Value} (hk:IsT C k a) (hv:Rp C v x):∀ {l:List (List At×V)} {xs:List (List At×Addr×Value)},XL C l xs→XL C (l++[(k,v)]) (xs++[(k,a,x)])
 | [],_,h=>by skip;subst h;exact ⟨a,x,[],rfl,hk,hv,rfl⟩
 | (k',u)::l,_,h=>by
  skip
  obtain ⟨b,y,r,rfl,hk',hu,h⟩:=h
  exact ⟨b,y,_,rfl,hk',hu,XL_snoc hk hv h⟩
theorem XL_put {l:List (List At×V)} {xs:List (List At×Addr×Value)} {k:List At} {v:V} {a:Addr} {x:Value} (h:XL C l xs) (hk:IsT C k a) (hv:Rp C v x):XL C (dput l k v) (storedH xs k a x):=by
 delta dput storedH
 rcases e:dget l k with _|u
 ·
  rw [XL_none h e]
  exact XL_snoc hk hv h
 ·
  obtain ⟨p,hp,_⟩:=XL_some h e
  rw [hp]
  exact XL_map hv h
theorem IsT_key {k:List At} {a:Addr} (h:IsT C k a):IsTupleKey (atKind prog C.w) C.h k a:=by
 obtain ⟨_,items,n,ho,hi⟩:=h
 exact ⟨_,items,n,ho,rfl,rfl,items_kind.mp hi⟩
theorem XL_dict {l:List (List At×V)} {xs:List (List At×Addr×Value)} {d:Addr} {ep:Nat} (h:XL C l xs) (ho:C.h.get? d=some (dictOf (xs.map (entryOfKey (tupleKind (atKind prog C.w)))) ep)) (hn:(l.map (·.1)).Nodup):C.h.DictOfH (tupleKind (atKind prog C.w)) d xs:=
 ⟨_,_,ep,ho,⟨rfl,rfl,rfl⟩,rfl,by simp,fun x hx=>IsT_key (XL_is h x hx),by rw [XL_keys h];exact hn⟩
theorem of_dT {f:Bool} {l:List (List At×V)} {a:Addr} (h:G C f (.dT l) (.ref a)):∃ xs ep,C.h.get? a=some (dictOf (xs.map (entryOfKey (tupleKind (atKind prog C.w)))) ep)∧XL C l xs∧(l.map (·.1)).Nodup∧(a==sysModules)=false:=by
 obtain ⟨b,es,m,e,_,ho,hl,hn,hd⟩:=h
 (injection e with e;subst e)
 obtain ⟨xs,rfl,hx⟩:=GT_XL (prog:=prog) hl
 exact ⟨xs,m,ho,hx,hn,hd⟩
theorem exact_dict {h:Heap} {d:Addr} {knd:HeapKind prog C.w (List At)} {xs:List (List At×Addr×Value)} (hm:h.DictOfH knd d xs):∃ ep,h.get? d=some (dictOf (xs.map (entryOfKey knd)) ep):=by
 obtain ⟨⟨cls,dd,data,sl⟩,es,ep,ho,⟨h1,h2,h3⟩,hd,he,_,_⟩:=hm
 simp only at h1 h2 h3 hd
 subst h1 h2 h3 hd
 refine ⟨ep,?_⟩
 rw [ho,← he]
theorem dput_nodup {l:List (List At×V)} {k:List At} {v:V} (h:(l.map (·.1)).Nodup):((dput l k v).map (·.1)).Nodup:=by
 delta dput
 rcases e:dget l k with _|u
 ·
  simp only [Option.isSome_none,Bool.false_eq_true,if_false]
  rw [List.map_append,List.nodup_append]
  refine ⟨h,by simp,fun x hx y hy=>?_⟩
  simp at hy;subst hy
  rintro rfl
  delta dget at e
  obtain ⟨p,hp,rfl⟩:=List.mem_map.mp hx
  simp at e
  exact e _ _ hp rfl
 ·
  simp only [Option.isSome_some,if_true]
  have:(l.map (fun p=>if p.1=k then (p.1,v) else p)).map (·.1)=l.map (·.1):=by
   rw [List.map_map]
   refine List.map_congr_left fun p o_=>?_
   show (if p.1=k then (p.1,v) else p).1=p.1
   split <;> rfl
  rw [this];exact h
end
section
variable {cx:Cx} {n:Nat} {sc:Scope} {Γ:Str→Option V} {σ σ':Store} {B B':Addr→Prop} {s s':Shared} {A:Around} {Q:V→Store→Prop}
noncomputable abbrev knd (cx:Cx):HeapKind cx.prog cx.w (List At):=tupleKind (atKind cx.prog cx.w)
theorem room1 (rd:Rd n A):(knd cx).room A.in1:=tupleKind_room_in1 (by have:=rd.2.2;show _<9900;omega)
theorem key_ref {C:Cf} {k:List At} {y:Value} (r:Rp C (T k) y):∃ a,y=.ref a∧IsT C k a:=by
 have r':=r
 obtain ⟨a,items,m,rfl,_⟩:=r'
 exact ⟨a,rfl,IsT_rp.mpr r⟩
theorem P2_inT {v:V} {k:List At} {l:List (List At×V)} (hv:lk σ v=some (.dT l)) (q:Q (.bool (dget l k).isSome) σ):P2 cx n σ (compareOp .In) (T k) v Q:=fun B A s x y rd X r r'=>by
 obtain ⟨a,rfl,hk⟩:=key_ref r
 have g:=looked X r' hv (fun b=>by simp)
 have g':=g
 obtain ⟨d,_,_,rfl,_⟩:=g'
 obtain ⟨xs,ep,ho,hx,hn,hd⟩:=of_dT (prog:=cx.prog) g
 have e:(atKey xs k).isSome=(dget l k).isSome:=by
  rcases e:dget l k with _|u
  ·rw [XL_none hx e];rfl
  ·obtain ⟨p,hp,_⟩:=XL_some hx e;rw [hp];rfl
 refine wpAny_in_heap (knd:=knd cx) (room1 rd) (IsT_key hk) hd (XL_dict hx ho hn) ?_
 rw [e]
 exact out_tok X (rp_bool _) q
theorem notIn_heap {prog:Program} {w:World} {K:Type} [DecidableEq K] {knd:HeapKind prog w K} {E:Value→Shared→Prop} {d a:Addr} {k:K} {xs:List (K×Addr×Value)} {Q:Value→Shared→Prop} (hu:knd.room A.in1) (hkey:knd.is s.heap k a) (hd:(d==sysModules)=false) (hm:s.heap.DictOfH knd d xs)
  (h:Q (.bool !(atKey xs k).isSome) { s with toks:=s.toks+knd.draws k }):wpAny (model prog w) A (compareOp .NotIn (.ref a) (.ref d)) Q E s:=by
 skip
 refine wpAny_bind ?_
 delta contains
 try with_reducible refine wpAny_holding ?_
 refine wpAny_bind (wpAny_specialOf hm.typeIs slot_dict_contains.lookup ?_)
 skip
 rw [if_neg (by rw [beq_builtin_none];exact Bool.false_ne_true)]
 refine wpAny_bind (wpAny_callSpecialUnlessNone?_slot (name:=Str.ofString "__contains__") hm.typeIs slot_dict_contains
  (wpAny_call_entry slot_dict_contains hm.typeIs entry_dict_contains ?_ (args_dict_contains _ _)))
 show wpAny _ _ (dictGet d (.ref a) >>= _) _ _ s
 refine wpAny_bind (wpAny_dictGet_heap hu hkey hm ?_)
 rcases hf:atKey xs k with _|p
 ·
  rw [hf] at h
  skip
  exact wpAny_bind (wpAny_pendingKey_other hd (wpAny_pure ⟨_,rfl,wpAny_truthy_bool (wpAny_pure h)⟩))
 ·
  rw [hf] at h
  skip
  exact wpAny_pure ⟨_,rfl,wpAny_truthy_bool (wpAny_pure h)⟩
theorem P2_notinT {v:V} {k:List At} {l:List (List At×V)} (hv:lk σ v=some (.dT l)) (q:Q (.bool !(dget l k).isSome) σ):P2 cx n σ (compareOp .NotIn) (T k) v Q:=fun B A s x y rd X r r'=>by
 obtain ⟨a,rfl,hk⟩:=key_ref r
 have g:=looked X r' hv (fun b=>by simp)
 have g':=g
 obtain ⟨d,_,_,rfl,_⟩:=g'
 obtain ⟨xs,ep,ho,hx,hn,hd⟩:=of_dT (prog:=cx.prog) g
 have e:(atKey xs k).isSome=(dget l k).isSome:=by
  rcases e:dget l k with _|u
  ·rw [XL_none hx e];rfl
  ·obtain ⟨p,hp,_⟩:=XL_some hx e;rw [hp];rfl
 refine notIn_heap (knd:=knd cx) (room1 rd) (IsT_key hk) hd (XL_dict hx ho hn) ?_
 rw [e]
 exact out_tok X (rp_bool _) q
theorem P2_itemT {value slice:Expr} {v u:V} {k:List At} {l:List (List At×V)} (hv:lk σ v=some (.dT l)) (hu:dget l k=some u) (q:Q u σ)
  (hs:∀ (a b:Addr),subscripted slice false (.ref a) (.ref b)=operate [.ref a,.ref b] (getItem (.ref a) (.ref b)):=by intro _ _;with_unfolding_all rfl) (hg:NoGo value:=by exact trivial) :
  P2 cx n σ (subscriptTail value slice) v (T k) Q:=fun B A s x y rd X r r'=>by
 obtain ⟨a,rfl,hk⟩:=key_ref r'
 have g:=looked X r hv (fun b=>by simp)
 have g':=g
 obtain ⟨d,_,_,rfl,_⟩:=g'
 obtain ⟨xs,ep,ho,hx,hn,hd⟩:=of_dT (prog:=cx.prog) g
 obtain ⟨p,hp,rp⟩:=XL_some hx hu
 have D:=XL_dict (prog:=cx.prog) hx ho hn
 exact subTail D.typeIs slot_dict_getitem.lookup (wpAny_getItem_heap (knd:=knd cx) (room1 rd) (IsT_key hk) D hp (out_tok X rp q)) (hs _ _)
theorem Cl_getT {v u:V} {k:List At} {l:List (List At×V)} (hv:lk σ v=some (.dT l)) (q:Q ((dget l k).getD u) σ):Cl cx n σ (.builtin "dict.get") [v,T k,u] Q:=fun B A s ys rd X r=>by
 obtain ⟨x,_,rfl,hx0,y,_,rfl,hy0,z,_,rfl,hz0,rfl⟩:=r
 obtain ⟨a,rfl,hk⟩:=key_ref hy0
 have g:=looked X hx0 hv (fun b=>by simp)
 have g':=g
 obtain ⟨d,_,_,rfl,_⟩:=g'
 obtain ⟨xs,ep,ho,hx,hn,hd⟩:=of_dT (prog:=cx.prog) g
 have D:=XL_dict (prog:=cx.prog) hx ho hn
 refine wpAny_call (codeAny_call_builtin PySem.F.slot_dict_get.plain PySem.F.entry_dict_get (PySem.F.slot_dict_get.check _ _ _ _ _ _ _ _ D.typeIs (PySem.F.args_dict_get_3 _ _ _) (meetsH_dict_get_default (knd cx) d a hd z A (wants _ NoE) s ⟨room1 rd,k,xs,IsT_key hk,D,?_⟩)))
 rcases e:dget l k with _|w
 ·
  rw [XL_none hx e]
  rw [e] at q
  exact out_tok X hz0 q
 ·
  obtain ⟨p,hp,rp⟩:=XL_some hx e
  rw [hp]
  rw [e] at q
  exact out_tok X rp q
noncomputable def PS (cx:Cx) (n:Nat) (σ:Store) (o i v:V) (σ':Store):Prop:=
 ∀ (B:Addr→Prop) (A:Around) (s:Shared) (x y z:Value),Rd n A→St cx B σ s→Rp (cf cx B σ s.heap) o x→Rp (cf cx B σ s.heap) i y→Rp (cf cx B σ s.heap) v z →
  wpAny (model cx.prog cx.w) A (setItem x y z) (fun o_ s'=>St cx B σ' s'∧Step σ s.heap σ' s'.heap) NoE s
theorem set_state {a:Addr} {v v':V} {h':Heap} {tk:Nat} (X:St cx B σ s) (e:σ a=some v) (k:∀ b o,b≠a→s.heap.get? b=some o→h'.get? b=some o) (hm:v'.isMut=true)
  (hv:Step σ s.heap (σ.set a v') h'→G (cf cx B (σ.set a v') h') false v' (.ref a)) (la:∃ o,h'.get? a=some o) :
  St cx B (σ.set a v') { s with heap:=h',toks:=tk }∧Step σ s.heap (σ.set a v') h':=by
 have S:Step σ s.heap (σ.set a v') h':=set_step (s:=s) (s':={ s with heap:=h',toks:=tk }) e la k
 exact ⟨X.set (s':={ s with heap:=h',toks:=tk }) e k rfl rfl hm (hv S),S⟩
theorem dT_of {C:Cf} {prog:Program} {l:List (List At×V)} {d:Addr} {xs:List (List At×Addr×Value)} (hx:XL C l xs) (hm:C.h.DictOfH (tupleKind (atKind prog C.w)) d xs) (hn:(l.map (·.1)).Nodup) (hd:(d==sysModules)=false):G C false (.dT l) (.ref d):=by
 obtain ⟨ep,ho⟩:=exact_dict hm
 exact ⟨d,_,ep,rfl,fun e=>(by contradiction),ho,XL_GT hx,hn,hd⟩
theorem XL_step {S:Step σ s.heap σ' s'.heap}:∀ {l:List (List At×V)} {xs:List (List At×Addr×Value)},XL (cf cx B σ s.heap) l xs→XL (cf cx B σ' s'.heap) l xs
 | [],_,h=>h
 | (k,v)::l,_,h=>by
  obtain ⟨a,x,r,rfl,hk,hv,h⟩:=h
  exact ⟨a,x,r,rfl,hk.mono (C:=cf cx B σ s.heap) (C':=cf cx B σ' s'.heap) rfl (S.kept (cx:=cx) (B:=B)),S.rp hv,XL_step (S:=S) h⟩
theorem PS_T {a:Addr} {k:List At} {u:V} {l:List (List At×V)} (e:σ a=some (.dT l)) (hz:l.length≤1000000):PS cx n σ (.ref a) (T k) u (σ.set a (.dT (dput l k u))):=fun B A s x y z rd X r r' r''=>by
 rw [of_ref r]
 obtain ⟨b,rfl,hk⟩:=key_ref r'
 obtain ⟨xs,ep,ho,hx,hn,hd⟩:=of_dT (prog:=cx.prog) (X.own a _ e).2.2.2
 have D:=XL_dict (prog:=cx.prog) hx ho hn
 have hlen:xs.length=l.length:=by have:=congrArg List.length (XL_keys hx);simpa using this
 refine wpAny_setItem_heap (hsz:=sizeLine_big (by omega)) (knd:=knd cx) (room1 rd) (IsT_key hk) D fun h' hm hs=>?_
 obtain ⟨ep',ho'⟩:=exact_dict (C:=cf cx B σ s.heap) hm
 exact set_state X e (fun b o hb q=>(hs.2 b hb).trans q) rfl (fun S=>dT_of (C:=cf cx B (σ.set a (.dT (dput l k u))) h') (XL_put (XL_step (s':={ s with heap:=h' }) (S:=S) hx) (hk.mono (C:=cf cx B σ s.heap) (C':=cf cx B (σ.set a (.dT (dput l k u))) h') rfl (S.kept (cx:=cx) (B:=B))) (S.rp r'')) hm (dput_nodup hn) hd) ⟨_,ho'⟩
theorem setDefault_heap {prog:Program} {w:World} {K:Type} [DecidableEq K] {knd:HeapKind prog w K} {E:Value→Shared→Prop} {d a:Addr} {k:K} {xs:List (K×Addr×Value)} {v:Value} {Q:Value→Shared→Prop} (hu:knd.room A) (hkey:knd.is s.heap k a) (hm:s.heap.DictOfH knd d xs)
  (h1:∀ p,atKey xs k=some p→Q p.2 { s with toks:=s.toks+knd.draws k })
  (h2:atKey xs k=none→∀ h',h'.DictOfH knd d (storedH xs k a v)→Heap.SameBut d s.heap h'→Q v { s with heap:=h',toks:=s.toks+knd.draws k })
  (hsz:xs.length≤sizeLine):wpAny (model prog w) A (dictSetDefault d (.ref a) v) Q E s:=by
 obtain ⟨o,es,ep,ho,hc,hd,he,his,hn⟩:=hm
 delta dictSetDefault
 try with_reducible refine wpAny_holding ?_
 refine wpAny_bind (knd.pyHash hu hkey ?_)
 refine wpAny_bind (wpAny_dictFind_heap (s:={ s with toks:=s.toks+knd.draws k }) hu hkey ho hd he his hn ?_ ?_)
 ·intro hno
  have hnot:k∉xs.map (·.1):=not_mem_keys_of_get hno
  refine wpAny_bind (wpAny_rule (wpAny_bind (wpAny_updateDictKeys (hz:=by have e:=size_of_entries he;omega) (s:={ s with toks:=s.toks+knd.draws k }) ho hd (wpAny_pure (h2 (atKey_none_of_get hno) _ ⟨_,_,ep+1,Heap.get?_update_self _ ho (Obj.isFreed_of_dict (Obj.data_mapDictKeys hd _)),
   hc.mapDictKeys _,Obj.data_mapDictKeys hd _,?_,?_,?_⟩ (Heap.SameBut.update ..))))))
  ·rw [storedH_new (atKey_none_of_get hno)]
   simp [he,entryOfKey]
  ·rw [storedH_new (atKey_none_of_get hno)]
   intro x hx
   rcases List.mem_append.mp hx with hx|hx
   ·exact knd.keeps (his x hx) ho hd (Heap.SameBut.update ..)
   ·simp only [List.mem_singleton] at hx
    subst hx
    exact knd.keeps hkey ho hd (Heap.SameBut.update ..)
  ·rw [storedH_new (atKey_none_of_get hno)]
   rw [List.map_append,List.nodup_append]
   refine ⟨hn,by simp,?_⟩
   intro x hx y hy
   simp only [List.map_cons,List.map_nil,List.mem_singleton] at hy
   subst hy
   exact fun e=>hnot (e▸hx)
 ·intro j p hj
  refine wpAny_bind (wpAny_dictEntries (s:={ s with toks:=s.toks+knd.draws k }) ho hd ?_)
  rw [entry_at he j,hj]
  exact wpAny_bind (wpAny_rule (wpAny_pure (h1 p (atKey_of_get hn hj))))
theorem Cl_setdefT {a:Addr} {k:List At} {u:V} {l:List (List At×V)} (e:σ a=some (.dT l)) (hz:l.length≤1000000) (q1:∀ v,dget l k=some v→Q v σ) (q2:dget l k=none→Q u (σ.set a (.dT (dput l k u)))) :
  Cl cx n σ (.builtin "dict.setdefault") [.ref a,T k,u] Q:=fun B A s ys rd X r=>by
 obtain ⟨x,_,rfl,hx0,y,_,rfl,hy0,z,_,rfl,hz0,rfl⟩:=r
 rw [of_ref hx0]
 obtain ⟨b,rfl,hk⟩:=key_ref hy0
 obtain ⟨xs,ep,ho,hx,hn,hd⟩:=of_dT (prog:=cx.prog) (X.own a _ e).2.2.2
 have D:=XL_dict (prog:=cx.prog) hx ho hn
 have hlen:xs.length=l.length:=by have:=congrArg List.length (XL_keys hx);simpa using this
 refine wpAny_call_entry PySem.F.slot_dict_setdefault D.typeIs PySem.F.entry_dict_setdefault ?_ (PySem.F.args_dict_setdefault_3 _ _ _)
 skip
 refine wpAny_bind ?_
 skip
 refine wpAny_bind (wpAny_notOrdered_dict D.typeIs ?_)
 skip
 refine wpAny_pure ?_
 show wpAny _ _ (if (a==sysModules)=true then _ else (dictSetDefault a (.ref b) z >>= _)) _ _ s
 rw [if_neg (by rw [hd];exact Bool.false_ne_true)]
 refine wpAny_bind (setDefault_heap (knd:=knd cx) (room1 rd) (IsT_key hk) D (fun p hp=>?_) (fun hno h' hm hs=>?_) (sizeLine_big (by omega)))
 ·have:dget l k≠none:=fun e=>by rw [XL_none hx e] at hp;contradiction
  obtain ⟨v,hv⟩:=Option.ne_none_iff_exists'.mp this
  obtain ⟨p',hp',rp⟩:=XL_some hx hv
  rw [hp] at hp';(injection hp' with hp';subst hp')
  exact wpAny_pure ⟨_,rfl,out_tok X rp (q1 v hv)⟩
 ·have hnone:dget l k=none:=by
   rcases e:dget l k with _|v
   ·rfl
   ·obtain ⟨p',hp',_⟩:=XL_some hx e;rw [hno] at hp';contradiction
  obtain ⟨ep',ho'⟩:=exact_dict (C:=cf cx B σ s.heap) hm
  refine wpAny_pure ⟨_,rfl,?_⟩
  exact out_set X e (fun b o hb q=>(hs.2 b hb).trans q) rfl (fun S=>dT_of (C:=cf cx B (σ.set a (.dT (dput l k u))) h') (XL_put (XL_step (s':={ s with heap:=h' }) (S:=S) hx) (hk.mono (C:=cf cx B σ s.heap) (C':=cf cx B (σ.set a (.dT (dput l k u))) h') rfl (S.kept (cx:=cx) (B:=B))) (S.rp hz0)) hm (dput_nodup hn) hd) ⟨_,ho'⟩ (fun S=>S.rp hz0) (q2 hnone)
theorem sys_lt (X:St cx B σ s):(s.heap.objs.size==sysModules)=false:=by
 obtain ⟨o,_,_,ho,_⟩:=cx.g.keeps X.keep
 have:=Heap.lt_size ho
 have h3:(mainGlobals:Nat)≥2:=by decide
 have hs:s.heap.objs.size≠1:=by
  have h4:(mainGlobals:Nat)<s.heap.objs.size:=this
  intro e
  rw [e] at h4
  exact absurd (Nat.lt_of_lt_of_le h4 (by decide)) (Nat.not_lt.mpr h3)
 simpa [sysModules] using hs
end
section
variable {K:Type} [DecidableEq K] {prog:Program} {w:World} (kk:KeyKind prog w K) (C:Cf)
noncomputable def GKs:List (K×V)→List DictEntry→Prop
 | [],es=>es=[]
 | (k,v)::l,es=>∃ key x r,es=⟨kk.hash k,key,x⟩::r∧kk.is k key=true∧Rp C v x∧GKs l r
noncomputable def KL:List (K×V)→List (K×Value)→Prop
 | [],xs=>xs=[]
 | (k,v)::l,xs=>∃ x r,xs=(k,x)::r∧Rp C v x∧KL l r
end
noncomputable def ddel {K:Type} [DecidableEq K] (l:List (K×V)) (k:K):List (K×V):=l.filter fun p=>decide (p.1≠k)
section
variable {K:Type} [DecidableEq K] {prog:Program} {w:World} {kk:KeyKind prog w K} {C:Cf}
theorem GKs_pairs:∀ {l:List (K×V)} {es:List DictEntry},GKs kk C l es→∃ kvs,Pairs kk es kvs∧KL C l kvs∧∀ e∈es,∃ k,kk.is k e.key=true∧e.hash=kk.hash k
 | [],_,h=>by skip;subst h;exact ⟨[],.nil,rfl,fun e he=>by contradiction⟩
 | (k,v)::l,_,h=>by
  skip
  obtain ⟨key,x,r,rfl,hk,hv,h⟩:=h
  obtain ⟨kvs,h1,h2,h3⟩:=GKs_pairs h
  refine ⟨(k,x)::kvs,.cons hk rfl h1,⟨x,kvs,rfl,hv,h2⟩,fun e he=>?_⟩
  rcases List.mem_cons.mp he with rfl|he
  ·exact ⟨k,hk,rfl⟩
  ·exact h3 e he
theorem KL_GKs:∀ {l:List (K×V)} {kvs:List (K×Value)} {es:List DictEntry},KL C l kvs→Pairs kk es kvs→(∀ e∈es,∃ k,kk.is k e.key=true∧e.hash=kk.hash k)→GKs kk C l es
 | [],_,es,h,hp,hk=>by skip;subst h;cases hp;rfl
 | (k,v)::l,_,es,h,hp,hk=>by
  skip
  obtain ⟨x,r,rfl,hv,h⟩:=h
  cases hp with
  | @cons e _ es' _ h1 h2 h3=>
   obtain ⟨k',q1,q2⟩:=hk e (.head _)
   have:k'=k:=kk.inj _ _ _ q1 h1
   subst this
   obtain ⟨hsh,key,val⟩:=e
   simp only at q1 q2 h1 h2
   subst q2 h2
   exact ⟨key,val,es',rfl,h1,hv,KL_GKs h h3 fun e he=>hk e (.tail _ he)⟩
theorem KL_keys:∀ {l:List (K×V)} {xs:List (K×Value)},KL C l xs→xs.map (·.1)=l.map (·.1)
 | [],_,h=>by skip;subst h;rfl
 | (k,v)::l,_,h=>by
  skip
  obtain ⟨x,r,rfl,hv,h⟩:=h
  simp [KL_keys h]
theorem KL_some {k:K} {v:V}:∀ {l:List (K×V)} {xs:List (K×Value)},KL C l xs→dget l k=some v→∃ x,valueAt xs k=some x∧Rp C v x
 | [],_,h,e=>by contradiction
 | (k',u)::l,_,h,e=>by
  skip
  obtain ⟨y,r,rfl,hv,h⟩:=h
  delta dget at e
  unfold valueAt
  by_cases q:k'=k
  ·rw [List.find?_cons_of_pos (by simpa using q)] at e
   rw [List.find?_cons_of_pos (by simpa using q)]
   simp at e;subst e
   exact ⟨_,rfl,hv⟩
  ·rw [List.find?_cons_of_neg (by simpa using q)] at e
   rw [List.find?_cons_of_neg (by simpa using q)]
   exact KL_some h e
theorem KL_map {k:K} {v:V} {x:Value} (hv:Rp C v x):∀ {l:List (K×V)} {xs:List (K×Value)},KL C l xs→KL C (l.map fun p=>if p.1=k then (p.1,v) else p) (xs.map fun kv=>if kv.1=k then (kv.1,x) else kv)
 | [],_,h=>by skip;subst h;rfl
 | (k',u)::l,_,h=>by
  skip
  obtain ⟨y,r,rfl,hu,h⟩:=h
  simp only [List.map_cons]
  by_cases q:k'=k
  ·rw [if_pos q,if_pos q];exact ⟨x,_,rfl,hv,KL_map hv h⟩
  ·rw [if_neg q,if_neg q];exact ⟨y,_,rfl,hu,KL_map hv h⟩
theorem KL_snoc {k:K} {v:V} {x:Value} (hv:Rp C v x):∀ {l:List (K×V)} {xs:List (K×Value)},KL C l xs→KL C (l++[(k,v)]) (xs++[(k,x)])
 | [],_,h=>by skip;subst h;exact ⟨x,[],rfl,hv,rfl⟩
 | (k',u)::l,_,h=>by
  skip
  obtain ⟨y,r,rfl,hu,h⟩:=h
  exact ⟨y,_,rfl,hu,KL_snoc hv h⟩
theorem KL_any {k:K}:∀ {l:List (K×V)} {xs:List (K×Value)},KL C l xs→xs.any (fun kv=>decide (kv.1=k))=(dget l k).isSome
 | [],_,h=>by skip;subst h;rfl
 | (k',u)::l,_,h=>by
  skip
  obtain ⟨y,r,rfl,hu,h⟩:=h
  delta dget
  by_cases q:k'=k
  ·rw [List.find?_cons_of_pos (by simpa using q)];simp [q]
  ·rw [List.find?_cons_of_neg (by simpa using q)]
   have:=KL_any (k:=k) h
   skip
   simp only [List.any_cons,q,decide_false,Bool.false_or]
   exact this
theorem KL_put {l:List (K×V)} {xs:List (K×Value)} {k:K} {v:V} {x:Value} (h:KL C l xs) (hv:Rp C v x):KL C (dput l k v) (stored xs k x):=by
 delta dput stored
 rw [KL_any h]
 rcases e:(dget l k).isSome with _|_
 ·exact KL_snoc hv h
 ·exact KL_map hv h
theorem KL_del {k:K}:∀ {l:List (K×V)} {xs:List (K×Value)},KL C l xs→KL C (ddel l k) (without xs k)
 | [],_,h=>by skip;subst h;rfl
 | (k',u)::l,_,h=>by
  skip
  obtain ⟨y,r,rfl,hu,h⟩:=h
  delta ddel without
  have:=KL_del (k:=k) h
  unfold ddel without at this
  by_cases q:k'=k
  ·rw [List.filter_cons_of_neg (by simpa using q),List.filter_cons_of_neg (by simpa using q)];exact this
  ·rw [List.filter_cons_of_pos (by simpa using q),List.filter_cons_of_pos (by simpa using q)];exact ⟨y,_,rfl,hu,this⟩
theorem KL_step {cx:Cx} {B:Addr→Prop} {σ σ':Store} {h h':Heap} (S:Step σ h σ' h'):∀ {l:List (K×V)} {xs:List (K×Value)},KL (cf cx B σ h) l xs→KL (cf cx B σ' h') l xs
 | [],_,h=>h
 | (k,v)::l,_,h=>by
  obtain ⟨x,r,rfl,hv,h⟩:=h
  exact ⟨x,r,rfl,S.rp hv,KL_step S h⟩
theorem of_GKs {l:List (K×V)} {es:List DictEntry} {d:Addr} {ep:Nat} (ho:C.h.get? d=some (dictOf es ep)) (h:GKs kk C l es) (hn:(l.map (·.1)).Nodup):∃ kvs,C.h.DictOf kk d kvs∧KL C l kvs:=by
 obtain ⟨kvs,h1,h2,h3⟩:=GKs_pairs h
 exact ⟨kvs,⟨_,_,ep,ho,⟨rfl,rfl,rfl⟩,rfl,fun e he=>h3 e (by simpa using he),by simpa using h1,by rw [KL_keys h2];exact hn⟩,h2⟩
theorem to_GKs {l:List (K×V)} {kvs:List (K×Value)} {d:Addr} (hm:C.h.DictOf kk d kvs) (h:KL C l kvs):∃ es ep,C.h.get? d=some (dictOf es ep)∧GKs kk C l es∧(l.map (·.1)).Nodup:=by
 obtain ⟨⟨cls,dd,data,sl⟩,es,ep,ho,⟨h1,h2,h3⟩,hd,hk,hp,hn⟩:=hm
 simp only at h1 h2 h3 hd
 subst h1 h2 h3 hd
 exact ⟨es.toList,ep,by rw [ho],KL_GKs h hp fun e he=>hk e (by simpa using he),by rw [← KL_keys h];exact hn⟩
theorem GI_GKs:∀ {l:List (Int×V)} {es:List DictEntry},GI C l es↔GKs (intKind prog w) C l es
 | [],_=>Iff.rfl
 | (i,v)::l,es=>by
  skip
  constructor
  ·rintro ⟨t,x,r,rfl,hv,h⟩
   exact ⟨_,x,r,rfl,At.rp (C:=C) (k:=.i i) |>.mpr (rp_int i t),hv,GI_GKs.mp h⟩
  ·rintro ⟨key,x,r,rfl,hk,hv,h⟩
   obtain ⟨t,rfl⟩:=Value.isInt_shape hk
   exact ⟨t,x,r,rfl,hv,GI_GKs.mpr h⟩
theorem GS_GKs:∀ {l:List (Str×V)} {es:List DictEntry},GS C l es↔GKs (strKind prog C.w) C l es
 | [],_=>Iff.rfl
 | (i,v)::l,es=>by
  skip
  constructor
  ·rintro ⟨t,x,r,rfl,hv,h⟩
   exact ⟨_,x,r,rfl,At.rp (C:=C) (k:=.s i) |>.mpr (rp_str i t),hv,GS_GKs.mp h⟩
  ·rintro ⟨key,x,r,rfl,hk,hv,h⟩
   obtain ⟨t,rfl⟩:=Value.isStrOf_shape hk
   exact ⟨t,x,r,rfl,hv,GS_GKs.mpr h⟩
end
section
variable {cx:Cx} {n:Nat} {sc:Scope} {Γ:Str→Option V} {σ σ':Store} {B B':Addr→Prop} {s s':Shared} {A:Around} {Q:V→Store→Prop}
noncomputable abbrev ik (cx:Cx):KeyKind cx.prog cx.w Int:=intKind cx.prog cx.w
noncomputable abbrev sk (cx:Cx):KeyKind cx.prog cx.w Str:=strKind cx.prog cx.w
theorem of_dI {l:List (Int×V)} {x:Value} {f:Bool} (h:G (cf cx B σ s.heap) f (.dI l) x):∃ d kvs,x=.ref d∧s.heap.DictOf (ik cx) d kvs∧KL (cf cx B σ s.heap) l kvs:=by
 obtain ⟨d,es,m,rfl,_,ho,hl,hn⟩:=h
 obtain ⟨kvs,h1,h2⟩:=of_GKs (kk:=ik cx) (C:=cf cx B σ s.heap) ho (GI_GKs.mp hl) hn
 exact ⟨d,kvs,rfl,h1,h2⟩
theorem dI_of {l:List (Int×V)} {d:Addr} {kvs:List (Int×Value)} {h:Heap} (hm:h.DictOf (ik cx) d kvs) (hl:KL (cf cx B σ h) l kvs):G (cf cx B σ h) false (.dI l) (.ref d):=by
 obtain ⟨es,ep,ho,hg,hn⟩:=to_GKs (C:=cf cx B σ h) hm hl
 exact ⟨d,es,ep,rfl,fun e=>(by contradiction),ho,GI_GKs.mpr hg,hn⟩
theorem of_dS {l:List (Str×V)} {x:Value} {f:Bool} (h:G (cf cx B σ s.heap) f (.dS l) x):∃ d kvs,x=.ref d∧s.heap.DictOf (sk cx) d kvs∧KL (cf cx B σ s.heap) l kvs:=by
 obtain ⟨d,es,m,rfl,_,ho,hl,hn⟩:=h
 obtain ⟨kvs,h1,h2⟩:=of_GKs (kk:=sk cx) (C:=cf cx B σ s.heap) ho (GS_GKs.mp hl) hn
 exact ⟨d,kvs,rfl,h1,h2⟩
theorem dS_of {l:List (Str×V)} {d:Addr} {kvs:List (Str×Value)} {h:Heap} (hm:h.DictOf (sk cx) d kvs) (hl:KL (cf cx B σ h) l kvs):G (cf cx B σ h) false (.dS l) (.ref d):=by
 obtain ⟨es,ep,ho,hg,hn⟩:=to_GKs (C:=cf cx B σ h) hm hl
 exact ⟨d,es,ep,rfl,fun e=>(by contradiction),ho,(GS_GKs (prog:=cx.prog)).mpr hg,hn⟩
theorem alive_of {K:Type} [DecidableEq K] {kk:KeyKind cx.prog cx.w K} {h:Heap} {d:Addr} {kvs:List (K×Value)} (hm:h.DictOf kk d kvs):∃ o,h.get? d=some o:=by obtain ⟨o,_,_,ho,_⟩:=hm;exact ⟨o,ho⟩
theorem P2_itemI {value slice:Expr} {v u:V} {k:Int} {l:List (Int×V)} (hv:lk σ v=some (.dI l)) (hu:dget l k=some u) (q:Q u σ)
  (hs:∀ (a:Addr) (t:Tok),subscripted slice false (.ref a) (.int k t)=operate [.ref a,.int k t] (getItem (.ref a) (.int k t))) (hg:NoGo value) :
  P2 cx n σ (subscriptTail value slice) v (.int k) Q:=fun B A s x y rd X r r'=>by
 obtain ⟨t,rfl⟩:=of_int r'
 obtain ⟨d,kvs,rfl,hm,hl⟩:=of_dI (looked X r hv (fun b=>by simp))
 obtain ⟨x,hx,rx⟩:=KL_some hl hu
 exact subTail hm.typeIs slot_dict_getitem.lookup (wpAny_getItem_of (knd:=ik cx) (k:=k) (At.rp (C:=cf cx B σ s.heap) (k:=.i k) |>.mpr (rp_int k t)) hm.mapOf hx (out_tok X rx q)) (hs _ _)
theorem P2_itemS {value slice:Expr} {v u:V} {k:Str} {l:List (Str×V)} (hv:lk σ v=some (.dS l)) (hu:dget l k=some u) (q:Q u σ)
  (hs:∀ (a:Addr) (t:Tok),subscripted slice false (.ref a) (.str k t)=operate [.ref a,.str k t] (getItem (.ref a) (.str k t))) (hg:NoGo value) :
  P2 cx n σ (subscriptTail value slice) v (.str k) Q:=fun B A s x y rd X r r'=>by
 obtain ⟨t,rfl⟩:=of_str r'
 obtain ⟨d,kvs,rfl,hm,hl⟩:=of_dS (looked X r hv (fun b=>by simp))
 obtain ⟨x,hx,rx⟩:=KL_some hl hu
 exact subTail hm.typeIs slot_dict_getitem.lookup (wpAny_getItem_of (knd:=sk cx) (k:=k) (At.rp (C:=cf cx B σ s.heap) (k:=.s k) |>.mpr (rp_str k t)) hm.mapOf hx (out_tok X rx q)) (hs _ _)
theorem KL_len {K:Type} [DecidableEq K] {C:Cf} {l:List (K×V)} {xs:List (K×Value)} (h:KL C l xs):xs.length=l.length:=by have:=congrArg List.length (KL_keys h);simpa using this
theorem PS_I {a:Addr} {k:Int} {u:V} {l:List (Int×V)} (e:σ a=some (.dI l)) (hz:l.length≤1000000):PS cx n σ (.ref a) (.int k) u (σ.set a (.dI (dput l k u))):=fun B A s x y z rd X r r' r''=>by
 rw [of_ref r]
 obtain ⟨t,rfl⟩:=of_int r'
 obtain ⟨d,kvs,ed,hm,hl⟩:=of_dI (X.own a _ e).2.2.2
 (injection ed with ed;subst ed)
 refine wpAny_setItem_pairs (hsz:=sizeLine_big (by have:=KL_len hl;omega)) (knd:=ik cx) (k:=k) (At.rp (C:=cf cx B σ s.heap) (k:=.i k) |>.mpr (rp_int k t)) hm fun h' hm' hs=>?_
 exact set_state X e (fun b o hb q=>(hs.2 b hb).trans q) rfl (fun S=>dI_of hm' (KL_put (KL_step S hl) (S.rp r''))) (alive_of hm')
theorem PS_S {a:Addr} {k:Str} {u:V} {l:List (Str×V)} (e:σ a=some (.dS l)) (hz:l.length≤1000000):PS cx n σ (.ref a) (.str k) u (σ.set a (.dS (dput l k u))):=fun B A s x y z rd X r r' r''=>by
 rw [of_ref r]
 obtain ⟨t,rfl⟩:=of_str r'
 obtain ⟨d,kvs,ed,hm,hl⟩:=of_dS (X.own a _ e).2.2.2
 (injection ed with ed;subst ed)
 refine wpAny_setItem_pairs (hsz:=sizeLine_big (by have:=KL_len hl;omega)) (knd:=sk cx) (k:=k) (At.rp (C:=cf cx B σ s.heap) (k:=.s k) |>.mpr (rp_str k t)) hm fun h' hm' hs=>?_
 exact set_state X e (fun b o hb q=>(hs.2 b hb).trans q) rfl (fun S=>dS_of hm' (KL_put (KL_step S hl) (S.rp r''))) (alive_of hm')
theorem Cl_popI {a:Addr} {k:Int} {u:V} {l:List (Int×V)} (e:σ a=some (.dI l)) (hz:l.length≤1000000) (hu:dget l k=some u) (q:Q u (σ.set a (.dI (ddel l k)))):Cl cx n σ (.builtin "dict.pop") [.ref a,.int k] Q:=fun B A s ys rd X r=>by
 obtain ⟨x,_,rfl,hx0,y,_,rfl,hy0,rfl⟩:=r
 rw [of_ref hx0]
 obtain ⟨t,rfl⟩:=of_int hy0
 obtain ⟨d,kvs,ed,hm,hl⟩:=of_dI (X.own a _ e).2.2.2
 (injection ed with ed;subst ed)
 obtain ⟨x,hx,rx⟩:=KL_some hl hu
 refine wpAny_call (codeAny_call_builtin PySem.F.slot_dict_pop.plain PySem.F.entry_dict_pop (PySem.F.slot_dict_pop.check _ _ _ _ _ _ _ _ hm.typeIs (PySem.F.args_dict_pop_2 _ _)
  (meets_dict_pop_there (ik cx) a (k:=k) (key:=.int k t) (At.rp (C:=cf cx B σ s.heap) (k:=.i k) |>.mpr (rp_int k t)) [] (.inl rfl) rfl A (wants _ NoE) s ⟨kvs,x,hm,sizeLine_big (by have:=KL_len hl;omega),hx,fun h' hm' hs=>?_⟩)))
 exact out_set X e (fun b o hb q=>(hs.2 b hb).trans q) rfl (fun S=>dI_of hm' (KL_del (KL_step S hl))) (alive_of hm') (fun S=>S.rp rx) q
theorem Ex_sub {o i e:Expr} {tp pos:Pos} {Q:Fl→(Str→Option V)→Store→Prop} (h:Ev cx n sc Γ σ e fun v σ₁=>Ev cx n sc Γ σ₁ o fun ov σ₂=>Ev cx n sc Γ σ₂ i fun iv σ₃=>∃ σ₄,PS cx n σ₃ ov iv v σ₄∧Q .next Γ σ₄)
  (hs:∀ env,swapsWith e (some (.Subscript o i tp)) pos.line env=pure false:=by intro _;rfl):Ex cx n sc Γ σ (.Assign [.Subscript o i tp] e pos) Q:=fun B env A s rd X E=>by
 refine wpAny_Assign_Subscript (wpAny_mono (h B env A s rd X E) (fun x s₁ z=>?_) fun o_ o_ x=>x) (hs env)
 obtain ⟨v,σ₁,X₁,S₁,r₁,h₁⟩:=z
 have E₁:=E.step X.shut S₁
 refine wpAny_mono (h₁ B env A s₁ rd X₁ E₁) (fun ox s₂ z=>?_) fun o_ o_ x=>x
 obtain ⟨ov,σ₂,X₂,S₂,r₂,h₂⟩:=z
 have E₂:=E₁.step X₁.shut S₂
 refine wpAny_mono (h₂ B env A s₂ rd X₂ E₂) (fun ix s₃ z=>?_) fun o_ o_ x=>x
 obtain ⟨iv,σ₃,X₃,S₃,r₃,σ₄,ps,q⟩:=z
 refine wpAny_mono (ps B A s₃ ox ix x rd X₃ (S₃.rp r₂) r₃ (S₃.rp (S₂.rp r₁))) (fun o_ s₄ z=>?_) fun o_ o_ x=>x
 obtain ⟨X₄,S₄⟩:=z
 exact ⟨.next,Γ,σ₄,X₄,(E₂.step X₂.shut S₃).step X₃.shut S₄,(((S₁.trans S₂).trans S₃).trans S₄).toX (E.shutOwn X),rfl,q⟩
end
noncomputable def isInt:V→Prop
 | .int _=>True
 | _=>False
theorem isInt_of {v:V} (h:isInt v):∃ i,v=.int i:=by cases v <;> dsimp only [isInt] at h;exact ⟨_,rfl⟩
theorem ints_items {C:Cf}:∀ {l:List V} {xs:List Value},RpL C l xs→(∀ v∈l,isInt v)→∃ ps:List (Int×Tok),xs=ps.map (fun p=>.int p.1 p.2)∧l=ps.map (fun p=>.int p.1)
 | [],_,h,_=>by subst h;exact ⟨[],rfl,rfl⟩
 | v::l,_,h,q=>by
  obtain ⟨x,r,rfl,hx,hr⟩:=h
  obtain ⟨i,rfl⟩:=isInt_of (q v (.head _))
  obtain ⟨t,rfl⟩:=of_int hx
  obtain ⟨ps,rfl,rfl⟩:=ints_items hr fun u hu=>q u (.tail _ hu)
  exact ⟨(i,t)::ps,rfl,rfl⟩
theorem RpL_ints {C:Cf}:∀ {ns:List Int} {xs:List Value},RpL C (ns.map V.int) xs↔IntsAre xs ns
 | [],xs=>by
  exact ⟨fun h=>(show xs=[] from h)▸.nil,fun h=>by cases h;rfl⟩
 | n::ns,xs=>by
  constructor
  ·rintro ⟨x,r,rfl,⟨t,rfl⟩,hr⟩
   exact .cons n t (RpL_ints.mp hr)
  ·intro h
   cases h with
   | cons _ t h=>exact ⟨_,_,rfl,⟨t,rfl⟩,RpL_ints.mpr h⟩
section
variable {cx:Cx} {n:Nat} {sc:Scope} {Γ:Str→Option V} {σ σ':Store} {B B':Addr→Prop} {s s':Shared} {A:Around} {Q:V→Store→Prop}
theorem out_keep {v:V} {x:Value} {h':Heap} {tk:Nat} (X:St cx B σ s) (k:∀ b o,s.heap.get? b=some o→h'.get? b=some o) (r:Step σ s.heap σ h'→Rp (cf cx B σ h') v x) (q:Q v σ):Out cx B σ s.heap Q x { s with heap:=h',toks:=tk }:=
 ⟨v,σ,X.all (s':={ s with heap:=h',toks:=tk }) k rfl rfl,step_all (s:=s) (s':={ s with heap:=h',toks:=tk }) k,r (step_all (s:=s) (s':={ s with heap:=h',toks:=tk }) k),q⟩
theorem out_list {l:List V} {a:Addr} {items:Array Value} {m:Nat} {h':Heap} {tk:Nat} (X:St cx B σ s) (k:∀ b o,s.heap.get? b=some o→h'.get? b=some o) (ha:s.heap.get? a=none) (ho:h'.get? a=some (seqObj "list" items m)) (hl:∀ σ',Step σ s.heap σ' h'→RpL (cf cx B σ' h') l items.toList)
  (q:Q (.lst l) σ∨(σ a=none→Q (.ref a) (σ.set a (.lst l)))):Out cx B σ s.heap Q (.ref a) { s with heap:=h',toks:=tk }:=by
 have S:=step_all (σ:=σ) (s:=s) (s':={ s with heap:=h',toks:=tk }) k
 rcases q with q|q
 ·refine out_keep X k (fun o_=>?_) q
  exact ⟨a,items,m,rfl,fun o_=>X.fresh ha,ho,hl σ S⟩
 ·have S':=new_step (s':={ s with heap:=h',toks:=tk }) (v:=.lst l) X k ha
  have hl':RpL (cf cx B (σ.set a (.lst l)) h') l items.toList:=hl _ S'
  refine ⟨.ref a,_,X.new (s':={ s with heap:=h',toks:=tk }) k rfl rfl ha (X.fresh_not ha) rfl (lst_of ho hl'),S',rp_ref a,q (X.new_none ha)⟩
theorem nn63 {k:Nat} (h:k≤1000000):¬ ((k:Int)≥2 ^ 63):=by omega
theorem Cl_len {v c:V} {l:List V} (hv:lk σ v=some c) (hc:seqOf c=some l) (hz:l.length≤1000000) (q:Q (.int l.length) σ):Cl cx n σ (.builtin "len") [v] Q:=fun B A s xs rd X r=>by
 obtain ⟨x,_,rfl,hx,rfl⟩:=r
 have g:=looked X hx hv (fun a q=>by subst q;contradiction)
 rcases seqOf_inv hc with rfl|rfl
 ·obtain ⟨a,items,m,rfl,_,ho,hl⟩:=g
  have hs:items.size=l.length:=items_size hl
  exact P.len_tuple ho (by rw [hs];exact nn63 hz) (by rw [hs];exact out_tok X (rp_int _ _) q)
 ·obtain ⟨a,items,m,rfl,_,ho,hl⟩:=g
  have hs:items.size=l.length:=items_size hl
  exact len_list ⟨_,ho,rfl,m,rfl⟩ (by rw [hs];omega) (by rw [hs];exact out_tok X (rp_int _ _) q)
theorem Cl_lenT {v:V} {l:List (List At×V)} (hv:lk σ v=some (.dT l)) (hz:l.length≤1000000) (q:Q (.int l.length) σ):Cl cx n σ (.builtin "len") [v] Q:=fun B A s xs rd X r=>by
 obtain ⟨x,_,rfl,hx,rfl⟩:=r
 have g:=looked X hx hv (fun b=>by simp)
 obtain ⟨d,es,m,rfl,_,ho,hl,hn,hd⟩:=g
 have hs:es.length=l.length:=GT_length hl
 refine Calls.call_function_entry kind_len plain_len entry_len (args_len1 _) ?_
 skip
 have hT:s.TypeIs (.ref d) "dict":=⟨_,ho,rfl⟩
 refine wpAny_bind (m:=oneArg "len" _) (wpAny_pure ?_)
 refine wpAny_bind (m:=callSpecial? (.ref d) (Str.ofString "__len__")) (wpAny_callSpecial?_slot (name:=Str.ofString "__len__") hT PySem.F.slot_dict_len
  (wpAny_call_entry PySem.F.slot_dict_len hT PySem.F.entry_dict_len ?_ (PySem.F.args_dict_len_1 _)))
 show wpAny _ _ (dictSize d >>= _) _ _ s
 skip
 refine wpAny_bind (wpAny_bind (wpAny_dictEntries ho rfl (wpAny_pure ?_)))
 skip
 refine wpAny_bind (wpAny_pendingCount_other hd ?_)
 refine wpAny_ret_mkInt ?_
 have e1:es.toArray.size=l.length:=by simp [hs]
 rw [Nat.add_zero,e1]
 skip
 refine wpAny_bind (wpAny_holding (wpAny_pure ?_))
 refine wpAny_bind (wpAny_letGo ?_)
 skip
 rw [if_neg (by omega)]
 skip
 rw [if_neg (by omega)]
 exact wpAny_bind (wpAny_mkInt (wpAny_pure ⟨_,rfl,out_tok X (rp_int _ _) q⟩))
theorem Cl_list_of {v c:V} {l:List V} (hv:lk σ v=some c) (hc:seqOf c=some l) (hz:l.length≤1000000) (q:Q (.lst l) σ∨∀ a,σ a=none→Q (.ref a) (σ.set a (.lst l))):Cl cx n σ (.type "list") [v] Q:=fun B A s xs rd X r=>by
 obtain ⟨x,_,rfl,hx,rfl⟩:=r
 have g:=looked X hx hv (fun a q=>by subst q;contradiction)
 have key:∀ (T:String) (a:Addr) (items:Array Value) (m:Nat),(T = "list" ∨ T = "tuple")→s.heap.get? a=some (seqObj T items m)→RpL (cf cx B σ s.heap) l items.toList→wpAny (model cx.prog cx.w) A (call (.type "list") [.ref a]) (Out cx B σ s.heap Q) NoE s:=by
  intro T a items m hT ho hl
  have hs:items.size=l.length:=items_size hl
  refine call_list_seq a hT ho rfl rfl (fun h' c' k ho'=>?_) (sizeLine_big (by omega))
  exact out_list X k (get_none_size _) ho' (fun σ' S=>S.rpL hl) (q.imp id fun q e=>q _ e)
 rcases seqOf_inv hc with rfl|rfl
 ·obtain ⟨a,items,m,rfl,_,ho,hl⟩:=g
  exact key "tuple" a items m (.inr rfl) ho hl
 ·obtain ⟨a,items,m,rfl,_,ho,hl⟩:=g
  exact key "list" a items m (.inl rfl) ho hl
theorem Cl_tuple_list {v:V} {l:List V} (hv:lk σ v=some (.lst l)) (hz:l.length≤1000000) (q:Q (.tup l) σ):Cl cx n σ (.type "tuple") [v] Q:=fun B A s xs rd X r=>by
 obtain ⟨x,_,rfl,hx,rfl⟩:=r
 have g:=looked X hx hv (fun b=>by simp)
 obtain ⟨a,items,m,rfl,_,ho,hl⟩:=g
 have hs:items.size=l.length:=items_size hl
 refine call_tuple_list ⟨_,ho,rfl,m,rfl⟩ (fun h' k=>?_) (sizeLine_big (by omega))
 have k':∀ b o,s.heap.get? b=some o→(h'.push (seqObj "tuple" items 0)).get? b=some o:=fun b o e=>push_keep _ _ _ _ (k b o e)
 refine out_keep (tk:=s.toks) X k' (fun S=>?_) q
 refine ⟨_,items,0,rfl,fun o_=>X.fresh ?_,Heap.get?_push_size _ rfl,S.rpL hl⟩
 rcases e:s.heap.get? h'.objs.size with _|o
 ·rfl
 ·have:=Heap.lt_size (k _ _ e);exact absurd this (Nat.lt_irrefl _)
theorem Cl_tuple_tup {l:List V} (q:Q (.tup l) σ):Cl cx n σ (.type "tuple") [.tup l] Q:=fun B A s xs rd X r=>by
 obtain ⟨x,_,rfl,hx,rfl⟩:=r
 have hx':=hx
 obtain ⟨a,items,m,rfl,_,ho,hl⟩:=hx
 exact call_tuple_tup ⟨_,ho,rfl,m,rfl⟩ (out_here X hx' q)
theorem Cl_int {i:Int} (q:Q (.int i) σ):Cl cx n σ (.type "int") [.int i] Q:=fun B A s xs rd X r=>by
 obtain ⟨x,_,rfl,hx,rfl⟩:=r
 obtain ⟨t,rfl⟩:=of_int hx
 exact call_int_int (out_here X (rp_int _ _) q)
theorem Cl_abs {i:Int} (q:Q (.int (if i<0 then -i else i)) σ):Cl cx n σ (.builtin "abs") [.int i] Q:=fun B A s xs rd X r=>by
 obtain ⟨x,_,rfl,hx,rfl⟩:=r
 obtain ⟨t,rfl⟩:=of_int hx
 exact call_abs_int fun u tk=>out_tok X (rp_int _ _) q
theorem Cl_str {i:Int} (hi:i.natAbs.log2<1920) (q:Q (.str (toString i)) σ):Cl cx n σ (.type "str") [.int i] Q:=fun B A s xs rd X r=>by
 obtain ⟨x,_,rfl,hx,rfl⟩:=r
 obtain ⟨t,rfl⟩:=of_int hx
 exact P.str_of_int hi (out_tok X (rp_str _ _) q)
theorem P2_adds {a b:Str} (hz:a.length+b.length≤1000000) (q:Q (.str (a++b)) σ):P2 cx n σ (binaryOp .Add) (.str a) (.str b) Q:=fun B A s x y rd X r r'=>by
 obtain ⟨t,rfl⟩:=of_str r;obtain ⟨u,rfl⟩:=of_str r'
 exact add_str (fun t' tk=>out_tok X (rp_str _ _) q) (sizeLine_big hz)
theorem P2_fdiv {a b:Int} (hb:b≠0) (hd:Builtin.divisionGoesByPylong a b=false) (h:Q (.int (a.fdiv b)) σ):P2 cx n σ (binaryOp .FloorDiv) (.int a) (.int b) Q:=fun B A s x y rd X r r'=>by
 obtain ⟨t,rfl⟩:=of_int r;obtain ⟨u,rfl⟩:=of_int r'
 refine AutoIntOps.floordiv_1 (by simpa using hb) (by rw [hd];exact Bool.false_ne_true) ?_
 exact out_tok X (rp_int _ _) h
theorem P2_ins {x y:Str} (h:Q (.bool !(Builtin.Str.occurrences x y 0 x.length 1).isEmpty) σ):P2 cx n σ (compareOp .In) (.str y) (.str x) Q:=fun B A s u v rd X r r'=>by
 obtain ⟨t,rfl⟩:=of_str r;obtain ⟨u,rfl⟩:=of_str r'
 exact in_str (out_here X (rp_bool _) h)
theorem P2_sign {value slice:Expr} {x:Str} {i:Int} {c:Nat} (hr:(decide (i < -(2 ^ 63:Int)) || decide (i≥2 ^ 63))=false) (hc:(seqIndex? i x.length).bind (x.cps[·]?)=some c) (q:Q (.str ⟨#[c]⟩) σ)
  (hs:∀ (t u:Tok),subscripted slice false (.str x t) (.int i u)=operate [.str x t,.int i u] (getItem (.str x t) (.int i u))) (hg:NoGo value) :
  P2 cx n σ (subscriptTail value slice) (.str x) (.int i) Q:=fun B A s u v rd X r r'=>by
 obtain ⟨t,rfl⟩:=of_str r;obtain ⟨u,rfl⟩:=of_int r'
 exact subTail (typeIs_str s x t) PySem.F.slot_str_getitem.lookup (getItem_str hr hc (out_tok X (rp_str _ _) q)) (hs _ _)
theorem Cl_sum {v:V} {l:List V} (hv:lk σ v=some (.lst l)) (hi:∀ u∈l,isInt u) (q:∀ i,Q (.int i) σ):Cl cx n σ (.builtin "sum") [v] Q:=fun B A s xs rd X r=>by
 obtain ⟨x,_,rfl,hx,rfl⟩:=r
 have g:=looked X hx hv (fun b=>by simp)
 obtain ⟨a,items,m,rfl,_,ho,hl⟩:=g
 obtain ⟨ps,h1,h2⟩:=ints_items hl hi
 have e:items=intItems ps.toArray:=by
  apply Array.toList_inj.mp
  rw [h1];simp [intItems]
 subst e
 exact sum_intListG rd.1 ⟨_,ho,rfl,m,rfl⟩ fun h' tk t' k=>out_keep X k (fun o_=>rp_int _ _) (q _)
theorem Cl_max {v:V} {l:List V} (hv:lk σ v=some (.lst l)) (hi:∀ u∈l,isInt u) (h0:l≠[]) (q:∀ i,Q (.int i) σ):Cl cx n σ (.builtin "max") [v] Q:=fun B A s xs rd X r=>by
 obtain ⟨x,_,rfl,hx,rfl⟩:=r
 have g:=looked X hx hv (fun b=>by simp)
 obtain ⟨a,items,m,rfl,_,ho,hl⟩:=g
 obtain ⟨ps,h1,h2⟩:=ints_items hl hi
 have e:items=intItems ps.toArray:=by
  apply Array.toList_inj.mp
  rw [h1];simp [intItems]
 subst e
 refine max_intList rd.1 ⟨_,ho,rfl,m,rfl⟩ ?_ fun v h' tk hv' k=>?_
 ·rcases ps with _|⟨p,ps⟩
  ·simp at h2;exact absurd h2 h0
  ·simp
 ·obtain ⟨t,rfl⟩:=intItems_at hv'
  exact out_keep X k (fun o_=>rp_int _ _) (q _)
theorem sortedAll_at (h:Heap) (vs:List Value) (out:Array Value):(∀ b o,h.get? b=some o→(sortedAll h vs out).get? b=some o)∧∃ m,(sortedAll h vs out).get? (h.objs.size+1)=some (seqObj "list" out m)∧h.get? (h.objs.size+1)=none:=by
 have n1:∀ b o,h.get? b=some o→b≠h.objs.size∧b≠h.objs.size+1:=fun b o e=>⟨Nat.ne_of_lt (Heap.lt_size e),Nat.ne_of_lt (Nat.lt_succ_of_lt (Heap.lt_size e))⟩
 have hsz:((h.push (seqObj "list" #[] 0)).update h.objs.size (Obj.mapSeq (·++vs.toArray))).objs.size=h.objs.size+1:=by rw [Heap.size_update,size_push']
 have g0:(((h.push (seqObj "list" #[] 0)).update h.objs.size (Obj.mapSeq (·++vs.toArray))).push (seqObj "list" vs.toArray 0)).get? (h.objs.size+1)=some (seqObj "list" vs.toArray 0):=by rw [← hsz];exact Heap.get?_push_size _ rfl
 skip
 refine ⟨fun b o e=>?_,?_⟩
 ·obtain ⟨q1,q2⟩:=n1 b o e
  have e1:=Heap.get?_push_of_some (seqObj "list" #[] 0) e
  have e2:=(Heap.get?_update_other (h.push (seqObj "list" #[] 0)) (Obj.mapSeq (·++vs.toArray)) (Ne.symm q1)).trans e1
  have e3:=Heap.get?_push_of_some (seqObj "list" vs.toArray 0) e2
  have e4:=(Heap.get?_update_other _ (Obj.mapSeq fun o_=>(#[]:Array Value)) (Ne.symm q2)).trans e3
  have e5:=Heap.get?_push_of_some (seqObj "list" #[] 0) (Heap.get?_push_of_some (seqObj "tuple" vs.toArray 0) e4)
  exact (Heap.get?_update_other _ (Obj.mapSeq fun o_=>out) (Ne.symm q2)).trans e5
 ·have g1:=get?_update_seq g0 (fun o_=>(#[]:Array Value))
  have g2:=Heap.get?_push_of_some (seqObj "list" #[] 0) (Heap.get?_push_of_some (seqObj "tuple" vs.toArray 0) g1)
  refine ⟨_,get?_update_seq g2 (fun o_=>out),?_⟩
  rcases e:h.get? (h.objs.size+1) with _|o
  ·rfl
  ·exact absurd (Heap.lt_size e) (Nat.not_lt.mpr (Nat.le_succ _))
theorem Cl_sorted {v:V} {ns:List Int} (hv:lk σ v=some (.lst (ns.map .int))) (hz:ns.length<64) (q:∀ ns':List Int,ns'.Perm ns→ns'.Pairwise (·≤·)→Q (.lst (ns'.map .int)) σ):Cl cx n σ (.builtin "sorted") [v] Q:=fun B A s xs rd X r=>by
 obtain ⟨x,_,rfl,hx,rfl⟩:=r
 have g:=looked X hx hv (fun b=>by simp)
 obtain ⟨a,items,m,rfl,_,ho,hl⟩:=g
 have hI:=RpL_ints.mp hl
 have e:items=items.toList.toArray:=by simp
 rw [e] at ho
 refine sorted_ints ⟨_,ho,rfl,m,rfl⟩ hI (by rw [hI.length];exact hz) fun out ns' hI' hp hs=>?_
 obtain ⟨k,m',ho',hf⟩:=sortedAll_at s.heap items.toList out
 exact out_list (tk:=s.toks) X k hf ho' (fun σ' S=>RpL_ints.mpr hI') (.inl (q ns' hp hs))
theorem RpL_set {C:Cf} {v:V} {x:Value} (hv:Rp C v x):∀ {l:List V} {xs:List Value} {j:Nat},RpL C l xs→RpL C (l.set j v) (xs.set j x)
 | [],_,_,h=>by subst h;exact rfl
 | u::l,_,j,h=>by
  obtain ⟨y,r,rfl,hy,hr⟩:=h
  cases j with
  | zero=>exact ⟨x,r,rfl,hv,hr⟩
  | succ j=>exact ⟨y,_,rfl,hy,RpL_set hv hr⟩
theorem PS_L {a:Addr} {k:Int} {u:V} {l:List V} (e:σ a=some (.lst l)) (h0:0≤k) (h1:k<l.length) (hz:l.length≤1000000):PS cx n σ (.ref a) (.int k) u (σ.set a (.lst (l.set k.toNat u))):=fun B A s x y z rd X r r' r''=>by
 rw [of_ref r]
 obtain ⟨t,rfl⟩:=of_int r'
 obtain ⟨items,m,ho,hl,hs⟩:=X.lst e
 have hL:s.heap.IsList a items:=⟨_,ho,rfl,m,rfl⟩
 have hd:(seqObj "list" items m).data=.seq items m:=rfl
 delta setItem
 try with_reducible refine wpAny_holding ?_
 first | refine wpAny_bind (wpAny_pure ?_) | skip
 refine wpAny_bind (wpAny_sequenceKey hL.typeIs (by decide) ?_)
 refine wpAny_bind (wpAny_callSpecial?_slot (name:=Str.ofString "__setitem__") hL.typeIs slot_list_setitem
  (wpAny_call_entry slot_list_setitem hL.typeIs entry_list_setitem ?_ (args_list_setitem _ _ _)))
 show wpAny _ _ (Builtin.List.listSubscript? (.int k t) >>= _) _ _ s
 refine wpAny_bind (wpAny_listSubscript_int (fitsIndex_of h0 (by omega)) ?_)
 obtain ⟨j,rfl⟩:=Int.eq_ofNat_of_zero_le h0
 have hj:j<items.size:=by omega
 have hx':items[j]? = some items[j]:=Array.getElem?_eq_getElem hj
 skip
 refine wpAny_bind (wpAny_bind (wpAny_seqItemAt ho hd (wpAny_pure ?_)))
 rw [hx']
 skip
 obtain ⟨m',hp⟩:=upd_get ho (·.setIfInBounds j z)
 have fin:=set_state (tk:=s.toks) (h':=s.heap.update a (Obj.mapSeq (·.setIfInBounds j z))) (v':=.lst (l.set j u)) X e (fun b o hb q=>(Heap.get?_update_other _ _ (Ne.symm hb)).trans q) rfl (fun S=>lst_of hp (by
  rw [Array.toList_setIfInBounds]
  exact RpL_set (S.rp r'') (S.rpL hl))) ⟨_,hp⟩
 refine wpAny_bind (wpAny_setSeqItemAt ho hd ?_)
 first
  | exact wpAny_bind (wpAny_pure (wpAny_pure ⟨.none,rfl,wpAny_pure fin⟩))
  | exact wpAny_pure ⟨.none,rfl,wpAny_pure fin⟩
end
section
variable {cx:Cx} {n:Nat} {sc:Scope} {Γ:Str→Option V} {σ σ':Store} {B B':Addr→Prop} {s s':Shared} {A:Around} {Q:V→Store→Prop}
theorem P2_isnone {v:V} {b:Bool} (hb:(v=.none∧b=true)∨((∃ l,v=.tup l)∧b=false)) (q:Q (.bool b) σ):P2 cx n σ (compareOp .Is) v .none Q:=fun B A s x y rd X r r'=>by
 rw [of_none r']
 rcases hb with ⟨rfl,rfl⟩|⟨⟨l,rfl⟩,rfl⟩
 ·rw [of_none r]
  exact wpAny_is_plain rfl (out_here X (rp_bool _) q)
 ·obtain ⟨a,items,m,rfl,_⟩:=r
  exact wpAny_is_plain rfl (out_here X (rp_bool _) q)
theorem Ev_dict0T {pos:Pos} (q:∀ a,σ a=none→Q (.ref a) (σ.set a (.dT []))):Ev cx n sc Γ σ (.Dict [] [] pos) Q:=fun B env A s rd X E=>by
 refine wpAny_Dict_empty (out_obj (hf:=by rfl) X rfl (fun σ' h' S ho=>?_) q)
 exact ⟨_,[],0,rfl,fun e=>(by contradiction),ho,rfl,by simp,sys_lt X⟩
theorem Ev_dict0I {pos:Pos} (q:∀ a,σ a=none→Q (.ref a) (σ.set a (.dI []))):Ev cx n sc Γ σ (.Dict [] [] pos) Q:=fun B env A s rd X E=>by
 refine wpAny_Dict_empty (out_obj (hf:=by rfl) X rfl (fun σ' h' S ho=>?_) q)
 exact ⟨_,[],0,rfl,fun e=>(by contradiction),ho,rfl,by simp⟩
theorem Ev_upto {value:Expr} {k:Nat} {kk:Nat} {p p2 pos:Pos} (h:Ev cx n sc Γ σ value fun v σ₁=>∃ a items ns,v=.ref a∧cx.h₀.IsList a items∧IntsAre items.toList ns∧items.size≤1000000∧Q (.lst ((ns.take k).map .int)) σ₁)
  (ht:∀ o r,letTemporaryGo value o r=pure ()):Ev cx n sc Γ σ (.Subscript value (.Slice none (some (.Constant (.int (k:Int)) kk p2)) none p) pos) Q:=fun B env A s rd X E=>by
 refine wpAny_Subscript_list_slice (wpAny_mono (h B env A s rd X E) (fun x s₁ o=>?_) fun o_ o_ x=>x) ht
 obtain ⟨v,σ₁,X₁,S₁,r₁,a,items,ns,rfl,hl,hi,hz,q⟩:=o
 rw [of_ref r₁]
 refine wpAny_pure ?_
 skip
 refine mkInt_ ?_
 have hl':s₁.heap.IsList a items:=hl.at fun o e=>X₁.keep a o e
 refine ⟨a,items,none,some (k:Int),rfl,hl',sizeLine_big hz,.none,.int _ _,?_⟩
 have kp:∀ b o,s₁.heap.get? b=some o→((s₁.heap.push { cls:=.type "slice",data:=.fields #[.none,.int (k:Int) s₁.toks,.none] }).push (seqObj "list" (slicePick items none (some (k:Int)) none) 0)).get? b=some o:=fun b o e=>push_keep _ _ _ _ (push_keep _ _ _ _ e)
 refine Out.pre S₁ ?_
 have esz:(s₁.heap.push { cls:=.type "slice",data:=.fields #[.none,.int (k:Int) s₁.toks,.none] }).objs.size=s₁.heap.objs.size+1:=Heap.size_push ..
 refine out_list (tk:=s₁.toks+1) X₁ kp ?_ (by rw [← esz];exact Heap.get?_push_size _ rfl) (fun σ' S=>?_) (.inl q)
 ·rcases e:s₁.heap.get? (s₁.heap.objs.size+1) with _|o
  ·rfl
  ·exact absurd (Heap.lt_size e) (Nat.not_lt.mpr (Nat.le_succ _))
 ·rw [slicePick_upto' items k]
  exact RpL_ints.mpr (by simpa using hi.take k)
theorem str_cut {prog:Program} {w:World} {A:Around} {env:Env} {Er:Value→Shared→Prop} {s:Shared} {value:Expr} {lower upper:Option Expr} {p pos:Pos} {P:Value→Shared→Prop}
  (h:wpAny (model prog w) A (eval value env) (fun o s₁=>wpAny (model prog w) A (evalPart lower env) (fun vl s₂=>wpAny (model prog w) A (evalPart upper env) (fun vu s₃=>
   ∃ x t l u,o=.str x t∧vl=partValue l∧vu=partValue u∧(sliceMade x t l u none).post P { s₃ with heap:=s₃.heap.push { cls:=.type "slice",data:=.fields #[vl,vu,.none] } }) Er s₂) Er s₁) Er s) :
  wpAny (model prog w) A (eval (.Subscript value (.Slice lower upper none p) pos) env) P Er s:=by
 refine sub_slice (T := "str") PySem.F.slot_str_getitem.lookup (wpAny_mono h (fun o s₁ h₁=>wpAny_Slice (wpAny_mono h₁ (fun vl s₂ h₂=>wpAny_mono h₂ (fun vu s₃ h₃=>?_) fun o_ o_ e=>e) fun o_ o_ e=>e)) fun o_ o_ e=>e)
 obtain ⟨x,t,l,u,rfl,rfl,rfl,hQ⟩:=h₃
 rw [evalPart_none]
 exact wpAny_pure ⟨typeIs_str _ x t,wpAny_getItem_str_slice (l:=l) (u:=u) (st:=none) ⟨_,Heap.get?_push_size _ rfl,rfl,rfl⟩ rfl hQ⟩
theorem Ev_cut {x:Str} {value upper:Expr} {p pos:Pos} (h:Ev cx n sc Γ σ value fun v σ₁=>v=.str x∧Ev cx n sc Γ σ₁ upper fun u σ₂=>∃ i:Int,u=.int i∧x.length≤1000000∧Q (.str (Txt.slice x none (some i))) σ₂):Ev cx n sc Γ σ (.Subscript value (.Slice none (some upper) none p) pos) Q:=fun B env A s rd X E=>by
 refine str_cut (wpAny_mono (h B env A s rd X E) (fun y s₁ o=>?_) fun o_ o_ x=>x)
 obtain ⟨v,σ₁,X₁,S₁,r₁,rfl,h₂⟩:=o
 obtain ⟨t,rfl⟩:=of_str r₁
 refine wpAny_pure ?_
 skip
 refine wpAny_mono (h₂ B env A s₁ rd X₁ (E.step X.shut S₁)) (fun y s₂ o=>?_) fun o_ o_ x=>x
 obtain ⟨u,σ₂,X₂,S₂,r₂,i,rfl,hz,q⟩:=o
 obtain ⟨t',rfl⟩:=of_int r₂
 refine ⟨x,t,none,some (i,t'),rfl,rfl,rfl,?_⟩
 refine post_val_or_str ⟨Nat.le_trans (Txt.slice_le x none (some i)) (sizeLine_big hz),fun t'' k=>?_⟩
 refine Out.pre (S₁.trans S₂) ?_
 exact out_keep (tk:=k) X₂ (push_keep _ _) (fun o_=>rp_str _ _) q
noncomputable def orD (B:Addr→Prop) (d:Addr):Addr→Prop:=fun a=>B a∨a=d
theorem merged3 {k1 k2 k3:Str} {x1 x2 x3:Value} (hn:[k1,k2,k3].Nodup):merged [] [(k1,x1),(k2,x2),(k3,x3)]=[(k1,x1),(k2,x2),(k3,x3)]:=by
 simp only [List.nodup_cons,List.mem_cons,List.not_mem_nil,or_false,not_or] at hn
 obtain ⟨⟨h12,h13⟩,h23,_⟩:=hn
 simp [merged,stored,h12,h13,h23]
theorem Ev_dict3 {k1 k2 k3:Str} {c1 c2 c3:Nat} {p1 p2 p3 pos:Pos} {e1 e2 e3:Expr} (hn:[k1,k2,k3].Nodup)
  (h:Ev cx n sc Γ σ e1 fun v1 σ₁=>Ev cx n sc Γ σ₁ e2 fun v2 σ₂=>Ev cx n sc Γ σ₂ e3 fun v3 σ₃=>∀ a,σ₃ a=none→Q (.ref a) (σ₃.set a (.dS [(k1,v1),(k2,v2),(k3,v3)]))) :
  Ev cx n sc Γ σ (.Dict [some (.Constant (.str k1) c1 p1),some (.Constant (.str k2) c2 p2),some (.Constant (.str k3) c3 p3)] [e1,e2,e3] pos) Q:=fun B env A s rd X E=>by
 refine wpAny_Dict_pairs (knd:=sk cx) (pairs:=[(eval (.Constant (.str k1) c1 p1) env,do let x ← eval e1 env;standAt pos;pure x),(eval (.Constant (.str k2) c2 p2) env,do let x ← eval e2 env;standAt pos;pure x),(eval (.Constant (.str k3) c3 p3) env,do let x ← eval e3 env;standAt pos;pure x)]) rfl (by simp) (by simp) ?_
 generalize hd:s.heap.objs.size=d
 have D₀:s.heap.get? d=none:=hd▸get_none_size _
 have ho₀:(s.heap.push emptyDict).get? d=some emptyDict:=hd▸Heap.get?_push_size _ rfl
 obtain ⟨X₀,up⟩:=X.more (s':={ s with heap:=s.heap.push emptyDict }) (B':=orD B d) (push_keep _ _) rfl rfl (fun a q=>q.imp id fun q=>by subst q;exact ⟨D₀,_,ho₀⟩)
 have E₀:EnvOk cx sc Γ (orD B d) σ env (s.heap.push emptyDict):=E.more (fun a q=>.inl q) (fun b o o_ e=>push_keep _ _ _ _ e) up
 have S₀:Step σ s.heap σ (s.heap.push emptyDict):=step_all (s:=s) (s':={ s with heap:=s.heap.push emptyDict }) (push_keep _ _)
 refine evalPairs_cons (Constant_str ?_)
 refine wpAny_bind (wpAny_mono (h _ env A _ rd (X₀.toks _) E₀) (fun x1 s₁ o=>?_) fun o_ o_ x=>x)
 obtain ⟨v1,σ₁,X₁,S₁,r₁,h₁⟩:=o
 have E₁:=E₀.step X₀.shut S₁
 refine wpAny_bind (wpAny_standAt (wpAny_pure (evalPairs_cons (Constant_str ?_))))
 refine wpAny_bind (wpAny_mono (h₁ _ env A _ rd (X₁.toks _) E₁) (fun x2 s₂ o=>?_) fun o_ o_ x=>x)
 obtain ⟨v2,σ₂,X₂,S₂,r₂,h₂⟩:=o
 have E₂:=E₁.step X₁.shut S₂
 refine wpAny_bind (wpAny_standAt (wpAny_pure (evalPairs_cons (Constant_str ?_))))
 refine wpAny_bind (wpAny_mono (h₂ _ env A _ rd (X₂.toks _) E₂) (fun x3 s₃ o=>?_) fun o_ o_ x=>x)
 obtain ⟨v3,σ₃,X₃,S₃,r₃,q⟩:=o
 refine wpAny_bind (wpAny_standAt (wpAny_pure (evalPairs_nil ?_)))
 have sd:∀ {σ:Store} {s:Shared},St cx (orD B d) σ s→σ d=none:=fun X=>X.shut d (.inr rfl)
 have ho₃:s₃.heap.get? d=some emptyDict:=S₃.keep d _ (sd X₂) (S₂.keep d _ (sd X₁) (S₁.keep d _ (sd X₀) ho₀))
 have ks:∀ (k:Str) (t:Tok),(sk cx).is k (.str k t)=true:=fun k t=>by show (k==k)=true;simp
 refine ⟨[(k1,x1),(k2,x2),(k3,x3)],⟨ks _ _,rfl,ks _ _,rfl,ks _ _,rfl,trivial⟩,⟨_,#[],0,ho₃,⟨rfl,rfl,rfl⟩,rfl,fun e he=>by simp at he,.nil,by simp⟩,fun h' hm hs=>?_⟩
 have k:∀ b o,¬ b=d→s₃.heap.get? b=some o→h'.get? b=some o:=fun b o nb e=>(hs.2 b nb).trans e
 obtain ⟨od,hod⟩:=alive_of hm
 obtain ⟨X₄,S₄⟩:=X₃.frame (own:=fun a=>a=d) (s':={ s₃ with heap:=h',toks:=s₃.toks+3 }) (fun a q=>by subst q;exact ⟨.inr rfl,X.base_none D₀,od,hod⟩) k rfl rfl
 have oB:∀ a,a=d→orD B d a:=fun a q=>.inr q
 have em:=merged3 hn (x1:=x1) (x2:=x2) (x3:=x3)
 rw [em] at hm
 have g:G (cf cx (orD B d) σ₃ h') false (.dS [(k1,v1),(k2,v2),(k3,v3)]) (.ref d):=
  dS_of hm ⟨x1,_,rfl,S₄.rp oB (S₃.rp (S₂.rp r₁)),x2,_,rfl,S₄.rp oB (S₃.rp r₂),x3,_,rfl,S₄.rp oB r₃,rfl⟩
 have X₅:=St.take (D:=d) X₄ (X.fresh_not D₀) (X.base_none D₀) rfl g
 have S₀₃:=((S₀.trans S₁).trans S₂).trans S₃
 refine ⟨.ref d,_,X₅,⟨fun b o hb e=>k b o (fun z=>by subst z;rw [D₀] at e;contradiction) (S₀₃.keep b o hb e),fun a q=>?_,fun a o e=>?_⟩,rp_ref d,q d (sd X₃)⟩
 ·by_cases z:a=d
  ·subst z;exact .inr D₀
  ·exact S₀₃.dom a (by simpa [Store.set,z] using q)
 ·obtain ⟨o',e'⟩:=S₀₃.live a o e
  exact ⟨o',k a o' (fun z=>by subst z;rw [D₀] at e;contradiction) e'⟩
end
theorem zip_no_len:typeLookup (.type "zip") "__len__" = pure none:=by rw [typeLookup_type,builtinLookup_eq_fast];kernel_rfl
theorem zip_no_hint:typeLookup (.type "zip") "__length_hint__" = pure none:=by rw [typeLookup_type,builtinLookup_eq_fast];kernel_rfl
structure Drawn (h:Heap) (Z:ZI) (acc:Array Value) (no:Addr→Prop) (j:Nat) (v:Value):Prop where
 at_:∃ (T:Addr) (x y:Value),v=Value.ref T∧Z.xs[j]? = some x∧Z.ys[j]? = some y∧IsPair h T x y∧¬ Z.W T∧¬ no T
noncomputable def DrawnAll (h:Heap) (Z:ZI) (acc:Array Value) (no:Addr→Prop):Prop:=∀ (j:Nat) (v:Value),acc[j]? = some v→Drawn h Z acc no j v
theorem Drawn.keep {h h':Heap} {Z:ZI} {acc acc':Array Value} {no no':Addr→Prop} {j:Nat} {v:Value} (d:Drawn h Z acc no j v) (k:∀ b o,¬ Z.W b→¬ no b→h.get? b=some o→h'.get? b=some o) (hn:∀ a,no' a→no a):Drawn h' Z acc' no' j v:=by
 obtain ⟨T,x,y,e1,e2,e3,e4,e5,e6⟩:=d.at_
 exact ⟨T,x,y,e1,e2,e3,k T _ e5 e6 e4,e5,fun q=>e6 (hn T q)⟩
noncomputable def ZI.Lt (Z:ZI) (m:Nat):Prop:=∀ i,i<m↔(i<Z.xs.size∧i<Z.ys.size)
theorem ZI.Lt.end_ {Z:ZI} {m:Nat} (hm:Z.Lt m):Z.xs[m]? = none∨Z.ys[m]? = none:=by
 by_cases q:m<Z.xs.size
 ·exact .inr (Array.getElem?_eq_none (Nat.le_of_not_lt fun z=>Nat.lt_irrefl m ((hm m).mpr ⟨q,z⟩)))
 ·exact .inl (Array.getElem?_eq_none (Nat.le_of_not_lt q))
section
variable {prog:Program} {w:World} {A:Around} {E:Value→Shared→Prop}
theorem lines {m:Nat} (hz:m≤1000000) {acc:Array Value} {i:Nat} (h:acc.size=i) (hi:i<m) (v:Value):acc.size≤sizeLine∧(acc.push v).size≤sizeLine+1:=
 have q:=sizeLine_big (Nat.le_trans (Nat.le_of_lt (h▸hi)) hz)
 ⟨q,Array.size_push (xs:=acc) v▸Nat.succ_le_succ q⟩
theorem zip_loop {no:Addr→Prop} {Z:ZI} {S:Addr} {m:Nat} (hno:no S) (hno':∀ a,no a→¬ Z.W a) (hh:A.handled=none) (D:Z.D) (hS:∀ b,Z.W b∨Z.R b→b≠S) (hm:Z.Lt m) (hz:m≤1000000) {res:Value} {R:Result→Shared→Prop} :
  ∀ (k i:Nat) (s:Shared) (acc:Array Value) (c:Nat),i+k=m→(∀ a,no a→∃ o,s.heap.get? a=some o)→ZS s.heap Z i→s.heap.get? S=some (seqObj "list" acc c)→acc.size=i→DrawnAll s.heap Z acc no →
  (∀ h' acc' c',h'.get? S=some (seqObj "list" acc' c')→acc'.size=m→DrawnAll h' Z acc' no→(∀ b o,¬ Z.W b→b≠S→s.heap.get? b=some o→h'.get? b=some o)→R (.ok (.ret res)) { s with heap:=h' }) →
  codeAny (model prog w) A (.builtin "list.extend.loop" ⟨[.ref S,.ref Z.z,res],[]⟩) R s:=by
 have SW:¬ Z.W S:=fun q=>hS S (.inl q) rfl
 intro k
 induction k with
 | zero=>
  intro i s acc c hk hal st ho hsz dr hR
  obtain rfl:i=m:=hk
  refine codeAny_builtin PySem.F.entry_extend_loop ?_
  rw [Around.under_plainId PySem.F.plain_extend_loop _]
  show wpAny _ A.in1 (pyNext (.ref Z.z) >>= _) _ _ s
  refine wpAny_bind (nz_end (A:=A.in1) hh D st hm.end_ fun h' kp=>?_)
  exact wpAny_pure (hR h' acc c (kp S _ SW ho) hsz (fun j v hv=>(dr j v hv).keep (fun b o hb o_ e=>kp b o hb e) fun a q=>q) fun b o hb o_ e=>kp b o hb e)
 | succ k ih=>
  intro i s acc c hk hal st ho hsz dr hR
  have hlt:i<m:=hk▸Nat.lt_add_of_pos_right (Nat.succ_pos k)
  obtain ⟨x,ex⟩:=arr_get rfl ((hm i).mp hlt).1
  obtain ⟨y,ey⟩:=arr_get rfl ((hm i).mp hlt).2
  refine codeAny_builtin PySem.F.entry_extend_loop ?_
  rw [Around.under_plainId PySem.F.plain_extend_loop _]
  show wpAny _ A.in1 (pyNext (.ref Z.z) >>= _) _ _ s
  refine wpAny_bind (nz_item (A:=A.in1) D st ex ey fun h₁ st₁ hT kp=>?_)
  generalize hTa:s.heap.objs.size=T at hT
  have nT:s.heap.get? T=none:=hTa▸get_none_size _
  have WT:¬ Z.W T:=fun q=>by obtain ⟨o,e⟩:=ZS.live st (.inl q);rw [nT] at e;contradiction
  have oT:¬ no T:=fun q=>by obtain ⟨o,e⟩:=hal T q;rw [nT] at e;contradiction
  have hS₁:h₁.get? S=some (seqObj "list" acc c):=kp S _ SW ho
  show wpAny _ A.in1 (updateSeq S (·.push (.ref T)) >>= _) _ _ _
  refine wpAny_bind ?_
  have g:=get?_update_seq hS₁ (·.push (.ref T))
  generalize hh₂:h₁.update S (Obj.mapSeq (·.push (.ref T)))=h₂ at g
  have oth:∀ b o,b≠S→h₁.get? b=some o→h₂.get? b=some o:=fun b o hb e=>hh₂▸(Heap.get?_update_other _ _ (Ne.symm hb)).trans e
  have l:=lines hz hsz hlt (.ref T)
  refine wpAny_updateSeq (hz:=l.1) (_hz':=l.2) hS₁ rfl (wpAny_pure ⟨plainId_quiet PySem.F.plain_extend_loop _,?_⟩)
  rw [hh₂]
  refine ih (i+1) _ _ _ ((Nat.add_right_comm i 1 k).trans hk) (fun a q=>?_) (st₁.keep fun b o hb e=>oth b o (hS b hb) e) g (by rw [Array.size_push,hsz]) (fun j v hv=>?_) fun h' acc' c' a1 a2 a3 a4=>hR h' acc' c' a1 a2 a3 fun b o hb hs e=>a4 b o hb hs (oth b o hs (kp b o hb e))
  ·obtain ⟨o,e⟩:=hal a q
   by_cases z:a=S
   ·exact ⟨_,z▸g⟩
   ·exact ⟨o,oth a o z (kp a o (hno' a q) e)⟩
  ·rw [Array.getElem?_push] at hv
   by_cases hj:j=acc.size
   ·rw [if_pos hj] at hv
    obtain rfl:=Option.some.inj hv
    rw [hj,hsz]
    exact ⟨_,_,_,rfl,ex,ey,oth T _ (fun q=>oT (q▸hno)) hT,WT,oT⟩
   ·rw [if_neg hj] at hv
    exact (dr j v hv).keep (fun b o hb hn e=>oth b o (fun q=>hn (q▸hno)) (kp b o hb e)) fun a q=>q
theorem zip_collect {old:Addr→Prop} {s:Shared} {Z:ZI} {m:Nat} {Q:List Value→Shared→Prop} (hh:A.handled=none) (D:Z.D) (hm:Z.Lt m) (hz:m≤1000000) (hold:∀ a,old a→¬ Z.W a∧∃ o,s.heap.get? a=some o) (st:ZS s.heap Z 0)
  (hQ:∀ h' acc,acc.size=m→DrawnAll h' Z acc old→(∀ b o,¬ Z.W b→s.heap.get? b=some o→h'.get? b=some o)→Q acc.toList { s with heap:=h' }):wpAny (model prog w) A (collect (.ref Z.z)) Q E s:=by
 have lt:∀ b o,s.heap.get? b=some o→b≠s.heap.objs.size:=fun b o e=>Nat.ne_of_lt (Heap.lt_size e)
 have hS:∀ b,Z.W b∨Z.R b→b≠s.heap.objs.size:=fun b hb=>by obtain ⟨o,e⟩:=st.live hb;exact lt b o e
 have st₁:ZS (s.heap.push (seqObj "list" #[] 0)) Z 0:=st.keep fun b o o_=>push_keep _ _ _ _
 have hT:(Shared.mk (s.heap.push (seqObj "list" #[] 0)) s.gens s.drawn s.toks s.os).TypeIs (.ref Z.z) "zip":=by obtain ⟨f0,f1,_,q⟩:=st₁.z;exact ⟨_,q,rfl⟩
 have hS₁:(s.heap.push (seqObj "list" #[] 0)).get? s.heap.objs.size=some (seqObj "list" #[] 0):=Heap.get?_push_size _ rfl
 skip
 refine wpAny_bind (wpAny_runValue (codeAny_builtin PySem.F.entry_proto_collect ?_))
 rw [Around.under_plainId PySem.F.plain_proto_collect _]
 show wpAny _ A.in1 (newList [] >>= fun l=>again (.builtin "list.__iadd__" ⟨[l,.ref Z.z],[]⟩)) _ _ s
 refine wpAny_bind (wpAny_newObj_type ?_)
 refine wpAny_pure ⟨plainId_quiet PySem.F.plain_list_iadd _,codeAny_builtin PySem.F.entry_list_iadd ?_⟩
 rw [Around.under_plainId PySem.F.plain_list_iadd _]
 show wpAny _ A.in1 (Builtin.List.listExtendWith (.ref s.heap.objs.size) (.ref Z.z) (.ref s.heap.objs.size)) _ _ { s with heap:=s.heap.push (seqObj "list" #[] 0) }
 generalize hSa:s.heap.objs.size=S at hS lt hS₁
 generalize hHa:s.heap.push (seqObj "list" #[] 0)=H at st₁ hT hS₁
 have kH:∀ b o,s.heap.get? b=some o→H.get? b=some o:=hHa▸push_keep _ _
 skip
 refine wpAny_bind (wpAny_typeOf hT ?_)
 rw [show Builtin.List.listSameRef (.ref S) (.ref Z.z)=false from beq_eq_false_iff_ne.mpr (Ne.symm (hS _ (.inl (.inl rfl)))),show (Value.type "zip" == Value.type "list")=false by decide,show (Value.type "zip" == Value.type "tuple")=false by decide]
 refine wpAny_bind (st₁.iter ?_)
 refine wpAny_bind (wpAny_holding ?_)
 skip
 refine wpAny_bind (wpAny_specialOf hT zip_no_len ?_)
 show wpAny _ A.in1 (specialOf (Value.ref Z.z) (Str.ofString "__length_hint__") >>= _) _ _ _
 refine wpAny_bind (wpAny_specialOf hT zip_no_hint ?_)
 refine wpAny_pure ?_
 show wpAny _ A.in1 (rule "list.extend.makes-room" >>= fun o_=>Builtin.List.listTouch (.ref S) >>= fun o_=>
  again (.builtin "list.extend.loop" ⟨[.ref S,.ref Z.z,.ref S],[]⟩)) _ _ _
 refine wpAny_bind (wpAny_rule ?_)
 refine wpAny_bind ?_
 show wpAny _ A.in1 (updateSeq S (·.push .none) >>= fun o_=>updateSeq S (·.pop)) _ _ _
 refine wpAny_bind (wpAny_updateSeq hS₁ rfl ?_)
 have hS₂:=get?_update_seq hS₁ (·.push Value.none)
 refine wpAny_updateSeq hS₂ rfl ?_
 have hS₃:=get?_update_seq hS₂ (·.pop)
 have oth:∀ b o,b≠S→H.get? b=some o→((H.update S (Obj.mapSeq (·.push Value.none))).update S (Obj.mapSeq (·.pop))).get? b=some o:=
  fun b o hb e=>(Heap.get?_update_other _ _ (Ne.symm hb)).trans ((Heap.get?_update_other _ _ (Ne.symm hb)).trans e)
 refine wpAny_pure ⟨plainId_quiet PySem.F.plain_extend_loop _,?_⟩
 generalize (H.update S (Obj.mapSeq (·.push Value.none))).update S (Obj.mapSeq (·.pop))=H₃ at oth hS₃
 refine zip_loop (m:=m) (no:=fun a=>old a∨a=S) (.inr rfl) (fun a q=>?_) hh D hS hm hz m 0 _ _ _ (Nat.zero_add m) (fun a q=>?_) (st₁.keep fun b o hb e=>oth b o (hS b hb) e) hS₃ rfl (fun j v hv=>by contradiction) fun h' acc' c' a1 a2 a3 a4=>?_
 ·rcases q with q|rfl
  ·exact (hold a q).1
  ·exact fun q=>hS _ (.inl q) rfl
 ·rcases q with q|rfl
  ·obtain ⟨h1,o,e⟩:=hold a q
   exact ⟨o,oth a o (lt a o e) (kH a o e)⟩
  ·exact ⟨_,hS₃⟩
 ·show wpAny _ A (load S >>= _) _ _ _
  refine wpAny_bind (wpAny_load a1 ?_)
  exact wpAny_pure (hQ h' acc' a2 (fun j v hv=>(a3 j v hv).keep (fun b o o_ o_ e=>e) fun a q=>.inl q) fun b o hb e=>a4 b o hb (lt b o e) (oth b o (lt b o e) (kH b o e)))
theorem code_tuple_zip {old:Addr→Prop} {s:Shared} {Z:ZI} {m:Nat} {Q₁:Value→Shared→Prop} (hh:A.handled=none) (D:Z.D) (hm:Z.Lt m) (hz:m≤1000000) (hold:∀ a,old a→¬ Z.W a∧∃ o,s.heap.get? a=some o) (st:ZS s.heap Z 0)
  (h:∀ h' acc,acc.size=m→DrawnAll h' Z acc old→(∀ b o,¬ Z.W b→s.heap.get? b=some o→h'.get? b=some o)→Q₁ (.ref h'.objs.size) { s with heap:=h'.push (seqObj "tuple" acc 0) }) :
  codeAny (model prog w) A (.call (.builtin "tuple.__new__") ⟨[.type "tuple",.ref Z.z],[]⟩) (wants Q₁ E) s:=by
 refine codeAny_of_tree ?_
 show wpAny _ A.in1 (do checkBuiltinCall "tuple.__new__" ⟨[.type "tuple",.ref Z.z],[]⟩;again (.builtin "tuple.__new__" ⟨[.type "tuple",.ref Z.z],[]⟩)) _ _ s
 refine wpAny_bind (wpAny_of_eq (PySem.F.newCall_tuple_1 _) (wpAny_pure ⟨plainId_quiet PySem.F.plain_tuple_new _,codeAny_builtin PySem.F.entry_tuple_new ?_⟩))
 rw [Around.under_plainId PySem.F.plain_tuple_new _]
 have hsub:=sub_tuple_self
 have hinit:=init_tuple_lookup
 have hmh:=madeHere_tuple
 have hTI:s.TypeIs (.ref Z.z) "zip":=by obtain ⟨f0,f1,_,q⟩:=st.z;exact ⟨_,q,rfl⟩
 have hh1:A.in1.handled=none:=hh
 wp_walk using wpAny_typeOf hTI,zip_collect (m:=m) (old:=old) hh1 D hm hz hold st
 intro h' acc hsz dr kp
 show wpAny _ _ (Builtin.Tuple.tupleExact acc.toList.toArray >>= fun v=>ret v) _ _ _
 skip
 refine wpAny_bind (wpAny_newObj_type ?_ (by show acc.toList.toArray.size≤sizeLine;skip;rw [hsz];exact sizeLine_big hz))
 refine wpAny_pure ?_
 have e:acc.toList.toArray=acc:=by rfl
 rw [e]
 exact h h' acc hsz dr kp
theorem call_tuple_zip {old:Addr→Prop} {s:Shared} {Z:ZI} {m:Nat} {Q:Value→Shared→Prop} (hh:A.handled=none) (D:Z.D) (hm:Z.Lt m) (hz:m≤1000000) (hold:∀ a,old a→¬ Z.W a∧∃ o,s.heap.get? a=some o) (st:ZS s.heap Z 0)
  (hQ:∀ h' acc,acc.size=m→DrawnAll h' Z acc old→(∀ b o,¬ Z.W b→s.heap.get? b=some o→h'.get? b=some o)→Q (.ref h'.objs.size) { s with heap:=h'.push (seqObj "tuple" acc 0) }) :
  wpAny (model prog w) A (call (.type "tuple") [.ref Z.z]) Q E s:=by
 refine callType_codes (Q₁:=fun obj s₁=>s₁.TypeIs obj "tuple" ∧ Q obj s₁) PySem.F.called_tuple (PySem.F.typeCall_tuple_1 _) PySem.F.entry_object_init
  (code_tuple_zip (m:=m) (old:=old) hh D hm hz hold st fun h' acc a b c=>⟨⟨_,Heap.get?_push_size _ rfl,rfl⟩,hQ h' acc a b c⟩) fun obj s₁ h₁=>?_
 exact ⟨h₁.1,PySem.F.args_object_init_2 obj _,object_init_meets PySem.F.called_tuple.init.lookup PySem.F.called_tuple.made (by decide) prog w A.in1 _ s₁ ⟨h₁.1,rfl,h₁.2⟩⟩
end
section
variable {cx:Cx} {n:Nat} {sc:Scope} {Γ:Str→Option V} {σ σ':Store} {B B':Addr→Prop} {s s':Shared} {A:Around} {Q:V→Store→Prop}
theorem zipV_len:∀ {as bs:List V} (i:Nat),i<(zipV as bs).length↔(i<as.length∧i<bs.length)
 | [],_,i=>⟨fun h=>absurd h (Nat.not_lt_zero _),fun h=>absurd h.1 (Nat.not_lt_zero _)⟩
 | _::_,[],i=>⟨fun h=>absurd h (Nat.not_lt_zero _),fun h=>absurd h.2 (Nat.not_lt_zero _)⟩
 | a::as,b::bs,0=>⟨fun o_=>⟨Nat.succ_pos _,Nat.succ_pos _⟩,fun o_=>Nat.succ_pos _⟩
 | a::as,b::bs,i+1=>⟨fun h=>have q:=(zipV_len (as:=as) (bs:=bs) i).mp (Nat.lt_of_succ_lt_succ h);⟨Nat.succ_lt_succ q.1,Nat.succ_lt_succ q.2⟩,fun h=>Nat.succ_lt_succ ((zipV_len (as:=as) (bs:=bs) i).mpr ⟨Nat.lt_of_succ_lt_succ h.1,Nat.lt_of_succ_lt_succ h.2⟩)⟩
theorem RpL_of_at {C:Cf}:∀ {l:List V} {xs:List Value},xs.length=l.length→(∀ (i:Nat) (v:V) (x:Value),l[i]? = some v→xs[i]? = some x→Rp C v x)→RpL C l xs
 | [],[],_,_=>rfl
 | [],_::_,e,_=>by contradiction
 | _::_,[],e,_=>by contradiction
 | v::l,x::xs,e,h=>by
  exact ⟨x,xs,rfl,h 0 v x rfl rfl,RpL_of_at (by exact Nat.succ.inj e) fun i u y hu hy=>h (i+1) u y (by exact hu) (by exact hy)⟩
theorem zipV_le {as bs:List V}:(zipV as bs).length≤as.length:=Nat.le_of_not_lt fun h=>Nat.lt_irrefl _ ((zipV_len as.length).mp h).1
theorem zip_tup {Z:ZI} {h₂:Heap} {as bs:List V} (X:St cx B σ s) (hh:A.handled=none) (D:Z.D) (st:ZS h₂ Z 0) (kp:∀ b o,s.heap.get? b=some o→h₂.get? b=some o) (new:∀ b,Z.W b→s.heap.get? b=none) (g1:RpL (cf cx B σ s.heap) as Z.xs.toList) (g2:RpL (cf cx B σ s.heap) bs Z.ys.toList) (hz:as.length≤1000000) (q:Q (.tup (zipV as bs)) σ) :
  wpAny (model cx.prog cx.w) A (call (.type "tuple") [.ref Z.z]) (fun v s'=>Out cx B σ s.heap Q v s') NoE { s with heap:=h₂ }:=by
 have hm:Z.Lt (zipV as bs).length:=fun i=>by
  rw [show Z.xs.size=as.length from Array.length_toList.symm.trans (RpL.length g1),show Z.ys.size=bs.length from Array.length_toList.symm.trans (RpL.length g2)]
  exact zipV_len i
 have nW:∀ b o,s.heap.get? b=some o→¬ Z.W b:=fun b o e q=>by rw [new b q] at e;contradiction
 refine call_tuple_zip (old:=fun a=>∃ o,s.heap.get? a=some o) hh D hm (Nat.le_trans zipV_le hz) (fun a ⟨o,e⟩=>⟨nW a o e,o,kp a o e⟩) st fun h₃ acc hsz dr kp2=>?_
 have k2:∀ b o,s.heap.get? b=some o→h₃.get? b=some o:=fun b o e=>kp2 b o (nW b o e) (kp b o e)
 have k3:∀ b o,s.heap.get? b=some o→(h₃.push (seqObj "tuple" acc 0)).get? b=some o:=fun b o e=>push_keep _ _ _ _ (k2 b o e)
 refine out_keep (tk:=s.toks) X k3 (fun S=>?_) q
 have frT:s.heap.get? h₃.objs.size=none:=by
  rcases e:s.heap.get? h₃.objs.size with _|o
  ·rfl
  ·exact absurd (Heap.lt_size (k2 _ _ e)) (Nat.lt_irrefl _)
 refine ⟨_,acc,0,rfl,fun o_=>X.fresh frT,Heap.get?_push_size _ rfl,RpL_of_at (Array.length_toList.trans hsz) fun i v x hv hx=>?_⟩
 obtain ⟨a,b,ha,hb,rfl⟩:=zipV_at hv
 obtain ⟨T,x',y',rfl,e1,e2,e3,e4,e5⟩:=(dr i x (Array.getElem?_toList.symm.trans hx)).at_
 have fT:s.heap.get? T=none:=by
  rcases e:s.heap.get? T with _|o
  ·rfl
  ·exact absurd ⟨o,e⟩ e5
 exact pair_at (S.rpL g1) (S.rpL g2) ha hb e1 e2 (push_keep _ _ _ _ e3) (X.fresh fT)
theorem Ev_tuplezip {e₁ e₂:Expr} {fp pos fp2 pos2:Pos} (hk:sc.names.lookup ("zip" : Str)=some .globalImplicit) (hg:GlobIs cx ("zip" : Str) (.type "zip")) (hk2:sc.names.lookup ("tuple" : Str)=some .globalImplicit) (hg2:GlobIs cx ("tuple" : Str) (.type "tuple"))
  (hp:notStar e₁=true) (hp2:notStar e₂=true)
  (h:Ev cx n sc Γ σ e₁ fun v σ₁=>Ev cx n sc Γ σ₁ e₂ fun u σ₂=>∃ as bs,v=.tup as∧u=.tup bs∧as.length≤1000000∧Q (.tup (zipV as bs)) σ₂) :
  Ev cx n sc Γ σ (.Call (.Name ("tuple" : Str) fp2) [.Call (.Name ("zip" : Str) fp) [e₁,e₂] [] pos] [] pos2) Q:=fun B env A s rd X E=>by
 show wpAny _ A (do callWith pos2 (← eval (.Name ("tuple" : Str) fp2) env) [] (backTo pos2 (starEach [.Call (.Name ("zip" : Str) fp) [e₁,e₂] [] pos] env)) (backToKw pos2 (keywordEach [] env))) _ _ s
 refine wpAny_bind (glob_name X E hk2 hg2 ?_)
 refine callWith_run X (keeps_type _) rfl ?_
 rw [starEach_cons rfl]
 show wpAny _ A (spliced ((false,eval (.Call (.Name ("zip" : Str) fp) [e₁,e₂] [] pos) env)::backTo pos2 (starEach [] env))) _ _ s
 refine spliced_cons ?_
 show wpAny _ A (do callWith pos (← eval (.Name ("zip" : Str) fp) env) [] (backTo pos (starEach [e₁,e₂] env)) (backToKw pos (keywordEach [] env))) _ _ s
 refine wpAny_bind (glob_name X E hk hg ?_)
 have hL:EvL cx n sc Γ σ [e₁,e₂] fun vs σ₁=>∃ as bs,vs=[.tup as,.tup bs]∧as.length≤1000000∧Q (.tup (zipV as bs)) σ₁:=⟨hp,h.mono fun v σ₁ q=>⟨hp2,q.mono fun u σ₂ q=>by obtain ⟨as,bs,rfl,rfl,q⟩:=q;exact ⟨as,bs,rfl,q⟩⟩⟩
 refine callWith_run X (keeps_type _) (by simp [hp,hp2]) (wpAny_mono (hL.run B env A s rd X E) (fun zs s₁ o=>?_) fun o_ o_ x=>x)
 obtain ⟨vs,σ₁,X₁,S₁,r₁,as,bs,rfl,hz,q⟩:=o
 refine ⟨cx.X.keeps X₁.keep,?_⟩
 obtain ⟨x,_,rfl,hx,y,_,rfl,hy,rfl⟩:=r₁
 obtain ⟨l1,xs,k1,rfl,b1,o1,g1⟩:=hx
 obtain ⟨l2,ys,k2,rfl,b2,o2,g2⟩:=hy
 refine call_zip_tup ⟨_,o1,rfl,k1,rfl⟩ ⟨_,o2,rfl,k2,rfl⟩ fun h₂ st kp=>?_
 refine spliced_nil ⟨cx.X.keeps fun b o e=>kp b o (X₁.keep b o e),?_⟩
 exact wpAny_mono (zip_tup (Z:=ZI.new s₁.heap.objs.size l1 l2 xs ys) X₁ rd.1 (zapart_new (Heap.lt_size o1) (Heap.lt_size o2)) st kp (fun b=>ZI.fresh) g1 g2 hz q) (fun o_ o_ o=>Out.pre S₁ o) fun o_ o_ x=>x
end
noncomputable def Rising (xs:Array Nat):Prop:=∀ i j a b:Nat,i<j→xs[i]? = some a→xs[j]? = some b→a<b
theorem below_go {xs:Array Nat} {j:Nat} (hr:Rising xs):∀ (fuel lo hi:Nat),hi≤xs.size→hi - lo≤fuel→lo≤hi→(∀ i a:Nat,i<lo→xs[i]? = some a→a<j)→(∀ i a:Nat,hi≤i→xs[i]? = some a→j≤a) →
  let r:=SetTable.below.go xs j fuel lo hi
  r≤xs.size∧(∀ i a:Nat,i<r→xs[i]? = some a→a<j)∧(∀ i a:Nat,r≤i→xs[i]? = some a→j≤a)
 | 0,lo,hi,h1,h2,h3,h4,h5=>by
  have:lo=hi:=by omega
  subst this
  exact ⟨h1,h4,h5⟩
 | fuel+1,lo,hi,h1,h2,h3,h4,h5=>by
  dsimp only [SetTable.below.go]
  by_cases hlt:lo<hi
  ·simp only [hlt,if_true]
   have hm:(lo+hi) / 2<xs.size:=by omega
   have he:xs[(lo+hi) / 2]? = some xs[(lo+hi) / 2]:=Array.getElem?_eq_getElem hm
   have hd:xs.getD ((lo+hi) / 2) j=xs[(lo+hi) / 2]:=by simp [Array.getD,hm]
   by_cases hc:xs.getD ((lo+hi) / 2) j<j
   ·simp only [hc,if_true]
    refine below_go hr fuel ((lo+hi) / 2+1) hi h1 (by omega) (by omega) (fun i a hi' ha=>?_) h5
    rcases Nat.lt_or_eq_of_le (Nat.le_of_lt_succ hi') with q|q
    ·have:=hr i _ a _ q ha he;rw [hd] at hc;exact Nat.lt_trans (by assumption) (by assumption)
    ·subst q;rw [he] at ha;(injection ha with ha;subst ha);rw [hd] at hc;exact hc
   ·simp only [hc,if_false]
    refine below_go hr fuel lo ((lo+hi) / 2) (by exact Nat.le_of_lt (by assumption)) (by omega) (by omega) h4 (fun i a hi' ha=>?_)
    rcases Nat.lt_or_eq_of_le hi' with q|q
    ·have:=hr _ i _ a q he ha;rw [hd] at hc;omega
    ·subst q;rw [he] at ha;(injection ha with ha;subst ha);rw [hd] at hc;exact Nat.le_of_not_lt (by assumption)
  ·simp only [hlt,if_false]
   have:lo=hi:=by exact Nat.le_antisymm (by assumption) (Nat.le_of_not_lt (by assumption))
   subst this
   exact ⟨h1,h4,h5⟩
theorem below_at {xs:Array Nat} (hr:Rising xs) (j:Nat):SetTable.below xs j≤xs.size∧(∀ i a:Nat,i<SetTable.below xs j→xs[i]? = some a→a<j)∧(∀ i a:Nat,SetTable.below xs j≤i→xs[i]? = some a→j≤a):=
 below_go hr xs.size 0 xs.size (Nat.le_refl _) (Nat.le_refl _) (Nat.zero_le _) (fun i a h=>absurd h (Nat.not_lt_zero _)) (fun i a h ha=>by
  have:i<xs.size:=by
   rcases Nat.lt_or_ge i xs.size with q|q
   ·exact q
   ·rw [Array.getElem?_eq_none q] at ha;contradiction
  omega)
theorem below_mem {xs:Array Nat} (hr:Rising xs) {i j:Nat} (h:xs[i]? = some j):SetTable.below xs j=i:=by
 obtain ⟨h1,h2,h3⟩:=below_at hr j
 rcases Nat.lt_trichotomy (SetTable.below xs j) i with q|q|q
 ·-- something below i at or above j
  have hi:i<xs.size:=by
   rcases Nat.lt_or_ge i xs.size with q|q
   ·exact q
   ·rw [Array.getElem?_eq_none q] at h;contradiction
  have e:=h3 _ _ (Nat.le_refl _) (Array.getElem?_eq_getElem (Nat.lt_trans q hi))
  have:=hr _ _ _ _ q (Array.getElem?_eq_getElem (Nat.lt_trans q hi)) h
  omega
 ·exact q
 ·have:=h2 _ _ q h;exact absurd (by assumption) (Nat.lt_irrefl _)
theorem below_succ {xs:Array Nat} (hr:Rising xs) {i j:Nat} (h:xs[i]? = some j):SetTable.below xs (j+1)=i+1:=by
 obtain ⟨h1,h2,h3⟩:=below_at hr (j+1)
 rcases Nat.lt_trichotomy (SetTable.below xs (j+1)) (i+1) with q|q|q
 ·have:=h3 i j (by exact Nat.le_of_lt_succ (by assumption)) h;exact absurd (by assumption) (Nat.lt_irrefl _)
 ·exact q
 ·have hi:i+1<xs.size:=by exact Nat.le_trans (by assumption) (by assumption)
  have e:=h2 (i+1) _ q (Array.getElem?_eq_getElem hi)
  have:=hr i (i+1) j _ (Nat.lt_succ_self _) h (Array.getElem?_eq_getElem hi)
  omega
theorem below_zero {xs:Array Nat} (hr:Rising xs):SetTable.below xs 0=0:=by
 obtain ⟨h1,h2,h3⟩:=below_at hr 0
 rcases Nat.eq_zero_or_pos (SetTable.below xs 0) with q|q
 ·exact q
 ·have hi:0<xs.size:=by exact Nat.le_trans (by assumption) (by assumption)
  exact absurd (h2 0 _ q (Array.getElem?_eq_getElem hi)) (Nat.not_lt_zero _)
theorem ins_list {α:Type} (xs:Array α) (p:Nat) (x:α):(SetTable.insertAt xs p x).toList=xs.toList.take p++x::xs.toList.drop p:=by
 delta SetTable.insertAt
 simp
 rw [List.take_of_length_le (by simp)]
structure Tb (t:SetTable) (n:Nat):Prop where
 sz:t.place.size=n
 rise:Rising t.place
 dum:t.dummies = #[]
 max:∀ i a:Nat,t.place[i]? = some a→a≤t.mask
 fill:n≤t.mask
theorem has_empty (j:Nat):SetTable.has #[] j=false:=by
 delta SetTable.has;simp
theorem slot_empty {t:SetTable} {n:Nat} (h:Tb t n) {j:Nat} (hs:t.slot j=.empty):∀ i:Nat,t.place[i]?≠some j:=by
 intro i e
 delta SetTable.slot at hs
 rw [below_mem h.rise e] at hs
 simp [e] at hs
theorem slot_live {t:SetTable} {n:Nat} (h:Tb t n) {i j:Nat} (e:t.place[i]? = some j):t.slot j=.live i:=by
 delta SetTable.slot
 rw [below_mem h.rise e]
 simp [e]
theorem slot_free {t:SetTable} {n:Nat} (h:Tb t n) {j:Nat} (e:∀ i:Nat,t.place[i]?≠some j):t.slot j=.empty:=by
 delta SetTable.slot
 have e1:(t.place[SetTable.below t.place j]? == some j)=false:=beq_eq_false_iff_ne.mpr (e _)
 simp only [e1,h.dum,has_empty,Bool.false_eq_true,if_false]
theorem rising_ins {xs:Array Nat} (hr:Rising xs) {j:Nat} (hj:∀ i:Nat,xs[i]?≠some j):Rising (SetTable.insertAt xs (SetTable.below xs j) j):=by
 obtain ⟨h1,h2,h3⟩:=below_at hr j
 have at_:∀ i:Nat,(SetTable.insertAt xs (SetTable.below xs j) j)[i]? = if i<SetTable.below xs j then xs[i]? else if i=SetTable.below xs j then some j else xs[i - 1]?:=by
  intro i
  rw [← Array.getElem?_toList,ins_list]
  have hl:(xs.toList.take (SetTable.below xs j)).length=SetTable.below xs j:=List.length_take_of_le h1
  by_cases q:i<SetTable.below xs j
  ·rw [if_pos q,List.getElem?_append_left (hl.symm▸q),List.getElem?_take,if_pos q,Array.getElem?_toList]
  ·rw [if_neg q,List.getElem?_append_right (hl.symm▸Nat.le_of_not_lt q),hl]
   by_cases q2:i=SetTable.below xs j
   ·rw [if_pos q2,q2,Nat.sub_self];rfl
   ·rw [if_neg q2]
    obtain ⟨k,hk⟩:=Nat.exists_eq_add_of_lt (Nat.lt_of_le_of_ne (Nat.le_of_not_lt q) (Ne.symm q2))
    rw [hk,show SetTable.below xs j+k+1 - SetTable.below xs j=k+1 from Nat.add_sub_cancel_left (SetTable.below xs j) (k+1),List.getElem?_cons_succ,List.getElem?_drop,Array.getElem?_toList];rfl
 intro i i' a b hlt ha hb
 rw [at_] at ha hb
 by_cases q:i<SetTable.below xs j
 ·rw [if_pos q] at ha
  have ha':=h2 i a q ha
  by_cases q':i'<SetTable.below xs j
  ·rw [if_pos q'] at hb;exact hr i i' a b hlt ha hb
  ·rw [if_neg q'] at hb
   by_cases q2:i'=SetTable.below xs j
   ·rw [if_pos q2] at hb;(injection hb with hb;subst hb);exact ha'
   ·rw [if_neg q2] at hb
    have:=h3 (i' - 1) b (Nat.le_pred_of_lt (Nat.lt_of_le_of_ne (Nat.le_of_not_lt q') (Ne.symm q2))) hb
    exact Nat.le_trans (by assumption) (by assumption)
 ·rw [if_neg q] at ha
  have q':¬ i'<SetTable.below xs j:=fun z=>q (Nat.lt_trans hlt z)
  rw [if_neg q'] at hb
  have q2':¬ i'=SetTable.below xs j:=fun z=>q (z▸hlt)
  rw [if_neg q2'] at hb
  by_cases q2:i=SetTable.below xs j
  ·rw [if_pos q2] at ha;(injection ha with ha;subst ha)
   have h4:=h3 (i' - 1) b (Nat.le_pred_of_lt (q2▸hlt)) hb
   have h5:=hj (i' - 1)
   rcases Nat.lt_or_eq_of_le h4 with h6|h6
   ·exact h6
   ·rw [hb,h6] at h5;exact absurd rfl h5
  ·rw [if_neg q2] at ha
   exact hr (i - 1) (i' - 1) a b (Nat.sub_lt_sub_right (Nat.lt_of_le_of_lt (Nat.zero_le _) (Nat.lt_of_le_of_ne (Nat.le_of_not_lt q) (Ne.symm q2))) hlt) ha hb
theorem put_tb {t:SetTable} {n:Nat} (h:Tb t n) {j:Nat} (hj:∀ i:Nat,t.place[i]?≠some j) (hm:j≤t.mask) (hf:n+1≤t.mask):Tb (t.put j).1 (n+1)∧(t.put j).2=SetTable.below t.place j∧(t.put j).1.mask=t.mask∧(t.put j).1.led=t.led∧(t.put j).1.plain=t.plain∧(t.put j).1.moves=t.moves:=by
 have hd:SetTable.has t.dummies j=false:=by rw [h.dum];exact has_empty j
 have e:t.put j=({ t with place:=SetTable.insertAt t.place (SetTable.below t.place j) j },SetTable.below t.place j):=by
  delta SetTable.put
  simp only [hd,Bool.false_eq_true,if_false]
 rw [e]
 refine ⟨⟨?_,rising_ins h.rise hj,h.dum,fun i a ha=>?_,hf⟩,rfl,rfl,rfl,rfl,rfl⟩
 ·skip
  rw [← Array.length_toList,ins_list]
  have:=(below_at h.rise j).1
  rw [List.length_append,List.length_cons,List.length_drop,List.length_take_of_le this,Array.length_toList,← Nat.add_assoc,Nat.add_sub_cancel' this,h.sz]
 ·have ha':(SetTable.insertAt t.place (SetTable.below t.place j) j)[i]? = some a:=ha
  rw [← Array.getElem?_toList,ins_list] at ha'
  have hmem:=List.mem_of_getElem? ha'
  simp only [List.mem_append,List.mem_cons] at hmem
  rcases hmem with q|q|q
  ·obtain ⟨k,hk⟩:=List.getElem?_of_mem (List.mem_of_mem_take q)
   exact h.max k a (Array.getElem?_toList.symm.trans hk)
  ·subst q;exact hm
  ·obtain ⟨k,hk⟩:=List.getElem?_of_mem (List.mem_of_mem_drop q)
   exact h.max k a (Array.getElem?_toList.symm.trans hk)
theorem nodup_sub {α:Type} [DecidableEq α]:∀ {l l':List α},l.Nodup→(∀ x∈l,x∈l')→l.length≤l'.length
 | [],_,_,_=>Nat.zero_le _
 | x::l,l',hn,hs=>by
  have hn':=List.nodup_cons.mp hn
  have hx:=hs x (.head _)
  have h0:=nodup_sub (l:=l) (l':=l'.erase x) hn'.2 fun y hy=>(List.mem_erase_of_ne (fun (e:y=x)=>hn'.1 (by rw [← e];exact hy))).mpr (hs y (.tail _ hy))
  have e:=List.length_erase_of_mem hx
  have:0<l'.length:=List.length_pos_of_mem hx
  exact Nat.le_trans (Nat.succ_le_succ (Nat.le_trans h0 (Nat.le_of_eq e))) (Nat.le_of_eq (Nat.sub_add_cancel this))
theorem some_free {t:SetTable} {n:Nat} (h:Tb t n):∃ e,e≤t.mask∧t.slot e=.empty:=by
 refine Classical.byContradiction fun q=>?_
 have all:∀ e∈List.range (t.mask+1),e∈t.place.toList:=fun e he=>by
  refine Classical.byContradiction fun z=>q ⟨e,Nat.le_of_lt_succ (List.mem_range.mp he),slot_free h fun i hi=>z ?_⟩
  exact List.mem_of_getElem? (Array.getElem?_toList.trans hi)
 have:=nodup_sub List.nodup_range all
 rw [List.length_range,Array.length_toList,h.sz] at this
 exact Nat.not_succ_le_self _ (Nat.le_trans this h.fill)
noncomputable def Hit (t:SetTable):Nat→SetTable.Probe→Prop
 | 0,p=>t.slot p.j=.empty
 | k+1,p=>t.slot p.j=.empty∨Hit t k (t.advance p)
theorem Hit.more {t:SetTable}:∀ {k m:Nat} {p:SetTable.Probe},Hit t k p→k≤m→Hit t m p
 | 0,0,_,h,_=>h
 | 0,m+1,_,h,_=>.inl h
 | k+1,0,_,_,h=>absurd h (by exact absurd (by assumption) (Nat.not_lt_zero _))
 | k+1,m+1,p,h,hm=>h.imp id fun h=>Hit.more h (by exact Nat.le_of_lt_succ (by assumption))
structure Vp (t:SetTable) (p:SetTable.Probe):Prop where
 jm:p.j+p.more≤t.mask
 im:p.i≤t.mask
 le:p.more≤9
 dum:p.dummy=none
 per:p.perturb<2 ^ 64
noncomputable def startAt (mask i perturb:Nat):SetTable.Probe:={ j:=i,more:=SetTable.runEnd mask i - i,i,perturb,dummy:=none }
theorem run9 (mask i:Nat):SetTable.runEnd mask i - i≤9:=by
 delta SetTable.runEnd
 by_cases q:i+9≤mask
 ·rw [if_pos q];exact Nat.le_of_eq (Nat.add_sub_cancel_left ..)
 ·rw [if_neg q,Nat.sub_self];exact Nat.zero_le _
theorem vp_start {t:SetTable} {i perturb:Nat} (hi:i≤t.mask) (hp:perturb<2 ^ 64):Vp t (startAt t.mask i perturb):=by
 refine ⟨?_,hi,run9 _ _,rfl,hp⟩
 show i+(SetTable.runEnd t.mask i - i)≤t.mask
 delta SetTable.runEnd
 by_cases q:i+9≤t.mask
 ·rw [if_pos q,Nat.add_sub_cancel_left];exact q
 ·rw [if_neg q,Nat.sub_self];exact hi
theorem leap_i (mask i perturb:Nat):(SetTable.leap mask i perturb).1≤mask:=by
 skip
 exact Nat.le_of_lt_succ (Nat.mod_lt _ (Nat.succ_pos mask))
theorem adv_run {t:SetTable} {p:SetTable.Probe} (h:p.more=0) (hd:p.dummy=none):t.advance p=startAt t.mask (SetTable.leap t.mask p.i p.perturb).1 (SetTable.leap t.mask p.i p.perturb).2:=by
 delta SetTable.advance
 rw [if_neg (Nat.not_lt.mpr (Nat.le_of_eq h))]
 delta startAt
 rw [← hd]
theorem vp_adv {t:SetTable} {p:SetTable.Probe} (v:Vp t p):Vp t (t.advance p):=by
 obtain ⟨h1,h2,h3,h4,h5⟩:=v
 by_cases q:p.more > 0
 ·delta SetTable.advance
  rw [if_pos q]
  exact ⟨by show p.j+1+(p.more - 1)≤t.mask;rw [Nat.add_assoc,Nat.add_sub_cancel' q];exact h1,h2,Nat.le_trans (Nat.sub_le _ _) h3,h4,h5⟩
 ·rw [adv_run (Nat.eq_zero_of_not_pos q) h4]
  exact vp_start (leap_i _ _ _) (Nat.lt_of_le_of_lt (Nat.div_le_self _ _) h5)
theorem hit_run {t:SetTable} {k:Nat}:∀ (m:Nat) (p:SetTable.Probe),p.more=m→p.dummy=none→Hit t k (startAt t.mask (SetTable.leap t.mask p.i p.perturb).1 (SetTable.leap t.mask p.i p.perturb).2)→Hit t (k+m+1) p
 | 0,p,hm,hd,h=>.inr (by rw [adv_run hm hd];exact h)
 | m+1,p,hm,hd,h=>.inr (by
   have e:t.advance p = { p with j:=p.j+1,more:=p.more - 1 }:=by delta SetTable.advance;rw [if_pos (hm▸Nat.succ_pos m)]
   rw [e]
   exact hit_run m _ (congrArg Nat.pred hm) hd h)
noncomputable def leaps (mask:Nat):Nat→Nat×Nat→Nat×Nat
 | 0,s=>s
 | m+1,s=>leaps mask m (SetTable.leap mask s.1 s.2)
theorem hit_leaps {t:SetTable}:∀ (m i perturb:Nat),i≤t.mask→t.slot (leaps t.mask m (i,perturb)).1=.empty→Hit t (10*m) (startAt t.mask i perturb)
 | 0,i,perturb,_,h=>h
 | m+1,i,perturb,hi,h=>by
  have h':=hit_leaps m _ _ (leap_i t.mask i perturb) (show t.slot (leaps t.mask m ((SetTable.leap t.mask i perturb).1,(SetTable.leap t.mask i perturb).2)).1=.empty from h)
  have hr:=hit_run (t:=t) (k:=10*m) _ (startAt t.mask i perturb) rfl rfl h'
  refine hr.more ?_
  exact Nat.add_le_add_left (Nat.succ_le_succ (run9 _ _)) (10*m)
theorem leaps_per (mask:Nat):∀ (m:Nat) (s:Nat×Nat),(leaps mask m s).2=s.2 / 32 ^ m
 | 0,s=>(Nat.div_one _).symm
 | m+1,s=>by
  show (leaps mask m (SetTable.leap mask s.1 s.2)).2=_
  rw [leaps_per mask m]
  show s.2 / 32 / 32 ^ m=_
  rw [Nat.div_div_eq_div_mul,Nat.pow_succ,Nat.mul_comm]
theorem leaps_i (mask:Nat):∀ (m:Nat) (s:Nat×Nat),s.1≤mask→(leaps mask m s).1≤mask
 | 0,s,h=>h
 | m+1,s,h=>leaps_i mask m _ (leap_i mask s.1 s.2)
theorem leaps_add (mask:Nat):∀ (a b:Nat) (s:Nat×Nat),leaps mask (a+b) s=leaps mask b (leaps mask a s)
 | 0,b,s=>by rw [Nat.zero_add];rfl
 | a+1,b,s=>by
  rw [Nat.add_right_comm]
  exact leaps_add mask a b _
theorem cyc7:∀ a:Fin 8,∀ e:Fin 8,∃ m:Fin 8,(leaps 7 m.val (a.val,0)).1=e.val:=by decide +kernel
theorem cyc31:∀ a:Fin 32,∀ e:Fin 32,∃ m:Fin 32,(leaps 31 m.val (a.val,0)).1=e.val:=by decide +kernel
theorem reach_all {mask:Nat} (hm:mask=7∨mask=31) {i perturb e:Nat} (hi:i≤mask) (hp:perturb<2 ^ 64) (he:e≤mask):∃ m,m≤mask+13∧(leaps mask m (i,perturb)).1=e:=by
 have z:(leaps mask 13 (i,perturb)).2=0:=by
  rw [leaps_per]
  exact Nat.div_eq_of_lt (Nat.lt_of_lt_of_le hp (by decide))
 have hi':=leaps_i mask 13 (i,perturb) hi
 have key:∃ m,m≤mask∧(leaps mask m ((leaps mask 13 (i,perturb)).1,0)).1=e:=by
  rcases hm with rfl|rfl
  ·obtain ⟨m,h⟩:=cyc7 ⟨(leaps 7 13 (i,perturb)).1,by exact Nat.succ_le_succ (by assumption)⟩ ⟨e,by exact Nat.succ_le_succ (by assumption)⟩
   exact ⟨m.val,Nat.le_of_lt_succ m.isLt,h⟩
  ·obtain ⟨m,h⟩:=cyc31 ⟨(leaps 31 13 (i,perturb)).1,by exact Nat.succ_le_succ (by assumption)⟩ ⟨e,by exact Nat.succ_le_succ (by assumption)⟩
   exact ⟨m.val,Nat.le_of_lt_succ m.isLt,h⟩
 obtain ⟨m,h1,h2⟩:=key
 refine ⟨13+m,Nat.le_trans (Nat.le_of_eq (Nat.add_comm ..)) (Nat.add_le_add_right h1 13),?_⟩
 rw [leaps_add]
 have:leaps mask 13 (i,perturb)=((leaps mask 13 (i,perturb)).1,0):=by rw [← z]
 rw [this];exact h2
theorem hit_all {t:SetTable} {n:Nat} (h:Tb t n) (hm:t.mask=7∨t.mask=31) {p:SetTable.Probe} (v:Vp t p):Hit t (10*(t.mask+13)+10) p:=by
 obtain ⟨e,he,hs⟩:=some_free h
 obtain ⟨m,h1,h2⟩:=reach_all hm (leap_i t.mask p.i p.perturb) (show (SetTable.leap t.mask p.i p.perturb).2<2 ^ 64 from Nat.lt_of_le_of_lt (Nat.div_le_self _ _) v.per) he
 have h3:=hit_leaps (t:=t) m _ _ (leap_i t.mask p.i p.perturb) (by rw [h2];exact hs)
 have h4:=hit_run _ p rfl v.dum h3
 exact h4.more (show 10*m+(p.more+1)≤_ from Nat.add_le_add (Nat.mul_le_mul_left 10 h1) (Nat.succ_le_succ v.le))
theorem probe_go {t:SetTable} {n:Nat} (h:Tb t n) {hashAt:Nat→Int} {hs:Int}:∀ (fuel k:Nat) (p:SetTable.Probe),Hit t k p→k<fuel→Vp t p →
  (∃ j,SetTable.probe.go t hashAt hs fuel p=some (.empty j none)∧t.slot j=.empty∧j≤t.mask) ∨
  (∃ j i next,SetTable.probe.go t hashAt hs fuel p=some (.candidate j i next)∧t.place[i]? = some j∧hashAt i=hs∧Vp t next∧∃ k',k'<k∧Hit t k' next):=by
 intro fuel
 induction fuel with
 | zero=>exact fun k p _ hk _=>absurd hk (Nat.not_lt_zero _)
 | succ fuel ih=>
  intro k p hh hk v
  by_cases hi:∃ i:Nat,t.place[i]? = some p.j
  ·obtain ⟨i,hpl⟩:=hi
   have hsl:=slot_live h hpl
   have hnext:∃ k',k'<k∧Hit t k' (t.advance p):=by
    cases k with
    | zero=>exact absurd (hsl.symm.trans hh) (fun e=>by contradiction)
    | succ k=>exact ⟨k,Nat.lt_succ_self _,hh.resolve_left fun e=>absurd (hsl.symm.trans e) (fun e=>by contradiction)⟩
   by_cases q:(hashAt i==hs)=true
   ·exact .inr ⟨p.j,i,t.advance p,by dsimp only [SetTable.probe.go];rw [hsl];exact if_pos q,hpl,eq_of_beq q,vp_adv v,hnext⟩
   ·obtain ⟨k',h1,h2⟩:=hnext
    rw [show SetTable.probe.go t hashAt hs (fuel+1) p=SetTable.probe.go t hashAt hs fuel (t.advance p) by dsimp only [SetTable.probe.go];rw [hsl];exact if_neg q]
    exact (ih k' _ h2 (Nat.lt_of_lt_of_le h1 (Nat.le_of_lt_succ hk)) (vp_adv v)).imp id fun ⟨j,i',next,a,b,c,d,k'',e,f⟩=>⟨j,i',next,a,b,c,d,k'',Nat.lt_trans e h1,f⟩
  ·have hsl:=slot_free h fun i e=>hi ⟨i,e⟩
   exact .inl ⟨p.j,by dsimp only [SetTable.probe.go];rw [hsl,v.dum],hsl,Nat.le_trans (Nat.le_add_right _ _) v.jm⟩
theorem probe_met {t:SetTable} {n:Nat} (h:Tb t n) (hm:t.mask=7∨t.mask=31) {hashAt:Nat→Int} {hs:Int} {k:Nat} {p:SetTable.Probe} (hh:Hit t k p) (hk:k≤10*(t.mask+13)+10) (v:Vp t p) :
  (∃ j,t.probe hashAt hs p=some (.empty j none)∧t.slot j=.empty∧j≤t.mask) ∨
  (∃ j i next,t.probe hashAt hs p=some (.candidate j i next)∧t.place[i]? = some j∧hashAt i=hs∧Vp t next∧∃ k',k'<k∧Hit t k' next):=by
 skip
 exact probe_go h _ k p hh (Nat.lt_of_le_of_lt hk (show 10*(t.mask+13)+10<10*(t.mask+13)+20 from Nat.add_lt_add_left (by decide) _)) v
theorem bits_lt (h:Int):SetTable.bits h<2 ^ 64:=by
 delta SetTable.bits
 exact Nat.lt_of_lt_of_le ((Int.toNat_lt_toNat (by decide)).mpr (Int.emod_lt_of_pos h (show (0:Int)<2 ^ 64 by decide))) (by decide)
theorem vp_first {t:SetTable} (h:Int):Vp t (t.probeStart h):=
 vp_start (t:=t) (i:=SetTable.bits h % (t.mask+1)) (perturb:=SetTable.bits h) (Nat.le_of_lt_succ (Nat.mod_lt _ (Nat.succ_pos t.mask))) (bits_lt h)
theorem runEnd_le {mask i:Nat} (h:i≤mask):SetTable.runEnd mask i≤mask∧i≤SetTable.runEnd mask i:=by
 delta SetTable.runEnd
 by_cases q:i+9≤mask
 ·rw [if_pos q];exact ⟨q,Nat.le_add_right _ _⟩
 ·rw [if_neg q];exact ⟨h,Nat.le_refl _⟩
theorem free_some {owner:Array (Option Nat)} {mask:Nat} (hs:owner.size=mask+1):∀ (fuel i perturb:Nat),i≤mask→(∃ m,m<fuel∧owner[(leaps mask m (i,perturb)).1]? = some none) →
  ∃ j,SetTable.layClean.free mask owner fuel i perturb=some j∧j≤mask∧owner[j]? = some none
 | 0,i,perturb,hi,⟨m,hm,_⟩=>absurd hm (Nat.not_lt_zero _)
 | fuel+1,i,perturb,hi,⟨m,hm,he⟩=>by
  dsimp only [SetTable.layClean.free]
  cases hf:(List.range (SetTable.runEnd mask i+1 - i)).find? fun k=>(owner.getD (i+k) (some 0)).isNone with
  | some k=>
   have h1:=List.find?_some hf
   have h2:=List.mem_range.mp (List.mem_of_find?_eq_some hf)
   have hr:=runEnd_le hi
   have hlt:i+k<mask+1:=Nat.lt_of_lt_of_le (Nat.add_lt_of_lt_sub' h2) (Nat.succ_le_succ hr.1)
   refine ⟨i+k,rfl,Nat.le_of_lt_succ hlt,?_⟩
   rw [← hs] at hlt
   have h3:owner.getD (i+k) (some 0)=owner[i+k]:=by delta Array.getD;rw [dif_pos hlt];rfl
   rw [h3] at h1
   rw [Array.getElem?_eq_getElem hlt]
   exact congrArg some (Option.isNone_iff_eq_none.mp h1)
  | none=>
   have hn:=List.find?_eq_none.mp hf
   cases m with
   | zero=>
    exfalso
    have hr:=runEnd_le hi
    have he':owner[i]? = some none:=he
    have hlt:i<owner.size:=hs▸Nat.lt_succ_of_le hi
    rw [Array.getElem?_eq_getElem hlt] at he'
    refine hn 0 (List.mem_range.mpr (Nat.sub_pos_of_lt (Nat.lt_succ_of_le hr.2))) ?_
    show (owner.getD i (some 0)).isNone=true
    delta Array.getD
    rw [dif_pos hlt]
    exact Option.isNone_iff_eq_none.mpr (Option.some.inj he')
   | succ m=>
    exact free_some hs fuel _ _ (leap_i mask i perturb) ⟨m,Nat.lt_of_succ_lt_succ hm,he⟩
structure Owners (owner:Array (Option Nat)) (mask k:Nat):Prop where
 sz:owner.size=mask+1
 perm:(owner.toList.filterMap id).Perm (List.range k)
theorem filterMap_set {α:Type} {x:α}:∀ {l:List (Option α)} {j:Nat},l[j]? = some none→((l.set j (some x)).filterMap id).Perm (x::l.filterMap id)
 | [],_,h=>by contradiction
 | o::l,0,h=>by
  simp at h;subst h
  simp
 | o::l,j+1,h=>by
  have ih:=filterMap_set (x:=x) (l:=l) (j:=j) (h)
  rcases o with _|y
  ·exact ih
  ·
   skip
   exact (ih.cons y).trans (List.Perm.swap x y _)
theorem filterMap_full {α:Type}:∀ {l:List (Option α)},(∀ o∈l,o≠none)→(l.filterMap id).length=l.length
 | [],_=>rfl
 | none::l,h=>absurd rfl (h none (.head _))
 | some x::l,h=>by
  simp [filterMap_full (l:=l) fun o ho=>h o (.tail _ ho)]
theorem Owners.free {owner:Array (Option Nat)} {mask k:Nat} (h:Owners owner mask k) (hk:k≤mask):∃ e,e≤mask∧owner[e]? = some none:=by
 refine Classical.byContradiction fun q=>?_
 have all:∀ o∈owner.toList,o≠none:=by
  rintro o ho rfl
  obtain ⟨i,hi⟩:=List.getElem?_of_mem ho
  have hi':owner[i]? = some none:=Array.getElem?_toList.symm.trans hi
  have:i<owner.size:=by
   rcases Nat.lt_or_ge i owner.size with z|z
   ·exact z
   ·rw [Array.getElem?_eq_none z] at hi';contradiction
  exact q ⟨i,Nat.le_of_lt_succ (Nat.lt_of_lt_of_le this (Nat.le_of_eq h.sz)),hi'⟩
 have h1:=(filterMap_full all).symm.trans h.perm.length_eq
 rw [List.length_range,Array.length_toList,h.sz] at h1
 exact Nat.not_succ_le_self _ (h1▸hk)
theorem layClean_fold (mask:Nat) (hm:mask=7∨mask=31):∀ (hs:List Int) (owner:Array (Option Nat)) (k:Nat),Owners owner mask k→k+hs.length≤mask+1 →
  ∃ owner',hs.foldl (fun (acc:Option (Array (Option Nat)×Nat)) h=>do
    let (owner,k) ← acc
    let j ← SetTable.layClean.free mask owner (SetTable.turns mask) (SetTable.bits h % (mask+1)) (SetTable.bits h)
    pure (owner.setIfInBounds j (some k),k+1)) (some (owner,k))=some (owner',k+hs.length)∧Owners owner' mask (k+hs.length)
 | [],owner,k,ho,_=>⟨owner,rfl,ho⟩
 | h::hs,owner,k,ho,hl=>by
  dsimp only [List.length_cons] at hl
  obtain ⟨e,he,hf⟩:=ho.free (Nat.le_of_lt_succ (Nat.lt_of_lt_of_le (Nat.lt_add_of_pos_right (Nat.succ_pos _)) hl))
  have hi:SetTable.bits h % (mask+1)≤mask:=Nat.le_of_lt_succ (Nat.mod_lt _ (Nat.succ_pos mask))
  obtain ⟨m,h1,h2⟩:=reach_all hm hi (bits_lt h) he
  obtain ⟨j,hj,hjm,hjn⟩:=free_some ho.sz (SetTable.turns mask) _ (SetTable.bits h) hi ⟨m,Nat.lt_succ_of_le (Nat.le_succ_of_le h1),by rw [h2];exact hf⟩
  have ho':Owners (owner.setIfInBounds j (some k)) mask (k+1):=by
   refine ⟨by rw [Array.size_setIfInBounds];exact ho.sz,?_⟩
   rw [Array.toList_setIfInBounds]
   refine (filterMap_set (Array.getElem?_toList.trans hjn)).trans ?_
   rw [List.range_succ]
   exact (ho.perm.cons k).trans (List.perm_append_singleton k _).symm
  obtain ⟨owner',h3,h4⟩:=layClean_fold mask hm hs _ (k+1) ho' (Nat.add_right_comm k 1 _▸hl)
  refine ⟨owner',?_,(Nat.add_right_comm k 1 _▸h4 :)⟩
  rw [List.foldl_cons]
  simp only [Option.bind_eq_bind,Option.bind_some,hj,Option.pure_def]
  simp only [Option.bind_eq_bind,Option.pure_def] at h3
  rw [h3,List.length_cons,Nat.add_right_comm];rfl
theorem layClean_some (mask:Nat) (hm:mask=7∨mask=31) (hs:Array Int) (hl:hs.size≤mask+1):∃ owner,SetTable.layClean mask hs=some owner∧Owners owner mask hs.size:=by
 have h0:Owners (Array.replicate (mask+1) none) mask 0:=⟨by simp,by
  rw [Array.toList_replicate]
  have:(List.replicate (mask+1) (none:Option Nat)).filterMap id=[]:=by
   rw [List.filterMap_eq_nil_iff]
   intro a ha
   rw [List.mem_replicate] at ha
   rw [ha.2];rfl
  rw [this];exact List.Perm.refl _⟩
 obtain ⟨owner,h1,h2⟩:=layClean_fold mask hm hs.toList _ 0 h0 (by simpa using hl)
 refine ⟨owner,?_,by simpa using h2⟩
 delta SetTable.layClean
 rw [← Array.foldl_toList,h1]
 rfl
theorem live_rising {owner:Array (Option Nat)} {mask:Nat}:∀ (n a:Nat),Rising (((List.range' a n).filterMap fun j=>(owner.getD j none).map (j,·)).map (·.1)).toArray∧∀ x∈((List.range' a n).filterMap fun j=>(owner.getD j none).map (j,·)).map (·.1),a≤x∧x<a+n
 | 0,a=>by
  refine ⟨fun i j x y o_ hx=>by contradiction,fun x hx=>by contradiction⟩
 | n+1,a=>by
  obtain ⟨h1,h2⟩:=live_rising (owner:=owner) (mask:=mask) n (a+1)
  rw [List.range'_succ,List.filterMap_cons]
  cases ho:(owner.getD a none).map (a,·) with
  | none=>exact ⟨h1,fun x hx=>⟨Nat.le_of_succ_le (h2 x hx).1,by rw [← Nat.add_assoc,Nat.add_right_comm];exact (h2 x hx).2⟩⟩
  | some p=>
   have hp:p.1=a:=by
    rcases q:owner.getD a none with _|y
    ·rw [q] at ho;contradiction
    ·rw [q] at ho;simp at ho;rw [← ho]
   simp only [List.map_cons]
   refine ⟨fun i j x y hlt hx hy=>?_,fun x hx=>?_⟩
   ·cases j with
    | zero=>exact absurd hlt (Nat.not_lt_zero _)
    | succ j=>
     have hy':(((List.range' (a+1) n).filterMap fun j=>(owner.getD j none).map (j,·)).map (·.1))[j]? = some y:=by simpa using hy
     cases i with
     | zero=>
      have hx':p.1=x:=Option.some.inj hx
      have:=(h2 y (List.mem_of_getElem? hy')).1
      exact hx'▸hp▸this
     | succ i=>
      have hx':(((List.range' (a+1) n).filterMap fun j=>(owner.getD j none).map (j,·)).map (·.1))[i]? = some x:=by simpa using hx
      exact h1 i j x y (by exact Nat.le_of_lt_succ (by assumption)) (by exact Array.getElem?_toList.symm.trans hx') (by exact Array.getElem?_toList.symm.trans hy')
   ·rcases List.mem_cons.mp hx with rfl|hx
    ·exact ⟨Nat.le_of_eq hp.symm,hp▸Nat.lt_add_of_pos_right (Nat.succ_pos _)⟩
    ·exact ⟨Nat.le_of_succ_le (h2 x hx).1,by rw [← Nat.add_assoc,Nat.add_right_comm];exact (h2 x hx).2⟩
theorem live_snd {owner:Array (Option Nat)}:∀ (l:List Nat),(l.filterMap fun j=>(owner.getD j none).map (j,·)).map (·.2)=(l.map fun j=>owner.getD j none).filterMap id
 | []=>rfl
 | j::l=>by
  have ih:=live_snd (owner:=owner) l
  rw [List.filterMap_cons,List.map_cons,List.filterMap_cons]
  rcases h:owner.getD j none with _|x
  ·exact ih
  ·
   show x::((l.filterMap fun j=>(owner.getD j none).map (j,·)).map (·.2))=x::((l.map fun j=>owner.getD j none).filterMap id)
   rw [ih]
theorem getD_range (owner:Array (Option Nat)):(List.range owner.size).map (fun j=>owner.getD j none)=owner.toList:=by
 apply List.ext_getElem?
 intro i
 rw [List.getElem?_map]
 by_cases h:i<owner.size
 ·rw [List.getElem?_range h]
  simp [Array.getD,h]
 ·rw [List.getElem?_eq_none (by simpa using h),List.getElem?_eq_none (by simpa using h)]
  rfl
theorem laid_some {mask finger moves:Nat} {led plain:Bool} (hm:mask=7∨mask=31) (hs:Array Int) (hl:hs.size≤mask) :
  ∃ t order,SetTable.laid mask finger moves led plain hs=some (t,order)∧Tb t hs.size∧order.toList.Perm (List.range hs.size)∧t.mask=mask∧t.led=led∧t.plain=plain∧t.moves=moves:=by
 obtain ⟨owner,h1,h2⟩:=layClean_some mask hm hs (Nat.le_succ_of_le (by assumption))
 have hr:List.range (mask+1)=List.range' 0 (mask+1):=List.range_eq_range'
 have hsnd:(((List.range (mask+1)).filterMap fun j=>(owner.getD j none).map (j,·)).map (·.2)).Perm (List.range hs.size):=by
  rw [live_snd,← h2.sz,getD_range]
  exact h2.perm
 refine ⟨_,_,by delta SetTable.laid;rw [h1];rfl,⟨?_,?_,rfl,?_,hl⟩,hsnd,rfl,rfl,rfl,rfl⟩
 ·have:=hsnd.length_eq
  simp at this ⊢
  exact this
 ·skip
  rw [hr]
  exact (live_rising (owner:=owner) (mask:=mask) (mask+1) 0).1
 ·intro i a ha
  have ha':(((List.range (mask+1)).filterMap fun j=>(owner.getD j none).map (j,·)).map (·.1))[i]? = some a:=by
   have:(((List.range (mask+1)).filterMap fun j=>(owner.getD j none).map (j,·)).map (·.1)).toArray[i]? = some a:=ha
   exact Array.getElem?_toList.trans this
  rw [hr] at ha'
  have:=(live_rising (owner:=owner) (mask:=mask) (mask+1) 0).2 a (List.mem_of_getElem? ha')
  exact Nat.le_of_lt_succ (Nat.lt_of_lt_of_le this.2 (Nat.le_of_eq (Nat.zero_add _)))
section
variable {prog:Program} {w:World} {A:Around} {Er:Value→Shared→Prop} {s:Shared}
theorem ofClass_atom (n:Nat) {k:At} {x:Value} (h:k.isV x=true):ofAClassStatement n x=pure false:=by
 cases k with
 | i m=>obtain ⟨t,rfl⟩:=At.isI h;cases n <;> rfl
 | s y=>obtain ⟨t,rfl⟩:=At.isS h;cases n <;> rfl
theorem items_atom {ks:List At} {xs:List Value} (h:ItemsAre (atKind prog w) ks xs):∀ x∈xs,∃ k:At,k.isV x=true:=by
 induction h with
 | nil=>intro x hx;contradiction
 | @cons k v ks vs h1 h2 ih=>
  intro x hx
  rcases List.mem_cons.mp hx with rfl|hx
  ·exact ⟨k,h1⟩
  ·exact ih x hx
theorem ofClass_tup {ks:List At} {a:Addr} {Q:Bool→Shared→Prop} (hk:IsTupleKey (atKind prog w) s.heap ks a) (h:Q false s):wpAny (model prog w) A (ofAClassStatement 8 (.ref a)) Q Er s:=by
 have hT:=hk.typeIs
 obtain ⟨o,items,n,ho,_,hd,hi⟩:=hk
 unfold ofAClassStatement
 refine wpAny_bind (wpAny_typeOf hT ?_)
 skip
 refine wpAny_bind (wpAny_pure ?_)
 skip
 refine wpAny_bind (wpAny_seqItems ho hd ?_)
 refine wpAny_bind ?_
 skip
 rw [← Array.forIn_toList]
 refine wpAny_forIn_list _ (fun rest r s'=>r.1=none∧s'=s∧∀ v∈rest,∃ k:At,k.isV v=true) _ ?_ ?_ _ _ ⟨rfl,rfl,items_atom hi⟩
 ·rintro v rest r s' ⟨hr,rfl,hall⟩
  obtain ⟨k,hk⟩:=hall v (.head _)
  rw [ofClass_atom _ hk]
  refine wpAny_bind (wpAny_pure ?_)
  skip
  exact wpAny_pure ⟨rfl,rfl,fun u hu'=>hall u (.tail _ hu')⟩
 ·rintro ⟨r1,r2⟩ s' ⟨hr,rfl,_⟩
  simp only at hr
  subst hr
  exact wpAny_pure h
theorem unseen_tup {k:List At} {x:Addr} {ys:List Value} {Q:Bool→Shared→Prop} (hk:IsTupleKey (atKind prog w) s.heap k x) (hy:∀ y∈ys,∃ k' b,y=.ref b∧IsTupleKey (atKind prog w) s.heap k' b) (h:Q false s) :
  wpAny (model prog w) A (searchCouldBeSeen (.ref x) ys) Q Er s:=by
 skip
 refine wpAny_bind ?_
 refine wpAny_forIn_list _ (fun rest r s'=>r.1=none∧s'=s∧∀ y∈rest,∃ k' b,y=.ref b∧IsTupleKey (atKind prog w) s.heap k' b) _ ?_ ?_ _ _ ⟨rfl,rfl,hy⟩
 ·rintro v rest r s' ⟨hr,rfl,hall⟩
  obtain ⟨k',b,rfl,hb⟩:=hall v (.head _)
  have rest':∀ y∈rest,∃ k' b,y=Value.ref b∧IsTupleKey (atKind prog w) s'.heap k' b:=fun u hu'=>hall u (.tail _ hu')
  dsimp only
  by_cases q:(x==b)=true
  ·refine wpAny_ite_split (fun o_=>wpAny_pure ⟨rfl,rfl,rest'⟩) fun z=>absurd (by rw [q];rfl) z
  ·have hc:(x==b || carriedByValue (.ref x) && carriedByValue (.ref b))=false:=by
    have:(x==b)=false:=by simpa using q
    rw [this];rfl
   refine wpAny_ite_split (fun z=>absurd (hc.symm.trans z) Bool.noConfusion) fun o_=>?_
   refine wpAny_bind (wpAny_eqIsQuiet_tuple hk ?_)
   skip
   refine wpAny_bind (wpAny_eqIsQuiet_tuple hb ?_)
   skip
   refine wpAny_bind (ofClass_tup hk ?_)
   skip
   refine wpAny_bind (ofClass_tup hb ?_)
   skip
   exact wpAny_pure ⟨rfl,rfl,rest'⟩
 ·rintro ⟨r1,r2⟩ s' ⟨hr,rfl,_⟩
  simp only at hr
  subst hr
  exact wpAny_pure h
structure TSet (prog:Program) (w:World) (h:Heap) (S:Addr) (es:Array (Int×Value)) (ep:Nat) (t:SetTable) (L:List (List At×Addr)):Prop where
 ob:h.get? S=some { cls:=.type "set",dict:=none,data:=.set es ep t }
 tb:Tb t es.size
 mask:t.mask=7∨t.mask=31
 el:∀ e∈es.toList,∃ p∈L,e=(tupleKeyHash (atKind prog w) p.1,Value.ref p.2)∧IsTupleKey (atKind prog w) h p.1 p.2
theorem Tb.fits {t:SetTable} {n:Nat} (h:Tb t n):t.fits n=true:=by
 delta SetTable.fits SetTable.fill
 have h1:=h.sz
 have h2:=h.fill
 rw [h.dum]
 simp
 omega
theorem search_tup {S:Addr} {es:Array (Int×Value)} {ep:Nat} {t:SetTable} {L:List (List At×Addr)} (Z:TSet prog w s.heap S es ep t L) {k:List At} {x:Addr} {Q:SetFound→Shared→Prop}
  (hk:IsTupleKey (atKind prog w) s.heap k x) (hu:A.units<cLine) (hfree:∀ j,t.slot j=.empty→j≤t.mask→Q (.free j false) s) (hthere:(∃ e∈es.toList,∃ p∈L,p.1=k∧e=(tupleKeyHash (atKind prog w) p.1,Value.ref p.2))→Q (.there none) s) :
  ∀ (fuel m:Nat) (stand:Option SetTable.Probe),Hit t m (stand.getD (t.probeStart (tupleKeyHash (atKind prog w) k)))→m<fuel→m≤10*(t.mask+13)+10→Vp t (stand.getD (t.probeStart (tupleKeyHash (atKind prog w) k))) →
   wpAny (model prog w) A (setSearchFrom S (.ref x) (tupleKeyHash (atKind prog w) k) true fuel stand) Q Er s:=by
 intro fuel
 induction fuel with
 | zero=>intro m _ _ hm;exact absurd hm (Nat.not_lt_zero _)
 | succ fuel ih=>
  intro m stand hh hm hb v
  have hst:∀ {Q':(Array (Int×Value)×Nat×SetTable)→Shared→Prop},Q' (es,ep,t) s→wpAny (model prog w) A (setState S) Q' Er s:=fun q=>wpAny_setState_of Z.ob rfl Z.tb.fits q
  refine wpAny_bind (hst ?_)
  have hg:t.gaveWay=false:=by
   delta SetTable.gaveWay
   rcases Z.mask with e|e <;> rw [e] <;> rfl
  dsimp only
  refine wpAny_ite_split (fun z=>absurd (hg.symm.trans z) Bool.noConfusion) fun o_=>?_
  rcases probe_met Z.tb Z.mask (hashAt:=fun i=>(es[i]?.map (·.1)).getD 0) (hs:=tupleKeyHash (atKind prog w) k) hh hb v with ⟨j,e,hs,hj⟩|⟨j,i,next,e,hp,hha,vn,m',hm',hn⟩
  ·generalize hq:t.probe _ _ (stand.getD (t.probeStart (tupleKeyHash (atKind prog w) k)))=r
   have e':r=some (.empty j none):=hq.symm.trans e
   subst e'
   exact wpAny_pure (hfree j hs hj)
  ·generalize hq:t.probe _ _ (stand.getD (t.probeStart (tupleKeyHash (atKind prog w) k)))=r
   have e':r=some (.candidate j i next):=hq.symm.trans e
   subst e'
   have hi:i<es.size:=by
    have:i<t.place.size:=by
     rcases Nat.lt_or_ge i t.place.size with q|q
     ·exact q
     ·rw [Array.getElem?_eq_none q] at hp;contradiction
    rw [← Z.tb.sz];exact this
   have hme:es[i]∈es.toList:=by simp
   obtain ⟨p,hpL,hpe,hpk⟩:=Z.el _ hme
   have hei:es[i]? = some (tupleKeyHash (atKind prog w) p.1,Value.ref p.2):=by rw [Array.getElem?_eq_getElem hi,hpe]
   have rest:wpAny (model prog w) A (do
     let some (_,y):=es[i]? | unsupported "internal:set-entry"
     let equal ← holding [y] (eqBool y (.ref x))
     let (es',_,t') ← setState S
     if true && equal then return SetFound.there none
     let some same:=t'.sameMemory t.moves t.mask | unsupported "set.changed-during-lookup:is-the-new-block-at-the-old-address"
     let still ← match (if same then t'.slot j else .empty) with
      | .live i'=>match es'[i']? with
       | some (_,y')=>do pure (if ← isSame y' y then some i' else none)
       | none=>pure none
      | _=>pure none
     match still with
     | none=>rule "set.search.anew";setSearchFrom S (.ref x) (tupleKeyHash (atKind prog w) k) true fuel none
     | some i'=>if equal then return SetFound.there (some i') else setSearchFrom S (.ref x) (tupleKeyHash (atKind prog w) k) true fuel (some next)) Q Er s:=by
    rw [hei]
    dsimp only
    refine wpAny_bind (wpAny_holding (wpAny_eqBool_tuple hu hpk hk ?_))
    refine wpAny_bind (hst ?_)
    dsimp only
    by_cases q:p.1=k
    ·exact wpAny_ite_split (fun o_=>wpAny_pure (hthere ⟨_,hme,p,hpL,q,by rw [hpe,q]⟩)) fun z=>absurd (decide_eq_true q) z
    ·refine wpAny_ite_split (fun z=>absurd (of_decide_eq_true z) q) fun o_=>?_
     have hsm:t.sameMemory t.moves t.mask=some true:=by delta SetTable.sameMemory;simp
     rw [hsm]
     dsimp only
     rw [if_pos rfl,slot_live Z.tb hp]
     dsimp only
     rw [hei]
     dsimp only
     refine wpAny_bind (wpAny_isSame_ref_self (wpAny_bind (wpAny_pure ?_)))
     show wpAny _ A (if decide (p.1=k)=true then _ else _) _ _ _
     refine wpAny_ite_split (fun z=>absurd (of_decide_eq_true z) q) fun o_=>?_
     exact ih m' (some next) hn (by omega) (by exact Nat.le_trans (Nat.le_of_lt (by assumption)) (by assumption)) vn
   dsimp only
   rcases hl:t.led with _|_
   ·
    refine wpAny_ite_split (fun o_=>?_) fun z=>absurd rfl z
    refine wpAny_bind (unseen_tup hk ?_ ?_)
    ·intro y hy
     obtain ⟨e0,he0,rfl⟩:=List.mem_map.mp hy
     have he1:e0∈es.toList:=by
      have h1:e0∈es.toList.filter (fun e=>e.1==tupleKeyHash (atKind prog w) k):=by simpa using he0
      exact (List.mem_filter.mp h1).1
     obtain ⟨p',hp',e1,k1⟩:=Z.el _ he1
     exact ⟨p'.1,p'.2,by rw [e1],k1⟩
    ·skip
     exact rest
   ·
    exact wpAny_ite_split (fun z=>Bool.noConfusion z) fun o_=>rest
end
section
variable {prog:Program} {w:World} {A:Around} {Er:Value→Shared→Prop} {s:Shared}
theorem hashBy_atom (n:Nat) {k:At} {x:Value} (h:k.isV x=true):∃ b,hashByValue n x=pure b:=by
 cases k with
 | i m=>obtain ⟨t,rfl⟩:=At.isI h;exact ⟨_,hashByValue_scannable n rfl⟩
 | s y=>obtain ⟨t,rfl⟩:=At.isS h;exact ⟨_,hashByValue_scannable n rfl⟩
theorem hashBy_tup {ks:List At} {a:Addr} {Q:Bool→Shared→Prop} (hk:IsTupleKey (atKind prog w) s.heap ks a) (h:∀ b,Q b s):wpAny (model prog w) A (hashByValue 8 (.ref a)) Q Er s:=by
 have hT:=hk.typeIs
 obtain ⟨o,items,n,ho,_,hd,hi⟩:=hk
 skip
 refine wpAny_bind (wpAny_specialOf hT F.slot_tuple_hash.lookup ?_)
 dsimp only
 refine wpAny_bind (wpAny_seqItems ho hd ?_)
 refine wpAny_bind ?_
 skip
 rw [← Array.forIn_toList]
 refine wpAny_forIn_list _ (fun rest r s'=>r.1=none∧s'=s∧∀ v∈rest,∃ k:At,k.isV v=true) _ ?_ ?_ _ _ ⟨rfl,rfl,items_atom hi⟩
 ·rintro v rest r s' ⟨hr,rfl,hall⟩
  obtain ⟨k,hk⟩:=hall v (.head _)
  obtain ⟨b,hb⟩:=hashBy_atom 7 hk
  rw [hb]
  refine wpAny_bind (wpAny_pure ?_)
  rcases b with _|_
  ·
   skip
   exact wpAny_pure (wpAny_pure (h _))
  ·
   skip
   exact wpAny_pure ⟨rfl,rfl,fun u hu'=>hall u (.tail _ hu')⟩
 ·rintro ⟨r1,r2⟩ s' ⟨hr,rfl,_⟩
  simp only at hr
  subst hr
  exact wpAny_pure (h _)
theorem TSet.next {h:Heap} {S:Addr} {es es':Array (Int×Value)} {ep:Nat} {t t':SetTable} {L:List (List At×Addr)} (Z:TSet prog w h S es ep t L)
  (tb:Tb t' es'.size) (mask:t'.mask=7∨t'.mask=31) (el:∀ e∈es'.toList,∃ p∈L,e=(tupleKeyHash (atKind prog w) p.1,Value.ref p.2)∧IsTupleKey (atKind prog w) h p.1 p.2) :
  TSet prog w (h.update S (Obj.putSet es' t')) S es' (ep+1) t' L where
 ob:=by
  have:=Heap.get?_update_self (Obj.putSet es' t') Z.ob rfl
  rw [putSet_of es' t' (o:={ cls:=.type "set",dict:=none,data:=.set es ep t }) rfl] at this
  exact this
 tb:=tb
 mask:=mask
 el e he:=by
  obtain ⟨p,h1,h2,o,items,n,ho,hc,hd,hi⟩:=el e he
  refine ⟨p,h1,h2,o,items,n,?_,hc,hd,hi⟩
  have hne:p.2≠S:=by
   intro q
   rw [q,Z.ob] at ho
   (injection ho with ho;subst ho)
   contradiction
  rw [(Heap.SameBut.update h S (Obj.putSet es' t')).2 p.2 hne];exact ho
theorem order_perm {α:Type} {es:Array α} {order:Array Nat} (h:order.toList.Perm (List.range es.size)):(order.filterMap (es[·]?)).toList.Perm es.toList:=by
 rw [Array.toList_filterMap]
 have h1:=h.filterMap (es[·]?)
 have h2:(List.range es.size).filterMap (es[·]?)=es.toList:=by
  have:∀ (l:List α),(List.range l.length).filterMap (l[·]?)=l:=by
   intro l
   induction l with
   | nil=>rfl
   | cons x l ih=>
    rw [List.length_cons,List.range_succ_eq_map,List.filterMap_cons]
    simp only [List.getElem?_cons_zero,List.filterMap_map]
    congr 1
  have h3:=this es.toList
  rw [Array.length_toList] at h3
  rw [← h3]
  congr 1
  funext i
  simp
 rw [h2] at h1
 exact h1
noncomputable def Cap (t:SetTable) (n:Nat):Prop:=(t.mask=7∧n≤4)∨(t.mask=31∧n≤16)
theorem add_tup {S:Addr} {es:Array (Int×Value)} {ep:Nat} {t:SetTable} {L:List (List At×Addr)} (Z:TSet prog w s.heap S es ep t L) (hc:Cap t es.size) (hz:es.size<16) {k:List At} {x:Addr} {Q:Bool→Shared→Prop}
  (hk:IsTupleKey (atKind prog w) s.heap k x) (hx:(k,x)∈L) (hu:A.units<cLine)
  (q:∀ b h' es' ep' t',TSet prog w h' S es' ep' t' L→Cap t' es'.size→es'.size≤es.size+1→t'.led=t.led→Heap.SameBut S s.heap h'→(∀ e∈es.toList,e∈es'.toList)→(∃ e∈es'.toList,∃ p∈L,p.1=k∧e=(tupleKeyHash (atKind prog w) p.1,Value.ref p.2))→Q b { s with heap:=h' }) :
  wpAny (model prog w) A (setAddHashed S (.ref x) (tupleKeyHash (atKind prog w) k)) Q Er s:=by
 have hst:∀ {Q':(Array (Int×Value)×Nat×SetTable)→Shared→Prop},Q' (es,ep,t) s→wpAny (model prog w) A (setState S) Q' Er s:=fun q=>wpAny_setState_of Z.ob rfl Z.tb.fits q
 skip
 refine wpAny_holding (wpAny_bind (hst ?_))
 dsimp only
 have hbs:byScan (.ref x) es=false:=by skip;rfl
 skip
 refine wpAny_bind ?_
 have hv:=vp_first (t:=t) (tupleKeyHash (atKind prog w) k)
 have hb:10*(t.mask+13)+10<100000:=by rcases Z.mask with e | e <;> rw [e] <;> decide
 skip
 refine search_tup Z hk hu (fun j hs hj=>?_) (fun hth=>?_) 100000 _ none (hit_all Z.tb Z.mask hv) hb (Nat.le_refl _) hv
 ·dsimp only
  refine wpAny_bind (hst ?_)
  dsimp only
  have hempty:=slot_empty Z.tb hs
  have hfl:es.size+1≤t.mask:=by rcases hc with ⟨h1,h2⟩ | ⟨h1,h2⟩ <;> rw [h1] <;> exact Nat.le_trans (Nat.succ_le_succ h2) (by decide)
  obtain ⟨pt,pp,pm,pl,ppl,pmv⟩:=put_tb Z.tb hempty hj hfl
  generalize hput:t.put j=P at pt pp pm pl ppl pmv ⊢
  obtain ⟨t1,p1⟩:=P
  dsimp only at pt pp pm pl ppl pmv ⊢
  subst pp
  have hins:(SetTable.insertAt es (SetTable.below t.place j) (tupleKeyHash (atKind prog w) k,Value.ref x)).toList.Perm (es.toList++[(tupleKeyHash (atKind prog w) k,Value.ref x)]):=by
   rw [ins_list]
   have h1:=List.take_append_drop (SetTable.below t.place j) es.toList
   have h2:(es.toList.take (SetTable.below t.place j)++(tupleKeyHash (atKind prog w) k,Value.ref x)::es.toList.drop (SetTable.below t.place j)).Perm ((tupleKeyHash (atKind prog w) k,Value.ref x)::(es.toList.take (SetTable.below t.place j)++es.toList.drop (SetTable.below t.place j))):=List.perm_middle
   rw [h1] at h2
   exact h2.trans (List.perm_append_singleton _ _).symm
  generalize hes1:SetTable.insertAt es (SetTable.below t.place j) (tupleKeyHash (atKind prog w) k,Value.ref x)=es1 at hins ⊢
  have hsz:es1.size=es.size+1:=by
   have:=hins.length_eq
   simpa using this
  have hel1:∀ e∈es1.toList,∃ p∈L,e=(tupleKeyHash (atKind prog w) p.1,Value.ref p.2)∧IsTupleKey (atKind prog w) s.heap p.1 p.2:=by
   intro e he
   rcases List.mem_append.mp (hins.mem_iff.mp he) with h|h
   ·exact Z.el e h
   ·rw [List.mem_singleton] at h
    exact ⟨(k,x),hx,h,hk⟩
  have hold1:∀ e∈es.toList,e∈es1.toList:=fun e he=>hins.mem_iff.mpr (List.mem_append_left _ he)
  have hnew1:∃ e∈es1.toList,∃ p∈L,p.1=k∧e=(tupleKeyHash (atKind prog w) p.1,Value.ref p.2):=⟨_,hins.mem_iff.mpr (List.mem_append_right _ (.head _)),(k,x),hx,rfl,rfl⟩
  have main:∀ (b:Bool),wpAny (model prog w) A (do
    let t2:=if b then t1 else { t1 with plain:=false }
    storeSet S es1 t2
    if (!false && t2.tooFull)=true then setRelay S (SetTable.grown (es.size+1))
    return true) Q Er s:=by
   intro b
   dsimp only
   have tb2:∀ n,Tb t1 n→Tb (if b=true then t1 else { t1 with plain:=false }) n:=by
    intro n h
    cases b
    ·exact ⟨h.sz,h.rise,h.dum,h.max,h.fill⟩
    ·exact h
   have m2:(if b=true then t1 else { t1 with plain:=false }).mask=t.mask:=by cases b <;> exact pm
   have l2:(if b=true then t1 else { t1 with plain:=false }).led=t.led:=by cases b <;> exact pl
   generalize ht2:(if b=true then t1 else { t1 with plain:=false })=t2 at tb2 m2 l2 ⊢
   have tb2':Tb t2 es1.size:=by rw [hsz];exact tb2 _ pt
   have Z2:=Z.next tb2' (by rw [m2];exact Z.mask) hel1
   have hsb:Heap.SameBut S s.heap (s.heap.update S (Obj.putSet es1 t2)):=Heap.SameBut.update _ _ _
   have hline:es1.size≤sizeLine:=fits_of_scanBound (by rw [hsz];exact Nat.le_trans (Nat.succ_le_succ hz) (Nat.le_of_ble_eq_true rfl))
   refine wpAny_bind (wpAny_storeSet_of Z.ob rfl ?_ hline)
   by_cases hfull:t2.tooFull=true
   ·refine wpAny_ite_split (fun o_=>?_) fun z=>absurd (by rw [hfull];rfl) z
    refine wpAny_bind ?_
    skip
    refine wpAny_bind (wpAny_setState_of Z2.ob rfl tb2'.fits ?_)
    dsimp only
    have hfive:t2.mask=7∧es1.size=5:=by
     unfold SetTable.tooFull SetTable.fill at hfull
     have h1:=tb2'.sz
     have h2:=tb2'.dum
     rw [h1,h2] at hfull
     simp at hfull
     rcases hc with ⟨h3,h4⟩|⟨h3,h4⟩ <;> rw [m2,h3] at hfull <;> rw [m2] <;> omega
    have hgr:SetTable.grown (es.size+1)=20:=by
     rw [← hsz,hfive.2];decide
    rw [hgr]
    have hab:SetTable.sizeAbove 20=32:=by decide
    rw [hab]
    have hsl:¬ (32 > sizeLine):=by rw [sizeLine_eq];decide
    rw [if_neg hsl]
    obtain ⟨t3,order,e3,tb3,op,m3,l3,p3,v3⟩:=laid_some (mask:=31) (finger:=t2.finger) (moves:=t2.movedTo 31) (led:=t2.led) (plain:=t2.plain) (.inr rfl) (es1.map (·.1)) (by rw [Array.size_map,hfive.2];decide)
    have hrel:t2.relaid (es1.map (·.1)) 20=some (t3,order):=by
     delta SetTable.relaid
     rw [hab]
     exact e3
    rw [hrel]
    have op':(order.filterMap (es1[·]?)).toList.Perm es1.toList:=order_perm (by simpa using op)
    have sz3:(order.filterMap (es1[·]?)).size=es1.size:=by
     have:=op'.length_eq
     rw [Array.length_toList,Array.length_toList] at this
     exact this
    refine wpAny_bind ?_
    show wpAny _ _ (if ((order.filterMap (es1[·]?)).size != es1.size)=true then _ else _) _ _ _
    rw [if_neg (by simp [sz3])]
    refine wpAny_pure ?_
    dsimp only
    have el3:∀ e∈(order.filterMap (es1[·]?)).toList,∃ p∈L,e=(tupleKeyHash (atKind prog w) p.1,Value.ref p.2)∧IsTupleKey (atKind prog w) (s.heap.update S (Obj.putSet es1 t2)) p.1 p.2:=fun e he=>Z2.el e (op'.mem_iff.mp he)
    have tb3':Tb t3 (order.filterMap (es1[·]?)).size:=by
     rw [sz3]
     have:(es1.map (·.1)).size=es1.size:=by simp
     rw [this] at tb3
     exact tb3
    have Z3:=Z2.next tb3' (.inr m3) el3
    have hline3:(order.filterMap (es1[·]?)).size≤sizeLine:=by rw [sz3];exact hline
    refine wpAny_storeSet_of Z2.ob rfl (wpAny_pure ?_) hline3
    refine q _ _ _ _ _ Z3 (.inr ⟨m3,by rw [sz3,hsz];exact hz⟩) (Nat.le_of_eq (sz3.trans hsz)) (l3.trans l2) (hsb.trans (Heap.SameBut.update _ _ _)) (fun e he=>op'.mem_iff.mpr (hold1 e he)) ?_
    obtain ⟨e,h1,p,h2,h3,h4⟩:=hnew1
    exact ⟨e,op'.mem_iff.mpr h1,p,h2,h3,h4⟩
   ·have hf:t2.tooFull=false:=by simpa using hfull
    refine wpAny_ite_split (fun z=>by rw [hf] at z;simp at z) fun o_=>wpAny_pure ?_
    refine q _ _ _ _ _ Z2 ?_ (Nat.le_of_eq hsz) l2 hsb hold1 hnew1
    skip
    delta SetTable.tooFull SetTable.fill at hf
    have h1:=tb2'.sz
    have h2:=tb2'.dum
    rw [h1,h2] at hf
    simp at hf
    rcases hc with ⟨h3,h4⟩|⟨h3,h4⟩
    ·left;rw [m2,h3] at hf;rw [m2];omega
    ·right;rw [m2,hsz];exact ⟨h3,hz⟩
  rcases hpl:t1.plain with _|_
  ·
   skip
   exact wpAny_bind (wpAny_pure (main true))
  ·
   skip
   refine wpAny_bind (hashBy_tup hk fun b=>?_)
   exact main b
 ·dsimp only
  refine wpAny_pure ?_
  obtain ⟨e,he,p,hp,h1,h2⟩:=hth
  exact q _ s.heap es ep t Z hc (Nat.le_succ _) rfl (Heap.SameBut.refl _ _) (fun o_ h=>h) ⟨e,he,p,hp,h1,h2⟩
end
section
variable {prog:Program} {w:World} {A:Around} {Er:Value→Shared→Prop} {s:Shared}
noncomputable def AddsAt (prog:Program) (w:World) (u:Nat) (S:Addr) (items:Array Value) (J:Nat→Heap→Prop):Prop:=
 ∀ (A:Around) (Er:Value→Shared→Prop) (Q:Bool→Shared→Prop) (i:Nat) (v:Value) (s:Shared),A.units≤u+3→items[i]? = some v→J i s.heap →
  (∀ b h' tk,s.toks≤tk→Heap.SameBut S s.heap h'→J (i+1) h'→Q b { s with heap:=h',toks:=tk })→wpAny (model prog w) A (setAdd S v) Q Er s
noncomputable def Stays (S I:Addr) (J:Nat→Heap→Prop):Prop:=∀ i h h',J i h→(∀ b o,b≠I→h.get? b=some o→h'.get? b=some o)→J i h'
theorem set_loop {l I S:Addr} {items:Array Value} {u:Nat} {J:Nat→Heap→Prop} {R:Result→Shared→Prop} (hh:A.handled=none) (hne:l≠I) (hSl:S≠l) (hSI:S≠I) (hu:A.in1.units≤u+3)
  (add:AddsAt prog w u S items J) (stay:Stays S I J) :
  ∀ (k i:Nat) (s:Shared),i+k=items.size→s.heap.IsListIter I l i→s.heap.IsList l items→J i s.heap →
   (∀ s',Moved [S,I] (fun a b=>b=a) s s'→J items.size s'.heap→R (.ok (.ret .none)) s') →
   codeAny (model prog w) A (.builtin "set.update.loop" ⟨[.ref S,.ref I],[]⟩) R s:=by
 have W:=(Walks.list (prog:=prog) (w:=w) (A:=A.in1) (hh) I l hne items).toS
 intro k
 induction k with
 | zero=>
  intro i s hk h1 h2 hJ hR
  obtain rfl:i=items.size:=hk
  refine codeAny_builtin F.entry_set_update_loop ?_
  rw [Around.under_plainId F.plain_set_update_loop _]
  skip
  refine wpAny_bind (W.done s _ _ ⟨h1,h2⟩ fun s' hm=>?_)
  skip
  exact wpAny_pure (hR s' (hm.mono fun b hb=>.tail _ hb) (stay _ _ _ hJ fun b o hb e=>hm.heap b o (by simpa using hb) e))
 | succ k ih=>
  intro i s hk h1 h2 hJ hR
  have hlt:i<items.size:=hk▸Nat.lt_add_of_pos_right (Nat.succ_pos k)
  refine codeAny_builtin F.entry_set_update_loop ?_
  rw [Around.under_plainId F.plain_set_update_loop _]
  skip
  refine wpAny_bind (W.item i s _ _ hlt ⟨h1,h2⟩ fun v s' hP hst' hm=>?_)
  skip
  refine wpAny_bind (wpAny_holding ?_)
  refine add _ _ _ i v s' hu hP (stay _ _ _ hJ fun b o hb e=>hm.heap b o (by simpa using hb) e) fun b h' tk htk hsb hJ'=>?_
  have st2:=W.frame (i+1) s' h' tk hst' htk fun b hb o e=>by
   have:b≠S:=by
    intro q;subst q
    simp at hb
    rcases hb with q|q
    ·exact hSI q
    ·exact hSl q
   rw [hsb.2 b this];exact e
  refine wpAny_pure ⟨plainId_quiet F.plain_set_update_loop _,ih (i+1) _ ((Nat.add_right_comm i 1 k).trans hk) st2.1 st2.2 hJ' fun s'' hm'' hJ''=>?_⟩
  refine hR s'' (Moved.trans W.gtrans ((hm.mono fun b hb=>.tail _ hb).then_heap htk fun b o hb e=>?_) hm'') hJ''
  rw [hsb.2 b (fun h:b=S=>hb (by rw [h];exact .head _))];exact e
noncomputable def byT (w:World):Bool:=w.params.followText "set-order"
noncomputable def freshSet (w:World):Obj:={ cls:=.type "set",dict:=none,data:=.set #[] 0 (.fresh 0 0 (!byT w)) }
theorem code_set_new {a:Value} {Q₁:Value→Shared→Prop} (h:Q₁ (.ref s.heap.objs.size) { s with heap:=s.heap.push (freshSet w) }) :
  codeAny (model prog w) A (.call (.builtin "set.__new__") ⟨[.type "set",a],[]⟩) (wants Q₁ Er) s:=by
 refine codeAny_of_tree ?_
 skip
 refine wpAny_bind (wpAny_of_eq (F.newCall_set_1 a) (wpAny_pure ⟨plainId_quiet F.plain_set_new _,codeAny_builtin F.entry_set_new ?_⟩))
 rw [Around.under_plainId F.plain_set_new _]
 delta Builtin.«set.__new__» Builtin.Frozenset.newClass
 have hsub:=sub_set_self
 obtain ⟨hp,g,d,tk,os⟩:=s
 dsimp only
 wp_walk
 refine wpAny_askSetting (wpAny_pure ?_)
 dsimp only
 skip
 refine wpAny_bind (wpAny_alloc (wpAny_pure ?_))
 exact wpAny_pure h
set_option maxHeartbeats 3200000 in
theorem call_set_gen {l:Addr} {items:Array Value} {J:Nat→Heap→Prop} {Q:Value→Shared→Prop} (hh:A.handled=none) (hl:s.heap.IsList l items)
  (h0:∀ h',h'.get? s.heap.objs.size=some (freshSet w)→(∀ b o,s.heap.get? b=some o→h'.get? b=some o)→J 0 h')
  (add:AddsAt prog w (A.units+20) s.heap.objs.size items J) (stay:Stays s.heap.objs.size (s.heap.objs.size+1) J)
  (h:∀ (h':Heap) (tk:Nat),s.toks≤tk→J items.size h'→(∀ b o,b<s.heap.objs.size→s.heap.get? b=some o→h'.get? b=some o)→Q (.ref s.heap.objs.size) { s with heap:=h',toks:=tk }) :
  wpAny (model prog w) A (call (.type "set") [.ref l]) Q Er s:=by
 obtain ⟨c,tl,hmro⟩:=F.called_set.mro
 have hmade:=F.called_set.made
 have hsub:=F.called_set.sub
 refine wpAny_call (codeAny_of_tree ?_)
 skip
 refine wpAny_pure ⟨Code.quiet_builtin _ (by decide +kernel),codeAny_builtin F.entry_type_call ?_⟩
 rw [Around.under_plain (weight_type_call_type "set" [.ref l] []) rfl]
 have h1:=F.called_set.notType
 have h2:=F.called_set.canCreate
 have hct:=F.typeCall_set_1 (.ref l)
 repeat (any_goals (first | assumption | wp_step))
 refine codeAny_mono (code_set_new (Er:=Er) (Q₁:=fun obj s₁=>obj=.ref s.heap.objs.size∧s₁ = { s with heap:=s.heap.push (freshSet w) }) ⟨rfl,rfl⟩) fun r s₁ hr=>?_
 cases r with
 | error e=>exact hr
 | ok fl=>
  cases fl with
  | ret obj=>
   obtain ⟨rfl,rfl⟩:=hr
   have hS:(s.heap.push (freshSet w)).get? s.heap.objs.size=some (freshSet w):=Heap.get?_push_size _ rfl
   have hT:Shared.TypeIs { s with heap:=s.heap.push (freshSet w) } (.ref s.heap.objs.size) "set":=⟨_,hS,rfl⟩
   have hli:=F.called_set.init.lookup
   have hbi:=F.called_set.init.bind (.ref s.heap.objs.size)
   repeat (any_goals (first | assumption | wp_step))
   refine codeAny_mono (codeAny_call_builtin (R:=wants (fun r s₂=>r=.none∧∃ h' tk,s₂ = { s with heap:=h',toks:=tk }∧s.toks≤tk∧J items.size h' ∧
     (∀ b o,b<s.heap.objs.size→s.heap.get? b=some o→h'.get? b=some o)) Er) F.called_set.init.plain F.entry_set_init (check_set_init_1 hT ?_)) fun r₂ s₂ hr₂=>?_
   ·obtain ⟨ol,hol,hcl,nl,hdl⟩:=hl
    obtain ⟨ocls,odict,odata,oslots⟩:=ol
    simp only at hcl hdl
    subst hcl;subst hdl
    have hol':(s.heap.push (freshSet w)).get? l=some { cls:=.type "list",dict:=odict,data:=.seq items nl,slots:=oslots }:=Heap.get?_push_of_some _ hol
    have hsls:=F.sub_list_set
    have hslf:=F.sub_list_frozenset
    have hne:(Value.type "list" == Value.type "dict")=false:=by decide
    have hl1:(s.heap.push (freshSet w)).IsList l items:=⟨_,hol',rfl,nl,rfl⟩
    delta Builtin.«set.__init__» noKeywords Builtin.Frozenset.updateFrom
    generalize hPI:pyIter=PI
    wp_walk
    subst hPI
    refine wpAny_pyIter_list hl1 ?_
    refine wpAny_bind (wpAny_runValue ?_)
    have hlS:l<s.heap.objs.size:=Heap.lt_size hol
    have hI:(s.heap.push (freshSet w)).objs.size=s.heap.objs.size+1:=Heap.size_push _ _
    rw [hI]
    have hget:((s.heap.push (freshSet w)).push { cls:=.type "list_iterator",data:=.fields #[.ref l,.int 0 0] }).get? s.heap.objs.size=some (freshSet w):=Heap.get?_push_of_some _ hS
    have hIt:((s.heap.push (freshSet w)).push { cls:=.type "list_iterator",data:=.fields #[.ref l,.int 0 0] }).IsListIter (s.heap.objs.size+1) l 0:=by
     rw [← hI]
     exact ⟨_,Heap.get?_push_size _ rfl,rfl,rfl⟩
    refine set_loop (u:=A.units+20) (by simp [hh]) (Nat.ne_of_lt (Nat.lt_succ_of_lt hlS)) (Nat.ne_of_gt hlS) (Nat.ne_of_lt (Nat.lt_succ_self _)) (Nat.add_le_add_left (by decide:3≤23) A.units) add stay items.size 0 _ (Nat.zero_add _) hIt (hl1.push _) ?_ ?_
    ·exact h0 _ hget fun b o e=>Heap.get?_push_of_some _ (Heap.get?_push_of_some _ e)
    ·intro s' hm hJ'
     obtain ⟨h',g',d',tk',os'⟩:=s'
     have eg:g'=s.gens:=hm.gens
     have ed:d'=s.drawn:=hm.drawn
     have eo:os'=s.os:=hm.os
     have et:s.toks≤tk':=hm.toks
     subst eg;subst ed;subst eo
     skip
     refine wpAny_pure ?_
     skip
     refine wpAny_pure ⟨rfl,h',tk',rfl,et,hJ',fun b o hb e=>?_⟩
     exact hm.heap b o (by simp only [List.mem_cons,List.not_mem_nil,or_false,not_or];exact ⟨Nat.ne_of_lt hb,Nat.ne_of_lt (Nat.lt_succ_of_lt hb)⟩) (Heap.get?_push_of_some _ (Heap.get?_push_of_some _ e))
   ·cases r₂ with
    | error e=>exact hr₂
    | ok fl₂=>
     cases fl₂ with
     | ret r=>
      obtain ⟨rfl,h',tk,rfl,ht',hS',hk'⟩:=hr₂
      repeat (any_goals (first | assumption | wp_step))
      exact h _ _ ht' hS' hk'
     | _=>exact hr₂.elim
  | _=>exact hr.elim
end
section
variable {prog:Program} {w:World} {A:Around} {Er:Value→Shared→Prop} {s:Shared}
inductive JT (prog:Program) (w:World) (S:Addr) (L:List (List At×Addr)) (i:Nat) (h:Heap):Prop
 | mk (hL:∀ p∈L,IsTupleKey (atKind prog w) h p.1 p.2∧p.2≠S∧p.2≠S+1) (es:Array (Int×Value)) (ep:Nat) (t:SetTable) (Z:TSet prog w h S es ep t L) (hc:Cap t es.size) (hz:es.size≤i) (hl:t.led = !byT w)
  (hp:∀ (j:Nat) (p:List At×Addr),j<i→L[j]? = some p→∃ e∈es.toList,∃ p'∈L,p'.1=p.1∧e=(tupleKeyHash (atKind prog w) p'.1,Value.ref p'.2))
theorem JT_mono {S:Addr} {L:List (List At×Addr)} {i:Nat} {h h':Heap} (H:JT prog w S L i h) (k:∀ b o,b≠S+1→h.get? b=some o→h'.get? b=some o):JT prog w S L i h':=by
 obtain ⟨h1,es,ep,t,Z,hc,hz,hl,hp⟩:=H
 have kk:∀ p∈L,IsTupleKey (atKind prog w) h' p.1 p.2:=fun p hp=>by
  obtain ⟨⟨o,items,n,ho,r⟩,h2,h3⟩:=h1 p hp
  exact ⟨o,items,n,k _ _ h3 ho,r⟩
 refine ⟨fun p hp=>⟨kk p hp,(h1 p hp).2⟩,es,ep,t,⟨k _ _ (Nat.ne_of_lt (Nat.lt_succ_self _)) Z.ob,Z.tb,Z.mask,fun e he=>?_⟩,hc,hz,hl,hp⟩
 obtain ⟨p,q1,q2,_⟩:=Z.el e he
 exact ⟨p,q1,q2,kk p q1⟩
theorem JT_add {S:Addr} {L:List (List At×Addr)} {items:Array Value} {u:Nat} (hu:u+3<cLine) (hi:items.toList=L.map fun p=>Value.ref p.2) (hz:items.size≤16):AddsAt prog w u S items (JT prog w S L):=by
 intro A Er Q i v s hA hv H q
 have hi16:i<16:=by
  have:i<items.size:=by
   rcases Nat.lt_or_ge i items.size with q|q
   ·exact q
   ·rw [Array.getElem?_eq_none q] at hv;contradiction
  exact Nat.le_trans (by assumption) (by assumption)
 rw [← Array.getElem?_toList,hi,List.getElem?_map] at hv
 obtain ⟨h1,es,ep,t,Z,hc,hsz,hl,hp⟩:=H
 rcases hLi:L[i]? with _|p
 ·rw [hLi] at hv;contradiction
 ·
  rw [hLi] at hv
  (injection hv with hv;subst hv)
  have hpL:p∈L:=List.mem_of_getElem? hLi
  have hk:=(h1 p hpL).1
  skip
  refine wpAny_holding (wpAny_bind (wpAny_pyHash_tuple (by exact Nat.lt_of_le_of_lt (by assumption) (by assumption)) hk ?_))
  refine add_tup (s:={ s with toks:=s.toks+(p.1.length+1) }) Z hc (by exact Nat.lt_of_le_of_lt (by assumption) (by assumption)) hk hpL (by exact Nat.lt_of_le_of_lt (by assumption) (by assumption)) fun b h' es' ep' t' Z' hc' hz' hl' hsb hold hnew=>?_
  refine q b h' (s.toks+(p.1.length+1)) (by exact Nat.le_add_right _ _) hsb ⟨fun p' hp'=>?_,es',ep',t',Z',hc',by omega,hl'.trans hl,fun j p' hj hp'=>?_⟩
  ·obtain ⟨⟨o,its,n,ho,r⟩,h2,h3⟩:=h1 p' hp'
   exact ⟨⟨o,its,n,by rw [hsb.2 _ h2];exact ho,r⟩,h2,h3⟩
  ·rcases Nat.lt_or_eq_of_le (Nat.le_of_lt_succ hj) with z|z
   ·obtain ⟨e,he,r⟩:=hp j p' z hp'
    exact ⟨e,hold e he,r⟩
   ·subst z
    rw [hLi] at hp'
    (injection hp' with hp';subst hp')
    exact hnew
theorem JT_zero {S:Addr} {L:List (List At×Addr)} {h':Heap} (ho:h'.get? S=some (freshSet w)) (hL:∀ p∈L,IsTupleKey (atKind prog w) h' p.1 p.2∧p.2≠S∧p.2≠S+1):JT prog w S L 0 h':=by
 refine ⟨hL,#[],0,.fresh 0 0 (!byT w),⟨ho,⟨rfl,fun i j a b o_ h=>by simp [SetTable.fresh] at h,rfl,fun i a h=>by simp [SetTable.fresh] at h,by simp [SetTable.fresh]⟩,.inl rfl,fun e he=>by contradiction⟩,.inl ⟨rfl,by exact Nat.zero_le _⟩,Nat.le_refl _,rfl,fun j p h=>absurd h (Nat.not_lt_zero _)⟩
structure ISet (prog:Program) (w:World) (h:Heap) (S:Addr) (es:Array (Int×Value)) (ep:Nat) (t:SetTable) (L:List Int):Prop where
 ob:h.get? S=some { cls:=.type "set",dict:=none,data:=.set es ep t }
 tb:Tb t es.size
 mask:t.mask=7
 plain:t.plain=true
 el:∀ e∈es.toList,∃ n∈L,∃ tok,e=(hashInt n,Value.int n tok)
inductive JI (prog:Program) (w:World) (S:Addr) (L:List Int) (i:Nat) (h:Heap):Prop
 | mk (es:Array (Int×Value)) (ep:Nat) (t:SetTable) (Z:ISet prog w h S es ep t L) (hz:es.size≤i) (hl:t.led = !byT w) (hp:∀ (j:Nat) (n:Int),j<i→L[j]? = some n→∃ e∈es.toList,∃ tok,e=(hashInt n,Value.int n tok))
theorem JI_mono {S:Addr} {L:List Int} {i:Nat} {h h':Heap} (H:JI prog w S L i h) (k:∀ b o,b≠S+1→h.get? b=some o→h'.get? b=some o):JI prog w S L i h':=by
 obtain ⟨es,ep,t,Z,hz,hl,hp⟩:=H
 exact ⟨es,ep,t,⟨k _ _ (Nat.ne_of_lt (Nat.lt_succ_self _)) Z.ob,Z.tb,Z.mask,Z.plain,Z.el⟩,hz,hl,hp⟩
theorem JI_zero {S:Addr} {L:List Int} {h':Heap} (ho:h'.get? S=some (freshSet w)):JI prog w S L 0 h':=by
 refine ⟨#[],0,.fresh 0 0 (!byT w),⟨ho,⟨rfl,fun i j a b o_ h=>by simp [SetTable.fresh] at h,rfl,fun i a h=>by simp [SetTable.fresh] at h,by simp [SetTable.fresh]⟩,rfl,rfl,fun e he=>by contradiction⟩,Nat.le_refl _,rfl,fun j p h=>absurd h (Nat.not_lt_zero _)⟩
theorem JI_add {S:Addr} {L:List Int} {items:Array Value} {u:Nat} (hi:IntsAre items.toList L) (hz:items.size≤4):AddsAt prog w u S items (JI prog w S L):=by
 intro A Er Q i v s hA hv H q
 have hi4:i<items.size:=by
  rcases Nat.lt_or_ge i items.size with q|q
  ·exact q
  ·rw [Array.getElem?_eq_none q] at hv;contradiction
 obtain ⟨tok,rfl⟩:=IntsAre.int_at hi i v (by rw [Array.getElem?_toList];exact hv)
 have hlen:items.toList.length=L.length:=IntsAre.length hi
 have hiL:i<L.length:=by rw [← hlen];exact hi4
 have hLi:L[i]? = some (L.getD i 0):=by
  rw [List.getElem?_eq_getElem hiL];simp [List.getD,hiL]
 generalize hn:L.getD i 0=n at *
 have hnL:n∈L:=List.mem_of_getElem? hLi
 obtain ⟨es,ep,t,Z,hsz,hl,hp⟩:=H
 have hels:ElemsOf (intKind prog w) es.toList:=fun e he=>by
  obtain ⟨m,_,tk,rfl⟩:=Z.el e he
  exact ⟨⟨m,intKind_is _ _ _ _,rfl⟩,rfl⟩
 have hkey:(intKind prog w).is n (Value.int n tok)=true:=intKind_is _ _ _ _
 skip
 refine wpAny_holding (wpAny_bind (wpAny_pyHash_int ?_))
 skip
 refine wpAny_holding (wpAny_bind (wpAny_setState_of Z.ob rfl Z.tb.fits ?_))
 dsimp only
 have hbs:byScan (.int n tok) es=true:=byScan_of (knd:=intKind prog w) rfl (by delta scanBound;omega) hels
 rw [hbs]
 skip
 skip
 refine wpAny_bind (wpAny_bind (wpAny_rule ?_))
 refine wpAny_bind (wpAny_setScan_of (knd:=intKind prog w) hkey Z.ob rfl Z.tb.fits hels ?_)
 cases hr:List.findIdx? (fun e=>(intKind prog w).is n e.2) es.toList with
 | some j=>
  dsimp only
  obtain ⟨hj,hpj,_⟩:=List.findIdx?_eq_some_iff_getElem.mp hr
  obtain ⟨m,_,tk,hm⟩:=Z.el _ (List.getElem_mem hj)
  have hmn:m=n:=by
   rw [hm] at hpj
   exact (intKind prog w).inj _ _ _ (intKind_is _ _ _ _) hpj
  refine wpAny_pure (wpAny_pure ?_)
  refine q _ s.heap _ (Nat.le_succ _) (Heap.SameBut.refl _ _) ⟨es,ep,t,Z,by exact Nat.le_succ_of_le (by assumption),hl,fun j' n' hj' hn'=>?_⟩
  rcases Nat.lt_or_eq_of_le (Nat.le_of_lt_succ hj') with z|z
  ·exact hp j' n' z hn'
  ·subst z
   rw [hLi] at hn'
   (injection hn' with hn';subst hn')
   exact ⟨_,List.getElem_mem hj,tk,by rw [hm,hmn]⟩
 | none=>
  dsimp only
  have hfree:∃ j,t.freeSlot (hashInt n)=some (j,false)∧t.slot j=.empty∧j≤t.mask:=by
   have hv:=vp_first (t:=t) (hashInt n)
   rcases probe_met (hashAt:=fun o_=>hashInt n+1) (hs:=hashInt n) Z.tb (.inl Z.mask) (hit_all Z.tb (.inl Z.mask) hv) (Nat.le_refl _) hv with ⟨j,e,h1,h2⟩|⟨j,i',nx,e,h1,h2,_⟩
   ·exact ⟨j,by delta SetTable.freeSlot;rw [e];rfl,h1,h2⟩
   ·exact absurd h2 (by omega)
  obtain ⟨j,hf,hs,hj⟩:=hfree
  have hempty:=slot_empty Z.tb hs
  obtain ⟨pt,pp,pm,pl,ppl,pmv⟩:=put_tb Z.tb hempty hj (by rw [Z.mask];omega)
  have hins:(SetTable.insertAt es (SetTable.below t.place j) (hashInt n,Value.int n tok)).toList.Perm (es.toList++[(hashInt n,Value.int n tok)]):=by
   rw [ins_list]
   have h1:=List.take_append_drop (SetTable.below t.place j) es.toList
   have h2:(es.toList.take (SetTable.below t.place j)++(hashInt n,Value.int n tok)::es.toList.drop (SetTable.below t.place j)).Perm ((hashInt n,Value.int n tok)::(es.toList.take (SetTable.below t.place j)++es.toList.drop (SetTable.below t.place j))):=List.perm_middle
   rw [h1] at h2
   exact h2.trans (List.perm_append_singleton _ _).symm
  have hsz1:(SetTable.insertAt es (SetTable.below t.place j) (hashInt n,Value.int n tok)).size=es.size+1:=by
   have:=hins.length_eq
   rw [Array.length_toList] at this
   simpa using this
  have hlay:layNew t es (hashInt n) (.int n tok)=(SetTable.insertAt es (SetTable.below t.place j) (hashInt n,Value.int n tok),(t.put j).1,false,false):=by
   delta layNew
   rw [hf]
   dsimp only
   rw [pp]
   have hft:(t.put j).1.fits (SetTable.insertAt es (SetTable.below t.place j) (hashInt n,Value.int n tok)).size=true:=by rw [hsz1];exact pt.fits
   delta SetTable.orStandIn
   rw [hft]
   rfl
  rw [hlay]
  generalize hes1:SetTable.insertAt es (SetTable.below t.place j) (hashInt n,Value.int n tok)=es1 at hins hsz1 ⊢
  generalize ht1:(t.put j).1=t1 at pt pm pl ppl ⊢
  dsimp only
  refine wpAny_bind (wpAny_pure ?_)
  have hp1:t1.plain=true:=ppl.trans Z.plain
  simp only [hp1,if_true]
  rw [hashByValue_scannable 8 (x:=.int n tok) rfl]
  refine wpAny_bind (wpAny_pure ?_)
  simp only [plainKind,if_true]
  have hline:es1.size≤sizeLine:=fits_of_scanBound (by delta scanBound;omega)
  refine wpAny_bind (wpAny_storeSet_of Z.ob rfl ?_ hline)
  have hful:t1.tooFull=false:=by
   delta SetTable.tooFull SetTable.fill
   have e1:=pt.sz
   have e2:=pt.dum
   rw [e1,e2,pm,Z.mask]
   simp
   omega
  simp only [hful,Bool.and_false,Bool.false_eq_true,if_false]
  refine wpAny_pure (wpAny_pure ?_)
  have hsb:Heap.SameBut S s.heap (s.heap.update S (Obj.putSet es1 t1)):=Heap.SameBut.update _ _ _
  refine q _ _ _ (Nat.le_succ _) hsb ⟨es1,ep+1,t1,⟨?_,by rw [hsz1];exact pt,pm.trans Z.mask,hp1,fun e he=>?_⟩,by omega,pl.trans hl,fun j' n' hj' hn'=>?_⟩
  ·have:=Heap.get?_update_self (Obj.putSet es1 t1) Z.ob rfl
   rw [putSet_of es1 t1 (o:={ cls:=.type "set",dict:=none,data:=.set es ep t }) rfl] at this
   exact this
  ·rcases List.mem_append.mp (hins.mem_iff.mp he) with z|z
   ·exact Z.el e z
   ·rw [List.mem_singleton] at z
    exact ⟨n,hnL,tok,z⟩
  ·rcases Nat.lt_or_eq_of_le (Nat.le_of_lt_succ hj') with z|z
   ·obtain ⟨e,he,r⟩:=hp j' n' z hn'
    exact ⟨e,hins.mem_iff.mpr (List.mem_append_left _ he),r⟩
   ·subst z
    rw [hLi] at hn'
    (injection hn' with hn';subst hn')
    exact ⟨_,hins.mem_iff.mpr (List.mem_append_right _ (.head _)),tok,rfl⟩
end
noncomputable def Good {α:Type} (N:Nat) (P:α→Prop):KasT α→Prop
 | .ret a=>P a
 | .ask i j k=>i<N∧j<N∧∀ b,Good N P (k b)
theorem Good.bind {α β:Type} {N:Nat} {P:α→Prop} {P':β→Prop} {f:α→KasT β}:∀ {t:KasT α},Good N P t→(∀ a,P a→Good N P' (f a))→Good N P' (t.bind f)
 | .ret a,h,hf=>hf a h
 | .ask i j k,h,hf=>⟨h.1,h.2.1,fun b=>(h.2.2 b).bind hf⟩
theorem Good.wp {α:Type} {N:Nat} {P:α→Prop} {cmp:Nat→Nat→(Bool→Shared→Prop)→Shared→Prop} {Q:α→Shared→Prop} {s:Shared} (ask:∀ i j C,i<N→j<N→(∀ b,C b s)→cmp i j C s) (q:∀ a,P a→Q a s):∀ {t:KasT α},Good N P t→t.kasWp cmp Q s
 | .ret a,h=>q a h
 | .ask i j k,h=>ask i j _ h.1 h.2.1 fun b=>Good.wp ask q (h.2.2 b)
noncomputable def PermN (N:Nat) (p:Array Nat):Prop:=p.toList.Perm (List.range N)
section
variable {N:Nat} (hN:0<N)
include hN
theorem PermN.lt {p:Array Nat} (h:PermN N p) (i:Nat):p.getD i 0<N:=by
 by_cases q:i<p.size
 ·have e:p.getD i 0=p[i]:=by simp [Array.getD,q]
  rw [e]
  exact List.mem_range.mp (h.mem_iff.mp (by simp))
 ·have e:p.getD i 0=0:=by simp [Array.getD,q]
  rw [e];exact hN
omit hN in
theorem PermN.rev {p:Array Nat} (h:PermN N p) (i j:Nat):PermN N (kas_rev p i j):=((mirror_perm p i j _).toList).trans h
omit hN in
theorem PermN.bub {p:Array Nat} (h:PermN N p) (k l:Nat):PermN N (bubble p k l):=((bubble_perm p k l).toList).trans h
theorem good_asc {p:Array Nat} (h:PermN N p):∀ (f n:Nat),Good N (fun o_=>True) (kas_asc p f n)
 | 0,n=>trivial
 | f+1,n=>⟨h.lt hN _,h.lt hN _,fun b=>by
   cases b
   ·exact good_asc h f (n+1)
   ·exact trivial⟩
theorem good_desc:∀ (f:Nat) (p:Array Nat) (n q:Nat),PermN N p→Good N (fun r:Array Nat×Nat×Nat=>PermN N r.1) (kas_desc f p n q)
 | 0,p,n,q,h=>h
 | f+1,p,n,q,h=>⟨h.lt hN _,h.lt hN _,fun b=>by
   cases b
   ·exact ⟨h.lt hN _,h.lt hN _,fun d=>by
     cases d
     ·exact good_desc f p (n+1) (q+1) h
     ·exact h⟩
   ·show Good N _ (if q > 0 then kas_desc f (kas_rev p (n - (q+1)) n) (n+1) 0 else kas_desc f p (n+1) 0)
    split
    ·exact good_desc f _ _ _ (h.rev _ _)
    ·exact good_desc f _ _ _ h⟩
theorem good_tail3 {p:Array Nat} (h:PermN N p) (n nrem:Nat):Good N (fun r:Nat×Array Nat=>PermN N r.2) (kas_tail3 n nrem p):=
 (good_asc hN (h.rev 0 n) _ _).bind fun o_ o_=>h.rev 0 n
theorem good_descPart {p:Array Nat} (h:PermN N p) (n nrem:Nat):Good N (fun r:Nat×Array Nat=>PermN N r.2) (kas_descPart n nrem p):=
 (good_desc hN _ p _ _ h).bind fun r hr=>by
  split
  ·exact good_tail3 hN (hr.rev _ _) _ _
  ·exact good_tail3 hN hr _ _
theorem good_count {p:Array Nat} (h:PermN N p) (nrem:Nat):Good N (fun r:Nat×Array Nat=>PermN N r.2) (kas_count nrem p):=
 (good_asc hN h _ _).bind fun n o_=>by
  split
  ·exact h
  ·split
   ·exact ⟨h.lt hN _,h.lt hN _,fun c=>by
     cases c
     ·exact good_descPart hN (h.rev _ _) _ _
     ·exact h⟩
   ·exact good_descPart hN h _ _
theorem good_place {p:Array Nat} (h:PermN N p) (k:Nat):∀ (f l r:Nat),Good N (fun o_=>True) (kas_place p k f l r)
 | 0,l,r=>trivial
 | f+1,l,r=>by
  dsimp only [kas_place]
  split
  ·exact trivial
  ·exact ⟨h.lt hN _,h.lt hN _,fun c=>by
    cases c
    ·exact good_place h k f _ _
    ·exact good_place h k f _ _⟩
theorem good_bin:∀ (f:Nat) (p:Array Nat) (k:Nat),PermN N p→Good N (PermN N) (kas_bin f p k)
 | 0,p,k,h=>h
 | f+1,p,k,h=>(good_place hN h k _ _ _).bind fun l o_=>good_bin f _ _ (h.bub _ _)
theorem good_sort:Good N (PermN N) (kas_sort N):=
 (good_count hN (show PermN N (List.toArray (List.range N)) from List.Perm.refl _) N).bind fun r hr=>by
  split
  ·exact good_bin hN _ _ _ hr
  ·exact hr
end
theorem perm_vals {vs:List Value} {p:Array Nat} (h:PermN vs.length p):(p.toList.map fun i=>vs.getD i Value.none).Perm vs:=by
 have h1:=h.map fun i=>vs.getD i Value.none
 refine h1.trans (List.Perm.of_eq ?_)
 apply List.ext_getElem?
 intro i
 rw [List.getElem?_map]
 by_cases q:i<vs.length
 ·rw [List.getElem?_range q];simp [q]
 ·rw [List.getElem?_eq_none (by simpa using q),List.getElem?_eq_none (by exact Nat.le_of_not_lt (by assumption))];rfl
noncomputable def nodeK:List At→Prop
 | .s _::r=>∀ a∈r,∃ i,a=At.i i
 | _=>False
section
variable {prog:Program} {w:World} {A:Around} {Er:Value→Shared→Prop} {s:Shared}
theorem lex_ints {fin:Bool} {Q:Bool→Shared→Prop} (hQ:∀ b,Q b s):∀ {ks ks':List At} {xs ys:List Value} (i:Nat),i≠0→(∀ a∈ks,∃ m,a=At.i m)→(∀ a∈ks',∃ m,a=At.i m)→ItemsAre (atKind prog w) ks xs→ItemsAre (atKind prog w) ks' ys→KatLex prog w A true fin Q (xs.zip ys) i s:=by
 intro ks ks' xs ys i hi h h' hx
 induction hx generalizing ks' ys i with
 | nil=>intro hy;exact kat_nil (hQ _)
 | @cons k v ks vs h1 h2 ih=>
  intro hy
  cases hy with
  | nil=>exact kat_nil (hQ _)
  | @cons k' v' ks'' vs' g1 g2=>
   obtain ⟨m,rfl⟩:=h k (.head _)
   obtain ⟨m',rfl⟩:=h' k' (.head _)
   obtain ⟨t,rfl⟩:=At.isI h1
   obtain ⟨t',rfl⟩:=At.isI g1
   refine kat_cons (wpAny_eqBool_int ?_)
   refine kat_go (fun o_=>kat_yes (ih (i+1) (by omega) (fun a ha=>h a (.tail _ ha)) (fun a ha=>h' a (.tail _ ha)) g2)) fun o_=>kat_no ?_
   have e:(true && i==0)=false:=by simp [hi]
   rw [e]
   refine kat_one _ _ ?_
   refine P.lt_int ?_
   exact hQ _
theorem lex_nodes {fin:Bool} {Q:Bool→Shared→Prop} (hQ:∀ b,Q b s) {ks ks':List At} {xs ys:List Value} (h:nodeK ks) (h':nodeK ks') (hx:ItemsAre (atKind prog w) ks xs) (hy:ItemsAre (atKind prog w) ks' ys):KatLex prog w A true fin Q (xs.zip ys) 0 s:=by
 cases hx with
 | nil=>exact h.elim
 | @cons k v ks vs h1 h2=>
  cases hy with
  | nil=>exact h'.elim
  | @cons k' v' ks'' vs' g1 g2=>
   cases k with
   | i m=>exact h.elim
   | s a=>
    cases k' with
    | i m=>exact h'.elim
    | s b=>
     obtain ⟨t,rfl⟩:=At.isS h1
     obtain ⟨t',rfl⟩:=At.isS g1
     refine kat_cons (wpAny_eqBool_str ?_)
     refine kat_go (fun o_=>kat_yes (lex_ints hQ 1 (by decide) h h' h2 g2)) fun o_=>kat_no ?_
     exact oneLt_str (hQ _)
end
section
variable {prog:Program} {w:World} {A:Around} {Er:Value→Shared→Prop} {s:Shared}
noncomputable def NodeAt (prog:Program) (w:World) (h:Heap) (v:Value):Prop:=∃ b items n ks,v=Value.ref b∧h.get? b=some (seqObj "tuple" items n)∧ItemsAre (atKind prog w) ks items.toList∧nodeK ks
theorem NodeAt.first {h:Heap} {v:Value} (H:NodeAt prog w h v):∃ a o xs n x t,v=.ref a∧h.get? a=some o∧o.cls=.type "tuple" ∧ o.data=.seq xs n∧xs[0]? = some (Value.str x t):=by
 obtain ⟨b,items,n,ks,rfl,ho,hi,hk⟩:=H
 cases hks:ks with
 | nil=>rw [hks] at hk;exact hk.elim
 | cons k r=>
  rw [hks] at hk hi
  cases k with
  | i m=>exact hk.elim
  | s x=>
   generalize hl:items.toList=l at hi
   cases hi with
   | @cons _ v _ vs h1 h2=>
    obtain ⟨t,rfl⟩:=At.isS h1
    refine ⟨b,_,items,n,x,t,rfl,ho,rfl,rfl,?_⟩
    rw [← Array.getElem?_toList,hl];rfl
theorem nodes_tups {h:Heap}:∀ {vs:List Value},(∀ v∈vs,NodeAt prog w h v)→∃ fs,KatTups h vs fs∧fs.length=vs.length∧∀ f∈fs,∃ x t,f=Value.str x t
 | [],_=>⟨[],KatTups.nil,rfl,fun f hf=>by contradiction⟩
 | v::vs,H=>by
  obtain ⟨fs,h1,h2,h3⟩:=nodes_tups (vs:=vs) fun u hu=>H u (.tail _ hu)
  obtain ⟨a,o,xs,n,x,t,rfl,ho,hc,hd,hf⟩:=(H v (.head _)).first
  refine ⟨.str x t::fs,KatTups.cons ho hc hd hf h1,by simp [h2],fun f hf=>?_⟩
  rcases List.mem_cons.mp hf with rfl|hf
  ·exact ⟨x,t,rfl⟩
  ·exact h3 f hf
theorem nodes_kind {vs:List Value} {Q:SortKind→Shared→Prop} (H:∀ v∈vs,NodeAt prog w s.heap v) (hne:0<vs.length) (h:Q (tuples' true) s):wpAny (model prog w) A (keyKind' vs.toArray) Q Er s:=by
 obtain ⟨fs,h1,h2,h3⟩:=nodes_tups H
 refine kat_kind (T:=.type "str") h1 (by exact Nat.lt_of_lt_of_le (by assumption) (Nat.le_of_eq (Eq.symm (by assumption)))) (fun v hv=>?_) (by decide) ?_
 ·obtain ⟨x,t,rfl⟩:=h3 v hv
  exact .now
 ·have:(Value.type "str" != Value.type "tuple")=true:=by decide
  rw [this];exact h
theorem nodes_ask {vs:List Value} {i j:Nat} {C:Bool→Shared→Prop} (H:∀ v∈vs,NodeAt prog w s.heap v) (hi:i<vs.length) (hj:j<vs.length) (h:∀ b,C b s):kas_ask prog w A (tuples' true) vs i j C s:=by
 unfold kas_ask
 have e1:vs.getD i Value.none=vs[i]:=by simp [hi]
 have e2:vs.getD j Value.none=vs[j]:=by simp [hj]
 rw [e1,e2]
 obtain ⟨b,items,n,ks,e,ho,hI,hk⟩:=H _ (List.getElem_mem hi)
 obtain ⟨b',items',n',ks',e',ho',hI',hk'⟩:=H _ (List.getElem_mem hj)
 rw [e,e']
 exact kat_lt ho rfl ho' rfl (lex_nodes h hk hk' hI hI')
theorem run_nodes {vs:List Value} {Q:SortSt→Shared→Prop} (h2:2≤vs.length) (h64:vs.length<64) (H:∀ v∈vs,NodeAt prog w s.heap v)
  (q:∀ p st',arrOf st'=p.map (kas_item (vs.toArray.zip vs.toArray))→failedOf st'=none→PermN vs.length p→Q st' s) :
  wpAny (model prog w) A ((sortRuns').run (SortSt.mk' (tuples' true) (vs.toArray.zip vs.toArray) #[] 7 none)) (fun r s'=>Q r.2 s') Er s:=by
 refine kat_run (ks:=vs) (G:=fun p s'=>PermN vs.length p∧s'=s) rfl h2 h64 (fun p st' s' a1 a2 a3 a4=>?_) ?_
 ·obtain ⟨h1,rfl⟩:=a4
  exact q p st' a2 a3 h1
 ·refine Good.wp (N:=vs.length) (P:=PermN vs.length) (fun i j C hi hj hc=>nodes_ask H hi hj hc) (fun p hp=>⟨hp,rfl⟩) (good_sort (Nat.le_of_lt (by assumption)))
theorem list_sort_nodes {a:Addr} {vs:List Value} {n:Nat} {P:PySem.Fin→Shared→Prop} (ho:s.heap.get? a=some (seqObj "list" vs.toArray n)) (H:∀ v∈vs,NodeAt prog w s.heap v) (h64:vs.length<64)
  (h:∀ out:Array Value,out.toList.Perm vs→P (.done (.ret .none)) { s with heap:=sortedHeap s.heap a vs out }):wpAny (model prog w) A (Builtin.«list.sort» ⟨[.ref a],[]⟩) P Er s:=by
 rw [list_sort_plain]
 have ha:a<s.heap.objs.size:=Heap.lt_size ho
 refine wpAny_bind (listItems_at ho rfl ?_)
 refine wpAny_bind (listUpdate_at ho rfl ?_ (by rw [List.size_toArray,sizeLine_eq];exact Nat.le_trans (Nat.le_of_lt (by assumption)) (by decide)) (Nat.zero_le _))
 obtain ⟨e1,ho1⟩:∃ e1,(s.heap.update a (Obj.mapSeq fun o_=>(#[]:Array Value))).get? a=some (seqObj "list" #[] e1):=⟨_,get?_update_seq ho (fun o_=>#[])⟩
 refine wpAny_bind (seqEpoch_at ho1 rfl ?_)
 refine wpAny_bind (wpAny_newTuple ?_ (by show vs.length≤_;rw [sizeLine_eq];exact Nat.le_trans (Nat.le_of_lt (by assumption)) (by decide)))
 refine wpAny_bind (wpAny_newList ?_ (Nat.zero_le _))
 refine wpAny_holding ?_
 have ho6:(((s.heap.update a (Obj.mapSeq fun o_=>(#[]:Array Value))).push (seqObj "tuple" vs.toArray 0)).push (seqObj "list" #[] 0)).get? a=some (seqObj "list" #[] e1):=Heap.get?_push_of_some _ (Heap.get?_push_of_some _ ho1)
 have keep:∀ b o,b≠a→s.heap.get? b=some o→(((s.heap.update a (Obj.mapSeq fun o_=>(#[]:Array Value))).push (seqObj "tuple" vs.toArray 0)).push (seqObj "list" #[] 0)).get? b=some o:=fun b o hb e=>
  Heap.get?_push_of_some _ (Heap.get?_push_of_some _ ((Heap.get?_update_other _ _ (Ne.symm hb)).trans e))
 show wpAny (model prog w) A _ P Er { s with heap:=((s.heap.update a (Obj.mapSeq fun o_=>(#[]:Array Value))).push (seqObj "tuple" vs.toArray 0)).push (seqObj "list" #[] 0) }
 dsimp only
 have hsz:vs.toArray.size=vs.length:=by rfl
 have H':∀ v∈vs,NodeAt prog w (((s.heap.update a (Obj.mapSeq fun o_=>(#[]:Array Value))).push (seqObj "tuple" vs.toArray 0)).push (seqObj "list" #[] 0)) v:=fun v hv=>by
  obtain ⟨b,items,m,ks,e,hob,hi,hk⟩:=H v hv
  refine ⟨b,items,m,ks,e,keep b _ (fun q=>?_) hob,hi,hk⟩
  subst q
  rw [ho] at hob
  have:(seqObj "list" vs.toArray n).cls=(seqObj "tuple" items m).cls:=by rw [Option.some.inj hob]
  exact absurd this (by show ¬ (Value.type "list" = Value.type "tuple");decide)
 have fin:∀ st':SortSt,((arrOf st').map (·.2)).toList.Perm vs→failedOf st'=none →
   wpAny (model prog w) A (do
    let touched:=(← seqEpoch a) != e1
    Builtin.List.listUpdate (.ref a) fun o_=>(arrOf st').map (·.2)
    if let some e:=failedOf st' then rule "list.sort.comparison-raised";throw e
    if touched then rule "list.sort.modified";raiseError "ValueError" "list modified during sort"
    ret .none) P Er { s with heap:=((s.heap.update a (Obj.mapSeq fun o_=>(#[]:Array Value))).push (seqObj "tuple" vs.toArray 0)).push (seqObj "list" #[] 0) }:=by
  intro st' hp hf
  have hl:((arrOf st').map (·.2)).size=vs.length:=by rw [← Array.length_toList,hp.length_eq]
  refine wpAny_bind (seqEpoch_at ho6 rfl ?_)
  refine wpAny_bind (listUpdate_at ho6 rfl ?_ (Nat.zero_le _) (Nat.le_trans (Nat.le_of_eq hl) (by rw [sizeLine_eq];exact Nat.le_trans (Nat.le_of_lt (by assumption)) (by decide))))
  rw [hf]
  have e0:(seqObj "list" #[] e1).data=.seq #[] e1:=rfl
  exact wpAny_ite_split (fun z=>by simp at z) fun o_=>wpAny_pure (h _ hp)
 by_cases h2:vs.toArray.size<2
 ·rw [if_pos h2,if_pos h2]
  refine wpAny_bind (wpAny_pure ?_)
  rw [StateT.run_pure]
  refine wpAny_bind (wpAny_pure ?_)
  refine fin _ ?_ rfl
  show ((vs.toArray.zip vs.toArray).map (·.2)).toList.Perm vs
  have:((vs.toArray.zip vs.toArray).map (·.2)).toList=vs:=by
   rw [Array.toList_map,Array.toList_zip]
   show ((vs.zip vs).map Prod.snd)=vs
   rw [List.map_snd_zip]
   exact Nat.le_refl _
  rw [this]
 ·rw [if_neg h2,if_neg h2]
  refine wpAny_bind (nodes_kind H' (by omega) ?_)
  refine wpAny_bind (wpAny_mono (run_nodes (s:={ s with heap:=((s.heap.update a (Obj.mapSeq fun o_=>(#[]:Array Value))).push (seqObj "tuple" vs.toArray 0)).push (seqObj "list" #[] 0) })
   (Q:=fun st' s'=>((arrOf st').map (·.2)).toList.Perm vs∧failedOf st'=none∧s' = { s with heap:=((s.heap.update a (Obj.mapSeq fun o_=>(#[]:Array Value))).push (seqObj "tuple" vs.toArray 0)).push (seqObj "list" #[] 0) })
   (by exact Nat.le_of_not_lt (by assumption)) h64 H' fun p st' a1 a2 a3=>⟨?_,a2,rfl⟩) ?_ fun o_ o_ e=>e)
  ·have hout:=kat_snds (ks:=vs) (vs:=vs) rfl a1
   rw [hout]
   exact perm_vals a3
  ·rintro ⟨⟨⟩,st'⟩ s' ⟨hp,hf,rfl⟩
   exact fin st' hp hf
end
theorem slot_si_next:Slot "set_iterator" "__next__" "set_iterator.__next__":=
 .of (owner := "set_iterator") (n := "__next__") (by rw [typeLookup_type,builtinLookup_eq_fast];kernel_rfl) (by decide +kernel) (by decide +kernel) (by decide +kernel)
  (by first | exact .inl (by decide +kernel) | exact .inr (by decide +kernel)) (by rw [isSubtype_type];kernel_rfl)
theorem entry_si_next:entryFor table "set_iterator.__next__" = some Builtin.«set_iterator.__next__»:=entryFor_of_tree (by kernel_rfl)
theorem owner_si:Manifest.owners.lookup (String.ofList ['r','o','t','a','r','e','t','i','_','t','e','s'].reverse)=some Manifest.sig_set_iterator:=by kernel_rfl
theorem args_si_next (a:Value):argsOk "set_iterator.__next__" ⟨[a],[]⟩:=by
 delta argsOk;rw [signature?_of (id := "set_iterator.__next__") (n:=['_','_','t','x','e','n','_','_']) (o:=['r','o','t','a','r','e','t','i','_','t','e','s']) (by kernel_rfl) owner_si];kernel_rfl
theorem slot_si_iter:Slot "set_iterator" "__iter__" "set_iterator.__iter__":=
 .of (owner := "set_iterator") (n := "__iter__") (by rw [typeLookup_type,builtinLookup_eq_fast];kernel_rfl) (by decide +kernel) (by decide +kernel) (by decide +kernel)
  (by first | exact .inl (by decide +kernel) | exact .inr (by decide +kernel)) (by rw [isSubtype_type];kernel_rfl)
theorem entry_si_iter:entryFor table "set_iterator.__iter__" = some Builtin.«dict_keyiterator.__iter__»:=
 entryFor_alias (id' := "dict_keyiterator.__iter__") (by kernel_rfl) rfl (by decide +kernel) (by kernel_rfl)
theorem args_si_iter (a:Value):argsOk "set_iterator.__iter__" ⟨[a],[]⟩:=by
 delta argsOk;rw [signature?_of (id := "set_iterator.__iter__") (n:=['_','_','r','e','t','i','_','_']) (o:=['r','o','t','a','r','e','t','i','_','t','e','s']) (by kernel_rfl) owner_si];kernel_rfl
theorem entry_set_iter:entryFor table "set.__iter__" = some Builtin.«frozenset.__iter__»:=
 entryFor_alias (id' := "frozenset.__iter__") (by kernel_rfl) rfl (by decide +kernel) (by kernel_rfl)
theorem erase_perm {α:Type}:∀ {l:List α} {i:Nat} (h:i<l.length),(l[i]::l.eraseIdx i).Perm l
 | [],i,h=>absurd h (Nat.not_lt_zero _)
 | x::l,0,h=>by rfl
 | x::l,i+1,h=>by
  have hi:i<l.length:=by exact Nat.le_of_succ_le_succ h
  have ih:=erase_perm hi
  skip
  exact (List.Perm.swap x l[i] _).trans (ih.cons x)
theorem pick_perm_go {α:Type} (next:Nat→Nat):∀ (fuel k:Nat) (left:List α) (out:Array α),left.length≤fuel→(pickOrder.go next fuel k left out).toList.Perm (out.toList++left)
 | 0,k,left,out,h=>by
  have:left=[]:=List.length_eq_zero_iff.mp (by omega)
  subst this
  dsimp only [pickOrder.go];simp
 | fuel+1,k,left,out,h=>by
  dsimp only [pickOrder.go]
  rcases hl:left with _|⟨x0,l0⟩
  ·simp
  ·
   rw [← hl]
   have hlt:next k % left.length<left.length:=Nat.mod_lt _ (by rw [hl];simp)
   have e:left[next k % left.length]? = some left[next k % left.length]:=List.getElem?_eq_getElem hlt
   rw [e]
   dsimp only
   have ih:=pick_perm_go next fuel (k+1) (left.eraseIdx (next k % left.length)) (out.push left[next k % left.length]) (by rw [List.length_eraseIdx_of_lt hlt];omega)
   refine ih.trans ?_
   rw [Array.toList_push,List.append_assoc]
   refine List.Perm.append_left _ ?_
   exact erase_perm hlt
theorem pick_perm {α:Type} (next:Nat→Nat) (xs:Array α):(pickOrder next xs).toList.Perm xs.toList:=by
 have:=pick_perm_go next xs.size 0 xs.toList #[] (by simp)
 exact this
section
variable {M:Model} {prog:Program} {w:World} {A:Around} {Er:Value→Shared→Prop} {s:Shared}
theorem wpAny_choose {src:Source} {n:Nat} {Q:Nat→Shared→Prop} (hn:n≠0) (h:∀ i dr,i<n→Q i { s with drawn:=dr }):wpAny M A (choose src n) Q Er s:=fun Γ p o_=>by
 skip
 exact ⟨hn,h _ _ (Nat.mod_lt _ (Nat.pos_of_ne_zero hn))⟩
theorem wpAny_drawOrder {α:Type}:∀ (n:Nat) (xs:List α) {Q:List α→Shared→Prop} {s:Shared},xs.length=n→(∀ out dr,out.Perm xs→Q out { s with drawn:=dr })→wpAny M A (drawOrder n xs) Q Er s:=by
 intro n
 induction n with
 | zero=>
  intro xs Q s hl h
  obtain rfl:=List.eq_nil_of_length_eq_zero hl
  skip
  exact wpAny_pure (h [] s.drawn (List.Perm.refl _))
 | succ n ih=>
  intro xs Q s hl h
  cases xs with
  | nil=>contradiction
  | cons x0 l0=>
  dsimp only [drawOrder]
  generalize hx:x0::l0=xs at *
  refine wpAny_bind (wpAny_choose (n:=xs.length) (by omega) fun i dr hi=>?_)
  have e:xs[i]? = some xs[i]:=List.getElem?_eq_getElem hi
  rw [e]
  dsimp only
  refine wpAny_bind (ih (xs.eraseIdx i) (by rw [List.length_eraseIdx_of_lt hi];omega) fun out dr' hp=>?_)
  refine wpAny_pure (h _ dr' ?_)
  exact (hp.cons _).trans (erase_perm hi)
structure SObj (h:Heap) (S:Addr) (es:Array (Int×Value)) (ep:Nat) (t:SetTable):Prop where
 ob:h.get? S=some { cls:=.type "set",dict:=none,data:=.set es ep t }
 tb:Tb t es.size
 size:es.size≤16
noncomputable def slotAt (t:SetTable) (i:Nat):Nat:=if i=0 then 0 else t.place.getD (i - 1) 0+1
theorem below_slotAt {t:SetTable} {n i:Nat} (h:Tb t n) (hi:i≤n):SetTable.below t.place (slotAt t i)=i:=by
 delta slotAt
 by_cases q:i=0
 ·rw [if_pos q,below_zero h.rise,q]
 ·rw [if_neg q]
  have hlt:i - 1<t.place.size:=by rw [h.sz];omega
  have e:t.place[i - 1]? = some (t.place.getD (i - 1) 0):=by
   rw [Array.getElem?_eq_getElem hlt];simp [Array.getD,hlt]
  rw [below_succ h.rise e]
  omega
structure SeqOrd (w:World) (S:Addr) (es:Array (Int×Value)) (ep:Nat) (t:SetTable) (vs:List Value) (slots:Nat→Nat):Prop where
 zero:slots 0=0
 perm:vs.Perm (es.toList.map (·.2))
 next:∀ (prog:Program) (A:Around) (Er:Value→Shared→Prop) (Q:Option (Value×Nat)→Shared→Prop) (s:Shared) (i:Nat),s.heap.get? S=some { cls:=.type "set",dict:=none,data:=.set es ep t }→i≤vs.length →
  Q (vs[i]?.map fun v=>(v,slots (i+1))) s→wpAny (model prog w) A (setNext S (slots i) i ep) Q Er s
theorem ord_text {S:Addr} {es:Array (Int×Value)} {ep:Nat} {t:SetTable} (tb:Tb t es.size) (hw:byT w=true):∃ vs,SeqOrd w S es ep t vs (fun o_=>0):=by
 refine ⟨(pickOrder (w.params.setOrder S ep) es).toList.map (·.2),rfl,(pick_perm _ _).map _,fun prog A Er Q s i ho hi q=>?_⟩
 have hst:∀ {Q':(Array (Int×Value)×Nat×SetTable)→Shared→Prop},Q' (es,ep,t) s→wpAny (model prog w) A (setState S) Q' Er s:=fun q=>wpAny_setState_of ho rfl tb.fits q
 skip
 refine wpAny_bind (hst ?_)
 dsimp only
 skip
 refine wpAny_bind (wpAny_bind (wpAny_askSetting (wpAny_pure ?_)))
 have hw':(model prog w).w.params.followText "set-order" = true:=hw
 refine wpAny_ite_split (fun o_=>?_) fun z=>absurd hw' z
 refine wpAny_ite_split (fun z=>by simp at z) fun o_=>?_
 skip
 refine wpAny_bind (wpAny_bind (hst ?_))
 dsimp only
 skip
 refine wpAny_bind (wpAny_bind (wpAny_askSetting (wpAny_pure ?_)))
 refine wpAny_ite_split (fun o_=>?_) fun z=>absurd hw' z
 refine wpAny_bind (wpAny_askSetting (wpAny_pure ?_))
 refine wpAny_pure ?_
 have e:((pickOrder (w.params.setOrder S ep) es).toList.map (·.2))[i]?.map (fun v=>(v,0))=(pickOrder (w.params.setOrder S ep) es)[i]?.map fun e=>(e.2,0):=by
  rw [List.getElem?_map,Array.getElem?_toList,Option.map_map];rfl
 rw [e] at q
 exact q
theorem ord_place {S:Addr} {es:Array (Int×Value)} {ep:Nat} {t:SetTable} (tb:Tb t es.size) (hw:byT w=false) (hl:t.led=true) (hd:(!t.plain && decide (es.size > 1))=false):SeqOrd w S es ep t (es.toList.map (·.2)) (slotAt t):=by
 refine ⟨rfl,List.Perm.refl _,fun prog A Er Q s i ho hi q=>?_⟩
 have hst:∀ {Q':(Array (Int×Value)×Nat×SetTable)→Shared→Prop},Q' (es,ep,t) s→wpAny (model prog w) A (setState S) Q' Er s:=fun q=>wpAny_setState_of ho rfl tb.fits q
 skip
 refine wpAny_bind (hst ?_)
 dsimp only
 skip
 refine wpAny_bind (wpAny_bind (wpAny_askSetting (wpAny_pure ?_)))
 have hw':(model prog w).w.params.followText "set-order" = false:=hw
 refine wpAny_ite_split (fun z=>absurd (hw'.symm.trans z) Bool.noConfusion) fun o_=>?_
 show wpAny _ _ (if (!t.plain && decide (es.size > 1))=true then _ else _) _ _ _
 rw [if_neg (by rw [hd];exact Bool.false_ne_true)]
 refine wpAny_bind ?_
 show wpAny _ _ (if (!t.led && !es.isEmpty)=true then _ else _) _ _ _
 rw [hl]
 skip
 refine wpAny_pure ?_
 have hi':i≤es.size:=by simpa using hi
 rw [below_slotAt tb hi']
 refine wpAny_pure ?_
 by_cases hlt:i<es.size
 ·have hp:i<t.place.size:=by rw [tb.sz];exact hlt
  have e1:es[i]? = some es[i]:=Array.getElem?_eq_getElem hlt
  have e2:t.place[i]? = some t.place[i]:=Array.getElem?_eq_getElem hp
  have e3:(es.toList.map (·.2))[i]? = some es[i].2:=by simp [hlt]
  have e4:slotAt t (i+1)=t.place[i]+1:=by
   delta slotAt
   rw [if_neg (by omega)]
   simp [Array.getD,hp]
  rw [e3,Option.map_some,e4] at q
  rw [e1,e2]
  exact q
 ·have e1:es[i]? = none:=Array.getElem?_eq_none (by exact Nat.le_of_not_lt (by assumption))
  have e3:(es.toList.map (·.2))[i]? = none:=by
   rw [List.getElem?_eq_none];simp;exact Nat.le_of_not_lt (by assumption)
  rw [e3,Option.map_none] at q
  rw [e1]
  exact q
end
section
variable {prog:Program} {w:World} {A:Around} {Er:Value→Shared→Prop} {s:Shared}
noncomputable def siObj (f:Value) (i:Nat) (S:Addr) (n ep:Nat):Obj:={ cls:=.type "set_iterator",data:=.fields #[f,.int (i:Int) 0,.ref S,.int (n:Int) 0,.int (ep:Int) 0] }
structure SIt (w:World) (h:Heap) (I S:Addr) (es:Array (Int×Value)) (ep:Nat) (t:SetTable) (i:Nat) (f:Nat→Value):Prop where
 it:h.get? I=some (siObj (f i) i S es.size ep)
 ob:h.get? S=some { cls:=.type "set",dict:=none,data:=.set es ep t }
theorem next_seq_item {I S:Addr} {es:Array (Int×Value)} {ep:Nat} {t:SetTable} {vs:List Value} {slots:Nat→Nat} {i:Nat} {v:Value} {Q:Option Value→Shared→Prop} (O:SeqOrd w S es ep t vs slots) (tb:Tb t es.size) (hSI:S≠I)
  (st:SIt w s.heap I S es ep t i fun i=>.int (slots i:Int) 0) (hv:vs[i]? = some v)
  (hQ:∀ h',SIt w h' I S es ep t (i+1) (fun i=>.int (slots i:Int) 0)→(∀ b o,b≠I→s.heap.get? b=some o→h'.get? b=some o)→Q (some v) { s with heap:=h' }) :
  wpAny (model prog w) A (pyNext (.ref I)) Q Er s:=by
 obtain ⟨ho,hob⟩:=st
 have hT:s.TypeIs (.ref I) "set_iterator":=⟨_,ho,rfl⟩
 have hi:i<vs.length:=by
  rcases Nat.lt_or_ge i vs.length with q|q
  ·exact q
  ·rw [List.getElem?_eq_none q] at hv;contradiction
 skip
 refine wpAny_bind (wpAny_attempt (wpAny_callSpecial?_slot (name:=Str.ofString "__next__") hT slot_si_next
  (wpAny_call_entry slot_si_next hT entry_si_next ?_ (args_si_next _))))
 refine wpAny_bind (m:=slotArgs "__next__" 0 ⟨[.ref I],[]⟩) (wpAny_of_eq (a:=(Value.ref I,[])) rfl ?_)
 refine wpAny_bind (wpAny_fieldsOf ho rfl ?_)
 dsimp only
 refine wpAny_bind (wpAny_setEntries_of hob rfl tb.fits ?_)
 refine wpAny_ite_split (fun q=>by simp at q) fun o_=>?_
 refine wpAny_bind ?_
 skip
 refine O.next prog _ _ _ s i hob (Nat.le_of_lt hi) ?_
 rw [hv]
 dsimp only [Option.map_some]
 refine wpAny_bind (wpAny_setField_rec ho (by simp) fun h₁ ho₁ hs₁=>?_)
 refine wpAny_bind (wpAny_setField_rec ho₁ (by simp) fun h₂ ho₂ hs₂=>?_)
 refine wpAny_pure ⟨_,rfl,wpAny_pure (hQ h₂ ⟨?_,?_⟩ fun b o hb e=>?_)⟩
 ·exact ho₂
 ·rw [hs₂.2 _ hSI,hs₁.2 _ hSI];exact hob
 ·rw [hs₂.2 _ hb,hs₁.2 _ hb];exact e
theorem next_seq_end {I S:Addr} {es:Array (Int×Value)} {ep:Nat} {t:SetTable} {vs:List Value} {slots:Nat→Nat} {Q:Option Value→Shared→Prop} (hh:A.handled=none) (O:SeqOrd w S es ep t vs slots) (tb:Tb t es.size)
  (st:SIt w s.heap I S es ep t vs.length fun i=>.int (slots i:Int) 0)
  (hQ:∀ h',(∀ b o,b≠I→s.heap.get? b=some o→h'.get? b=some o)→Q none { s with heap:=h' }) :
  wpAny (model prog w) A (pyNext (.ref I)) Q Er s:=by
 obtain ⟨ho,hob⟩:=st
 have hT:s.TypeIs (.ref I) "set_iterator":=⟨_,ho,rfl⟩
 skip
 refine wpAny_bind (wpAny_attempt (wpAny_callSpecial?_slot (name:=Str.ofString "__next__") hT slot_si_next
  (wpAny_call_entry slot_si_next hT entry_si_next ?_ (args_si_next _))))
 refine wpAny_bind (m:=slotArgs "__next__" 0 ⟨[.ref I],[]⟩) (wpAny_of_eq (a:=(Value.ref I,[])) rfl ?_)
 refine wpAny_bind (wpAny_fieldsOf ho rfl ?_)
 dsimp only
 refine wpAny_bind (wpAny_setEntries_of hob rfl tb.fits ?_)
 refine wpAny_ite_split (fun q=>by simp at q) fun o_=>?_
 refine wpAny_bind ?_
 skip
 refine O.next prog _ _ _ s vs.length hob (Nat.le_refl _) ?_
 rw [List.getElem?_eq_none (Nat.le_refl _)]
 dsimp only [Option.map_none]
 refine wpAny_bind (wpAny_setField_rec ho (by simp) fun h₁ ho₁ hs₁=>?_)
 refine wpAny_bind ?_
 skip
 refine wpAny_bind (wpAny_newObj_type ?_ (by size_fits))
 refine wpAny_bind (m:=firstArgMember _ _) (wpAny_of_eq (a:=Value.none) (by first | rfl | (skip;rfl)) ?_)
 refine wpAny_newObj_type ?_ (by size_fits)
 skip
 refine wpAny_bind (wpAny_handled ?_)
 rw [show A.in1.handled=none from hh]
 refine wpAny_bind (wpAny_pure (wpAny_throw ?_))
 refine wpAny_bind (wpAny_isInstance (T := "StopIteration") (b:=true) ⟨_,Heap.get?_push_size _ rfl,rfl⟩ isSubtype_stop ?_)
 refine wpAny_pure (hQ _ fun b o hb e=>push_keep _ _ _ _ (push_keep _ _ _ _ ?_))
 rw [hs₁.2 _ hb];exact e
theorem next_drawn_item {I S T:Addr} {es:Array (Int×Value)} {ep:Nat} {t:SetTable} {ps:List Nat} {i p:Nat} {v:Value×Int} {c:Nat} {Q:Option Value→Shared→Prop} (tb:Tb t es.size) (hSI:S≠I) (hTI:T≠I)
  (st:SIt w s.heap I S es ep t i fun o_=>.ref T) (hT':s.heap.get? T=some (seqObj "tuple" (ps.map fun (p:Nat)=>rawInt p).toArray c)) (hp:ps[i]? = some p) (hv:es[p]? = some (v.2,v.1))
  (hQ:∀ h',SIt w h' I S es ep t (i+1) (fun o_=>.ref T)→(∀ b o,b≠I→s.heap.get? b=some o→h'.get? b=some o)→Q (some v.1) { s with heap:=h' }) :
  wpAny (model prog w) A (pyNext (.ref I)) Q Er s:=by
 obtain ⟨ho,hob⟩:=st
 have hT:s.TypeIs (.ref I) "set_iterator":=⟨_,ho,rfl⟩
 skip
 refine wpAny_bind (wpAny_attempt (wpAny_callSpecial?_slot (name:=Str.ofString "__next__") hT slot_si_next
  (wpAny_call_entry slot_si_next hT entry_si_next ?_ (args_si_next _))))
 refine wpAny_bind (m:=slotArgs "__next__" 0 ⟨[.ref I],[]⟩) (wpAny_of_eq (a:=(Value.ref I,[])) rfl ?_)
 refine wpAny_bind (wpAny_fieldsOf ho rfl ?_)
 dsimp only
 refine wpAny_bind (wpAny_setEntries_of hob rfl tb.fits ?_)
 refine wpAny_ite_split (fun q=>by simp at q) fun o_=>?_
 refine wpAny_bind (wpAny_seqItems hT' rfl ?_)
 dsimp only
 dsimp only [Int.toNat_natCast]
 have e1:(ps.map fun (p:Nat)=>rawInt p).toArray[i]? = some (.int (p:Int) 0):=by
  simp [hp,rawInt]
 rw [e1]
 dsimp only
 refine wpAny_bind ?_
 skip
 refine wpAny_bind (wpAny_setState_of hob rfl tb.fits ?_)
 simp only [Int.toNat_natCast,bne_self_eq_false,Bool.false_eq_true,if_false]
 rw [hv]
 refine wpAny_pure ?_
 refine wpAny_bind (wpAny_setField_rec ho (by simp) fun h₁ ho₁ hs₁=>?_)
 refine wpAny_pure ⟨_,rfl,wpAny_pure (hQ h₁ ⟨?_,?_⟩ fun b o hb e=>?_)⟩
 ·exact ho₁
 ·rw [hs₁.2 _ hSI];exact hob
 ·rw [hs₁.2 _ hb];exact e
theorem next_drawn_end {I S T:Addr} {es:Array (Int×Value)} {ep:Nat} {t:SetTable} {ps:List Nat} {c:Nat} {Q:Option Value→Shared→Prop} (hh:A.handled=none) (tb:Tb t es.size)
  (st:SIt w s.heap I S es ep t ps.length fun o_=>.ref T) (hT':s.heap.get? T=some (seqObj "tuple" (ps.map fun (p:Nat)=>rawInt p).toArray c))
  (hQ:∀ h',(∀ b o,b≠I→s.heap.get? b=some o→h'.get? b=some o)→Q none { s with heap:=h' }) :
  wpAny (model prog w) A (pyNext (.ref I)) Q Er s:=by
 obtain ⟨ho,hob⟩:=st
 have hT:s.TypeIs (.ref I) "set_iterator":=⟨_,ho,rfl⟩
 skip
 refine wpAny_bind (wpAny_attempt (wpAny_callSpecial?_slot (name:=Str.ofString "__next__") hT slot_si_next
  (wpAny_call_entry slot_si_next hT entry_si_next ?_ (args_si_next _))))
 refine wpAny_bind (m:=slotArgs "__next__" 0 ⟨[.ref I],[]⟩) (wpAny_of_eq (a:=(Value.ref I,[])) rfl ?_)
 refine wpAny_bind (wpAny_fieldsOf ho rfl ?_)
 dsimp only
 refine wpAny_bind (wpAny_setEntries_of hob rfl tb.fits ?_)
 refine wpAny_ite_split (fun q=>by simp at q) fun o_=>?_
 refine wpAny_bind (wpAny_seqItems hT' rfl ?_)
 dsimp only
 dsimp only [Int.toNat_natCast]
 have e1:(ps.map fun (p:Nat)=>rawInt p).toArray[ps.length]? = none:=by simp
 rw [e1]
 dsimp only
 refine wpAny_bind (wpAny_setField_rec ho (by simp) fun h₀ ho₀ hs₀=>?_)
 refine wpAny_bind (wpAny_setField_rec ho₀ (by simp) fun h₁ ho₁ hs₁=>?_)
 refine wpAny_bind ?_
 skip
 refine wpAny_bind (wpAny_newObj_type ?_ (by size_fits))
 refine wpAny_bind (m:=firstArgMember _ _) (wpAny_of_eq (a:=Value.none) (by first | rfl | (skip;rfl)) ?_)
 refine wpAny_newObj_type ?_ (by size_fits)
 skip
 refine wpAny_bind (wpAny_handled ?_)
 rw [show A.in1.handled=none from hh]
 refine wpAny_bind (wpAny_pure (wpAny_throw ?_))
 refine wpAny_bind (wpAny_isInstance (T := "StopIteration") (b:=true) ⟨_,Heap.get?_push_size _ rfl,rfl⟩ isSubtype_stop ?_)
 refine wpAny_pure (hQ _ fun b o hb e=>push_keep _ _ _ _ (push_keep _ _ _ _ ?_))
 rw [hs₁.2 _ hb,hs₀.2 _ hb];exact e
theorem iter_si_self {I S:Addr} {f:Value} {i n ep:Nat} {Q:Value→Shared→Prop} (ho:s.heap.get? I=some (siObj f i S n ep)) (h:Q (.ref I) s):wpAny (model prog w) A (pyIter (.ref I)) Q Er s:=by
 have hT:s.TypeIs (.ref I) "set_iterator":=⟨_,ho,rfl⟩
 refine wpAny_pyIter_slot hT slot_si_iter (wpAny_call_entry slot_si_iter hT entry_si_iter ?_ (args_si_iter _))
 skip
 exact wpAny_pure ⟨_,rfl, "set_iterator",_,hT,slot_si_next.lookup,h⟩
theorem iter_set {S:Addr} {es:Array (Int×Value)} {ep:Nat} {t:SetTable} {Q:Value→Shared→Prop} (Z:SObj s.heap S es ep t) (hl:t.led = !byT w)
  (hQ:∀ (I:Addr) (fp:List Addr) (vs:List Value) (St:Nat→Heap→Prop) (h':Heap) dr,(∀ b o,s.heap.get? b=some o→h'.get? b=some o)→(∀ b∈fp,b=S∨s.heap.get? b=none)→s.heap.get? I=none→vs.Perm (es.toList.map (·.2)) →
   (∀ A':Around,A'.handled=none→Walks prog w A' I fp [I] vs.length (fun i v=>vs[i]? = some v) St)→St 0 h'→Q (.ref I) { s with heap:=h',drawn:=dr }) :
  wpAny (model prog w) A (pyIter (.ref S)) Q Er s:=by
 obtain ⟨ho,tb,hz⟩:=Z
 have hT:s.TypeIs (.ref S) "set":=⟨_,ho,rfl⟩
 refine wpAny_pyIter_slot hT F.slot_set_iter (wpAny_call_entry F.slot_set_iter hT entry_set_iter ?_ (F.args_set_iter_1 _))
 refine wpAny_bind (m:=Builtin.Frozenset.slot0 "__iter__" ⟨[.ref S],[]⟩) (wpAny_of_eq (a:=S) rfl ?_)
 refine wpAny_bind (wpAny_bind (wpAny_setEntries_of ho rfl tb.fits (wpAny_pure ?_)))
 refine wpAny_bind (wpAny_bind (wpAny_setState_of ho rfl tb.fits (wpAny_bind (wpAny_bind (wpAny_askSetting (wpAny_pure (wpAny_pure ?_)))))))
 have hSne:∀ o,s.heap.get? S=some o→S≠s.heap.objs.size:=fun o e=>Nat.ne_of_lt (Heap.lt_size e)
 have seq:∀ (vs:List Value) (slots:Nat→Nat),SeqOrd w S es ep t vs slots →
   wpAny (model prog w) A.in1 (do let e ← setEpoch S;let v ← newFields "set_iterator" [rawInt 0,rawInt 0,.ref S,rawInt es.size,rawInt e];ret v)
    (fun fin s'=>∃ v,fin=.done (.ret v)∧∃ T' r,s'.TypeIs v T'∧typeLookup (.type T') (Str.ofString "__next__")=pure (some r)∧Q v s') Er s:=by
  intro vs slots O
  refine wpAny_bind (wpAny_setEpoch_of ho rfl tb.fits ?_)
  skip
  refine wpAny_bind (wpAny_newObj_type ?_)
  refine wpAny_pure ⟨_,rfl, "set_iterator",_,⟨_,Heap.get?_push_size _ rfl,rfl⟩,slot_si_next.lookup,?_⟩
  have hne:=hSne _ ho
  refine hQ s.heap.objs.size [s.heap.objs.size,S] vs (fun i h=>SIt w h s.heap.objs.size S es ep t i fun i=>.int (slots i:Int) 0) _ s.drawn (fun b o e=>push_keep _ _ _ _ e) (fun b hb=>?_) (get_none_size _) O.perm (fun A' hA=>?_) ⟨?_,push_keep _ _ _ _ ho⟩
  ·simp only [List.mem_cons,List.not_mem_nil,or_false] at hb
   rcases hb with rfl|rfl
   ·exact .inr (get_none_size _)
   ·exact .inl rfl
  ·refine ⟨fun b hb=>by simp at hb;simp [hb],fun i h h' st k=>⟨k _ (by exact .head _) _ st.it,k _ (by exact .tail _ (.head _)) _ st.ob⟩,fun i s' Q' Er' hi st hP=>?_,fun s' Q' Er' st hP=>?_,fun i s' Q' Er' st hP=>iter_si_self st.it hP⟩
   ·have hv:vs[i]? = some vs[i]:=List.getElem?_eq_getElem hi
    exact next_seq_item O tb hne st hv fun h' st' k=>hP _ h' s'.toks hv st' fun b o hb e=>k b o (by simpa using hb) e
   ·exact next_seq_end hA O tb st fun h' k=>hP h' s'.toks fun b o hb e=>k b o (by simpa using hb) e
  ·have e0:=O.zero
   have e1:(s.heap.push { cls:=.type "set_iterator",data:=.fields [rawInt 0,rawInt 0,.ref S,rawInt es.size,rawInt ep].toArray }).get? s.heap.objs.size=some { cls:=.type "set_iterator",data:=.fields [rawInt 0,rawInt 0,.ref S,rawInt es.size,rawInt ep].toArray }:=Heap.get?_push_size _ rfl
   rw [e1]
   simp [siObj,rawInt,e0]
 by_cases hd:(!byT w && (!t.plain && decide (es.size > 1)))=true
 ·have hd':(!{ program:=(model prog w).prog,params:=(model prog w).w.params:Setting }.params.followText "set-order" && (!t.plain && decide (es.size > 1)))=true:=hd
  refine wpAny_ite_split (fun o_=>?_) fun q=>absurd hd' q
  refine wpAny_bind (wpAny_drawOrder es.size (List.range es.size) (by simp) fun ps dr hps=>?_)
  have hlen:ps.length=es.size:=by have:=hps.length_eq;simpa using this
  refine wpAny_bind ?_
  refine wpAny_newObj_type ?_ (by show (List.toArray _).size≤sizeLine;rw [List.size_toArray,List.length_map,hlen];exact sizeLine_big (by exact Nat.le_trans (by assumption) (by decide)))
  have ho1:(s.heap.push { cls:=.type "tuple",data:=.seq (ps.map fun (p:Nat)=>rawInt p).toArray }).get? S=some { cls:=.type "set",dict:=none,data:=.set es ep t }:=push_keep _ _ _ _ ho
  have hT1:(s.heap.push { cls:=.type "tuple",data:=.seq (ps.map fun (p:Nat)=>rawInt p).toArray }).get? s.heap.objs.size=some (seqObj "tuple" (ps.map fun (p:Nat)=>rawInt p).toArray 0):=Heap.get?_push_size _ rfl
  refine wpAny_bind (wpAny_setEpoch_of ho1 rfl tb.fits ?_)
  skip
  refine wpAny_bind (wpAny_newObj_type ?_)
  refine wpAny_pure ⟨_,rfl, "set_iterator",_,⟨_,Heap.get?_push_size _ rfl,rfl⟩,slot_si_next.lookup,?_⟩
  have hsz1:(s.heap.push { cls:=.type "tuple",data:=.seq (ps.map fun (p:Nat)=>rawInt p).toArray }).objs.size=s.heap.objs.size+1:=Heap.size_push _ _
  have hne:S≠s.heap.objs.size+1:=Nat.ne_of_lt (Nat.lt_succ_of_lt (Heap.lt_size ho))
  have hTI:s.heap.objs.size≠s.heap.objs.size+1:=Nat.ne_of_lt (Nat.lt_succ_self _)
  have nn:s.heap.get? (s.heap.objs.size+1)=none:=by
   rcases e:s.heap.get? (s.heap.objs.size+1) with _|o
   ·rfl
   ·exact absurd (Heap.lt_size e) (Nat.not_lt.mpr (Nat.le_succ _))
  have I0:=Heap.get?_push_size (s.heap.push { cls:=.type "tuple",data:=.seq (ps.map fun (p:Nat)=>rawInt p).toArray }) (o:={ cls:=.type "set_iterator",data:=.fields [.ref s.heap.objs.size,rawInt 0,.ref S,rawInt es.size,rawInt ep].toArray }) rfl
  rw [hsz1] at I0
  have getp:∀ p,p<es.size→es[p]? = some (es[p]!.1,es[p]!.2):=fun p hp=>by
   rw [Array.getElem?_eq_getElem hp];simp [hp]
  have pe:(ps.map fun p=>es[p]!.2).Perm (es.toList.map (·.2)):=by
   refine (hps.map _).trans (List.Perm.of_eq ?_)
   apply List.ext_getElem?
   intro i
   rw [List.getElem?_map,List.getElem?_map]
   by_cases q:i<es.size
   ·rw [List.getElem?_range q];simp [q]
   ·rw [List.getElem?_eq_none (by simpa using q),List.getElem?_eq_none (by simpa using q)];rfl
  skip
  rw [hsz1]
  refine hQ (s.heap.objs.size+1) [s.heap.objs.size+1,S,s.heap.objs.size] (ps.map fun p=>es[p]!.2) (fun i h=>SIt w h (s.heap.objs.size+1) S es ep t i (fun o_=>.ref s.heap.objs.size)∧h.get? s.heap.objs.size=some (seqObj "tuple" (ps.map fun (p:Nat)=>rawInt p).toArray 0)) _ dr (fun b o e=>push_keep _ _ _ _ (push_keep _ _ _ _ e)) (fun b hb=>?_) nn pe (fun A' hA=>?_) ⟨⟨?_,push_keep _ _ _ _ ho1⟩,push_keep _ _ _ _ hT1⟩
  ·simp only [List.mem_cons,List.not_mem_nil,or_false] at hb
   rcases hb with rfl|rfl|rfl
   ·exact .inr nn
   ·exact .inl rfl
   ·exact .inr (get_none_size _)
  ·refine ⟨fun b hb=>by simp at hb;simp [hb],fun i h h' st k=>⟨⟨k _ (by exact .head _) _ st.1.it,k _ (by exact .tail _ (.head _)) _ st.1.ob⟩,k _ (by exact .tail _ (.tail _ (.head _))) _ st.2⟩,fun i s' Q' Er' hi st hP=>?_,fun s' Q' Er' st hP=>?_,fun i s' Q' Er' st hP=>iter_si_self st.1.it hP⟩
   ·have hi':i<ps.length:=by simpa using hi
    have hp:ps[i]? = some ps[i]:=List.getElem?_eq_getElem hi'
    have hlt:ps[i]<es.size:=List.mem_range.mp (hps.mem_iff.mp (List.getElem_mem hi'))
    refine next_drawn_item (v:=(es[ps[i]]!.2,es[ps[i]]!.1)) tb hne hTI st.1 st.2 hp (getp _ hlt) fun h' st' k=>hP _ h' s'.toks (by simp [hi']) ⟨st',k _ _ hTI st.2⟩ fun b o hb e=>k b o (by simpa using hb) e
   ·have st1:=st.1
    rw [show (ps.map fun p=>es[p]!.2).length=ps.length by simp] at st1
    exact next_drawn_end hA tb st1 st.2 fun h' k=>hP h' s'.toks fun b o hb e=>k b o (by simpa using hb) e
  ·rw [I0]
   simp [siObj,rawInt]
 ·have hd':¬ (!{ program:=(model prog w).prog,params:=(model prog w).w.params:Setting }.params.followText "set-order" && (!t.plain && decide (es.size > 1)))=true:=hd
  refine wpAny_ite_split (fun q=>absurd q hd') fun o_=>wpAny_bind (wpAny_pure ?_)
  rcases hw:byT w with _|_
  ·
   have hd2:(!t.plain && decide (es.size > 1))=false:=by simpa [hw] using hd
   exact seq _ _ (ord_place tb hw (by rw [hl,hw];rfl) hd2)
  ·
   obtain ⟨vs,O⟩:=ord_text (S:=S) (ep:=ep) tb hw
   exact seq vs _ O
end
structure ItSrc (prog:Program) (w:World) (r:Addr) (T:String) (OK:Heap→Prop) (good:List Value→Prop):Prop where
 type:∀ h,OK h→∃ o,h.get? r=some o∧o.cls=.type T
 keep:∀ h h',OK h→(∀ b o,h.get? b=some o→h'.get? b=some o)→OK h'
 notList:(Value.type T==Value.type "list")=false
 notTuple:(Value.type T==Value.type "tuple")=false
 size:∀ vs,good vs→vs.length≤1000000
 hint:∀ (A:Around) (Er:Value→Shared→Prop) (s:Shared) (Q:Bool→Shared→Prop),OK s.heap→Q false s→wpAny (model prog w) A (Builtin.List.listLengthHint (.ref r)) Q Er s
 iter:∀ (A:Around) (Er:Value→Shared→Prop) (s:Shared) (Q:Value→Shared→Prop),OK s.heap →
  (∀ (I:Addr) (fp:List Addr) (vs:List Value) (St:Nat→Heap→Prop) (h':Heap) dr,(∀ b o,s.heap.get? b=some o→h'.get? b=some o)→(∀ b∈fp,b=r∨s.heap.get? b=none)→s.heap.get? I=none→good vs →
   (∀ A':Around,A'.handled=none→Walks prog w A' I fp [I] vs.length (fun i v=>vs[i]? = some v) St)→St 0 h'→Q (.ref I) { s with heap:=h',drawn:=dr })→wpAny (model prog w) A (pyIter (.ref r)) Q Er s
section
variable {prog:Program} {w:World} {A:Around} {Er:Value→Shared→Prop} {s:Shared}
theorem items_all {vs:List Value} {acc:Array Value} {n:Nat} (h:ItemsOf (fun i v=>vs[i]? = some v) acc n) (hn:n=vs.length):acc.toList=vs:=by
 subst hn
 apply List.ext_getElem?
 intro i
 by_cases q:i<acc.size
 ·rw [Array.getElem?_toList,Array.getElem?_eq_getElem q]
  exact (h.2 i _ (Array.getElem?_eq_getElem q)).symm
 ·have hs:=h.1
  rw [Array.getElem?_toList,Array.getElem?_eq_none (by exact Nat.le_of_not_lt (by assumption)),List.getElem?_eq_none (by omega)]
theorem collect_it {r:Addr} {T:String} {OK:Heap→Prop} {good:List Value→Prop} (K:ItSrc prog w r T OK good) (hh:A.handled=none) (ok:OK s.heap) {Q:List Value→Shared→Prop}
  (hQ:∀ vs h' dr tk,good vs→(∀ b o,s.heap.get? b=some o→h'.get? b=some o)→Q vs { s with heap:=h',drawn:=dr,toks:=tk }):wpAny (model prog w) A (collect (.ref r)) Q Er s:=by
 have ok₁:OK (s.heap.push (seqObj "list" #[] 0)):=K.keep _ _ ok fun b o e=>push_keep _ _ _ _ e
 have hT:(Shared.mk (s.heap.push (seqObj "list" #[] 0)) s.gens s.drawn s.toks s.os).TypeIs (.ref r) T:=by obtain ⟨o,h1,h2⟩:=K.type _ ok₁;exact ⟨o,h1,h2⟩
 have hSr:s.heap.objs.size≠r:=by obtain ⟨o,h1,_⟩:=K.type _ ok;exact Nat.ne_of_gt (Heap.lt_size h1)
 have hS₀:(s.heap.push (seqObj "list" #[] 0)).get? s.heap.objs.size=some (seqObj "list" #[] 0):=Heap.get?_push_size _ rfl
 skip
 refine wpAny_bind (wpAny_runValue (codeAny_builtin PySem.F.entry_proto_collect ?_))
 rw [Around.under_plainId PySem.F.plain_proto_collect _]
 skip
 refine wpAny_bind (wpAny_newObj_type ?_)
 refine wpAny_pure ⟨plainId_quiet PySem.F.plain_list_iadd _,codeAny_builtin PySem.F.entry_list_iadd ?_⟩
 rw [Around.under_plainId PySem.F.plain_list_iadd _]
 show wpAny _ A.in1 (Builtin.List.listExtendWith (.ref s.heap.objs.size) (.ref r) (.ref s.heap.objs.size)) _ _ { s with heap:=s.heap.push (seqObj "list" #[] 0) }
 skip
 refine wpAny_bind (wpAny_typeOf hT ?_)
 have h1:Builtin.List.listSameRef (.ref s.heap.objs.size) (.ref r)=false:=by
  skip;exact beq_eq_false_iff_ne.mpr hSr
 rw [h1,K.notList,K.notTuple]
 refine wpAny_bind (K.iter _ _ _ _ ok₁ fun I fp vs St h₁ dr k₁ hfp hI hg W st=>?_)
 have hS₁:h₁.get? s.heap.objs.size=some (seqObj "list" #[] 0):=k₁ _ _ hS₀
 have hSf:s.heap.objs.size∉fp:=fun q=>by
  rcases hfp _ q with e|e
  ·exact hSr e
  ·rw [hS₀] at e;contradiction
 have hIS:I≠s.heap.objs.size:=fun q=>by rw [q,hS₀] at hI;contradiction
 have key:∀ (h:Heap) (c₁:Nat),St 0 h→(∀ b o,b≠s.heap.objs.size→h₁.get? b=some o→h.get? b=some o)→h.get? s.heap.objs.size=some (seqObj "list" #[] c₁) →
   codeAny (model prog w) A (.builtin "list.extend.loop" ⟨[.ref s.heap.objs.size,.ref I,.ref s.heap.objs.size],[]⟩)
    (fun r s'=>∃ h' tk acc c,r=.ok (.ret (.ref s.heap.objs.size))∧s' = { s with heap:=h',drawn:=dr,toks:=tk }∧acc.toList=vs∧h'.get? s.heap.objs.size=some (seqObj "list" acc c)∧(∀ b o,s.heap.get? b=some o→h'.get? b=some o)) { s with heap:=h,drawn:=dr }:=by
  intro h c₁ hst hk hS
  refine codeAny_extend_loopS (W A.in1 hh).toS (sizeLine_big (K.size vs hg)) s.heap.objs.size hSf (.ref s.heap.objs.size) vs.length 0 _ #[] c₁ rfl (Nat.zero_le _) hst hS (ItemsOf.nil _) fun s' acc' c' hm hS' hacc=>?_
  obtain ⟨h',g',d',tk',os'⟩:=s'
  have eg:g'=s.gens:=hm.gens
  have ed:d'=dr:=hm.drawn
  have eo:os'=s.os:=hm.os
  subst eg;subst ed;subst eo
  refine ⟨h',tk',acc',c',rfl,rfl,items_all hacc rfl,hS',fun b o e=>?_⟩
  have hb:b≠s.heap.objs.size:=Nat.ne_of_lt (Heap.lt_size e)
  have hbI:b≠I:=fun q=>by rw [q] at e;rw [push_keep _ _ _ _ e] at hI;contradiction
  exact hm.heap b o (by simp [hb,hbI]) (hk b o hb (k₁ b o (push_keep _ _ _ _ e)))
 refine wpAny_bind (wpAny_holding (K.hint _ _ _ _ (K.keep _ _ ok₁ k₁) ?_))
 refine wpAny_ite_split (fun o_=>?_) fun o_=>wpAny_pure ⟨plainId_quiet PySem.F.plain_extend_loop _,codeAny_mono (key _ 0 st (fun o_ o_ o_ e=>e) hS₁) ?_⟩
 ·refine wpAny_bind (wpAny_rule ?_)
  refine wpAny_bind ?_
  skip
  refine wpAny_bind (wpAny_updateSeq hS₁ rfl ?_)
  have hS₂:=get?_update_seq hS₁ (·.push Value.none)
  refine wpAny_updateSeq hS₂ rfl ?_
  have hS₃:=get?_update_seq hS₂ (·.pop)
  have oth:∀ b o,b≠s.heap.objs.size→h₁.get? b=some o→((h₁.update s.heap.objs.size (Obj.mapSeq (·.push Value.none))).update s.heap.objs.size (Obj.mapSeq (·.pop))).get? b=some o:=
   fun b o hb e=>(Heap.get?_update_other _ _ (Ne.symm hb)).trans ((Heap.get?_update_other _ _ (Ne.symm hb)).trans e)
  refine wpAny_pure ⟨plainId_quiet PySem.F.plain_extend_loop _,codeAny_mono (key _ _ ((W A hh).frame 0 _ _ st fun b hb o e=>oth b o (fun q=>hSf (q▸hb)) e) oth hS₃) ?_⟩
  rintro r' s' ⟨h',tk,acc,c,rfl,rfl,ha,ho,kk⟩
  skip
  refine wpAny_bind (wpAny_load ho ?_)
  refine wpAny_pure ?_
  have:=hQ vs h' dr tk hg kk
  rw [← ha] at this
  exact this
 ·rintro r' s' ⟨h',tk,acc,c,rfl,rfl,ha,ho,kk⟩
  skip
  refine wpAny_bind (wpAny_load ho ?_)
  refine wpAny_pure ?_
  have:=hQ vs h' dr tk hg kk
  rw [← ha] at this
  exact this
end
section
variable {prog:Program} {w:World} {A:Around} {Er:Value→Shared→Prop} {s:Shared}
theorem hint_set {r:Addr} {Q:Bool→Shared→Prop} (hT:s.TypeIs (.ref r) "set") (h:Q false s):wpAny (model prog w) A (Builtin.List.listLengthHint (.ref r)) Q Er s:=by
 skip
 refine wpAny_bind (wpAny_specialOf hT PySem.F.slot_set_len.lookup ?_)
 generalize hid:("set.__len__" : String)=id0
 wp_delta
 rw [show splitId id0=some ("set", "__len__") from by subst hid;decide +kernel]
 subst hid
 refine wpAny_bind (wpAny_isInstance (T := "set") (b:=true) hT (by rw [isSubtype_type];kernel_rfl) ?_)
 refine wpAny_ite_split (fun hab=>absurd hab (by decide)) (fun o_=>?_)
 refine wpAny_ite_split (fun o_=>?_) (fun hab=>absurd (by decide +kernel) hab)
 refine wpAny_bind (wpAny_typeOf hT ?_)
 exact wpAny_pure h
theorem set_src {S:Addr} {es:Array (Int×Value)} {ep:Nat} {t:SetTable} (hl:t.led = !byT w) (hz:es.size≤16):ItSrc prog w S "set" (fun h=>SObj h S es ep t) (fun vs=>vs.Perm (es.toList.map (·.2))) where
 type h ok:=⟨_,ok.ob,rfl⟩
 keep h h' ok k:=⟨k _ _ ok.ob,ok.tb,ok.size⟩
 notList:=by decide
 notTuple:=by decide
 size vs g:=by
  have:=g.length_eq
  simp at this
  omega
 hint A Er s Q ok q:=hint_set ⟨_,ok.ob,rfl⟩ q
 iter A Er s Q ok q:=iter_set ok hl q
theorem keys_walk {it d:Addr} {es:List DictEntry} {ep:Nat} (hne:d≠it) (A:Around) (hh:A.handled=none):Walks prog w A it [it,d] [it] (es.map (·.key)).length (fun i v=>(es.map (·.key))[i]? = some v) (fun i h=>KeySt h it d es ep i) where
 sub b hb:=by simp at hb;simp [hb]
 frame i h h' st k:=⟨k _ (by exact .head _) _ st.it,k _ (by exact .tail _ (.head _)) _ st.d⟩
 item i s Q Er hi st hP:=by
  have hi':i<es.length:=by simpa using hi
  have hx:es[i]? = some es[i]:=List.getElem?_eq_getElem hi'
  exact next_key_item st hx hne fun h' st' hs'=>hP _ h' s.toks (by simp [hi']) st' fun b o hb e=>by rw [hs'.2 b (by simpa using hb)];exact e
 done s Q Er st hP:=by
  have st':KeySt s.heap it d es ep es.length:=by simpa using st
  exact next_key_end hh st' fun h' k=>hP h' s.toks fun b o hb e=>k b o (by simpa using hb) e
 self i s Q Er st h:=iter_keys_self st h
theorem dict_src {d:Addr} {es:List DictEntry} {ep:Nat} (hd:(d==sysModules)=false) (hz:es.length≤1000000):ItSrc prog w d "dict" (fun h=>h.get? d=some (dictOf es ep)) (fun vs=>vs=es.map (·.key)) where
 type h ok:=⟨_,ok,rfl⟩
 keep h h' ok k:=k _ _ ok
 notList:=by decide
 notTuple:=by decide
 size vs g:=by subst g;simpa using hz
 hint A Er s Q ok q:=kdl_hint_dict ⟨_,ok,rfl⟩ q
 iter A Er s Q ok q:=by
  have hne:d≠s.heap.objs.size:=Nat.ne_of_lt (Heap.lt_size ok)
  refine iter_keys hd ok (q _ [s.heap.objs.size,d] _ (fun i h=>KeySt h s.heap.objs.size d es ep i) _ s.drawn (fun b o e=>push_keep _ _ _ _ e) (fun b hb=>?_) (get_none_size _) rfl (fun A' hA=>keys_walk hne A' hA) ⟨Heap.get?_push_size _ rfl,push_keep _ _ _ _ ok⟩)
  simp only [List.mem_cons,List.not_mem_nil,or_false] at hb
  rcases hb with rfl|rfl
  ·exact .inr (get_none_size _)
  ·exact .inl rfl
theorem sortedHeap_at (h:Heap) {a:Addr} {vs:List Value} {n:Nat} (out:Array Value) (ho:h.get? a=some (seqObj "list" vs.toArray n)):(∀ b o,b≠a→h.get? b=some o→(sortedHeap h a vs out).get? b=some o)∧∃ m,(sortedHeap h a vs out).get? a=some (seqObj "list" out m):=by
 skip
 refine ⟨fun b o hb e=>?_,?_⟩
 ·have e1:=(Heap.get?_update_other h (Obj.mapSeq fun o_=>(#[]:Array Value)) (Ne.symm hb)).trans e
  have e2:=Heap.get?_push_of_some (seqObj "list" #[] 0) (Heap.get?_push_of_some (seqObj "tuple" vs.toArray 0) e1)
  exact (Heap.get?_update_other _ (Obj.mapSeq fun o_=>out) (Ne.symm hb)).trans e2
 ·have g1:=get?_update_seq ho (fun o_=>(#[]:Array Value))
  have g2:=Heap.get?_push_of_some (seqObj "list" #[] 0) (Heap.get?_push_of_some (seqObj "tuple" vs.toArray 0) g1)
  exact ⟨_,get?_update_seq g2 (fun o_=>out)⟩
theorem sorted_it {r:Addr} {T:String} {OK:Heap→Prop} {good:List Value→Prop} {R:List Value→Array Value→Prop} (K:ItSrc prog w r T OK good) (hh:A.handled=none) (ok:OK s.heap) {Q:Value→Shared→Prop}
  (srt:∀ (vs:List Value) (A':Around) (Er':Value→Shared→Prop) (s':Shared) (a:Addr) (n:Nat) (P:PySem.Fin→Shared→Prop),good vs→(∀ b o,s.heap.get? b=some o→s'.heap.get? b=some o)→s'.heap.get? a=some (seqObj "list" vs.toArray n) →
   (∀ out,R vs out→P (.done (.ret .none)) { s' with heap:=sortedHeap s'.heap a vs out })→wpAny (model prog w) A' (Builtin.«list.sort» ⟨[.ref a],[]⟩) P Er' s')
  (hQ:∀ vs out a m h' dr tk,good vs→R vs out→(∀ b o,s.heap.get? b=some o→h'.get? b=some o)→s.heap.get? a=none→h'.get? a=some (seqObj "list" out m)→Q (.ref a) { s with heap:=h',drawn:=dr,toks:=tk }) :
  wpAny (model prog w) A (call (.builtin "sorted") [.ref r]) Q Er s:=by
 refine Calls.call_function_entry kind_sorted plain_sorted entry_sorted (args_sorted1 _) ?_
 skip
 refine wpAny_bind (m:=checkCount "sorted" 1 1 _) (wpAny_pure ?_)
 refine wpAny_bind (collect_it (A:=A.in1) K (show A.in1.handled=none from hh) ok fun vs h' dr tk g k=>?_)
 refine wpAny_bind (wpAny_newList ?_ (sizeLine_big (K.size vs g)))
 have hoL:(h'.push (seqObj "list" vs.toArray 0)).get? h'.objs.size=some (seqObj "list" vs.toArray 0):=Heap.get?_push_size _ rfl
 have kp:∀ b o,s.heap.get? b=some o→(h'.push (seqObj "list" vs.toArray 0)).get? b=some o:=fun b o e=>push_keep _ _ _ _ (k b o e)
 show wpAny _ _ _ _ _ { s with heap:=h'.push (seqObj "list" vs.toArray 0),drawn:=dr,toks:=tk }
 refine wpAny_bind (wpAny_holding (wpAny_call_entry slot_list_sort ⟨_,hoL,rfl⟩ entry_list_sort (srt vs _ _ _ _ _ _ g kp hoL fun out hr=>⟨_,rfl,?_⟩) (args_list_sort _)))
 obtain ⟨s1,m,s2⟩:=sortedHeap_at (h'.push (seqObj "list" vs.toArray 0)) out hoL
 have hn:s.heap.get? h'.objs.size=none:=by
  rcases e:s.heap.get? h'.objs.size with _|o
  ·rfl
  ·have:=k _ _ e;rw [get_none_size] at this;contradiction
 refine wpAny_pure ⟨_,rfl,hQ vs out h'.objs.size m _ dr tk g hr (fun b o e=>s1 b o (fun q=>by subst q;rw [hn] at e;contradiction) (kp b o e)) hn s2⟩
end
section
variable {cx:Cx} {n:Nat} {sc:Scope} {Γ:Str→Option V} {σ σ':Store} {B B':Addr→Prop} {s s':Shared} {A:Around} {Q:V→Store→Prop}
theorem kind_any {prog:Program} {w:World} {ks:List At} {xs:List Value} (h:ItemsAre (atKind default w) ks xs):ItemsAre (atKind prog w) ks xs:=by
 induction h with
 | nil=>exact .nil
 | cons a _ ih=>exact .cons a ih
theorem tuples_at {C:Cf}:∀ {kss:List (List At)} {xs:List Value},RpL C (kss.map T) xs→∃ L:List (List At×Addr),xs=L.map (fun p=>Value.ref p.2)∧kss=L.map (·.1)∧∀ p∈L,IsT C p.1 p.2
 | [],xs,h=>by skip;subst h;exact ⟨[],rfl,rfl,(fun p hp=>by contradiction)⟩
 | k::kss,xs,h=>by
  obtain ⟨x,r,rfl,hx,hr⟩:=h
  obtain ⟨L,rfl,rfl,hL⟩:=tuples_at hr
  have hx':=hx
  obtain ⟨a,items,m,rfl,_⟩:=hx
  refine ⟨(k,a)::L,rfl,rfl,fun p hp=>?_⟩
  rcases List.mem_cons.mp hp with rfl|hp
  ·exact IsT_rp.mpr hx'
  ·exact hL p hp
theorem refs_rp {C:Cf} {L:List (List At×Addr)} (hL:∀ p∈L,IsT C p.1 p.2):∀ {vs:List Value},(∀ v∈vs,∃ p∈L,v=Value.ref p.2)→∃ M:List (List At×Addr),vs=M.map (fun p=>Value.ref p.2)∧(∀ p∈M,p∈L)∧RpL C (M.map fun p=>T p.1) vs
 | [],_=>⟨[],rfl,(fun p hp=>by contradiction),rfl⟩
 | v::vs,h=>by
  obtain ⟨M,rfl,h2,h3⟩:=refs_rp hL (vs:=vs) fun u hu=>h u (.tail _ hu)
  obtain ⟨p,hp,rfl⟩:=h v (.head _)
  refine ⟨p::M,rfl,fun q hq=>?_,?_⟩
  ·rcases List.mem_cons.mp hq with rfl|hq
   ·exact hp
   ·exact h2 q hq
  ·exact ⟨_,_,rfl,IsT_rp.mp (hL p hp),h3⟩
theorem IsT.inj {C:Cf} {k k':List At} {a:Addr} (h:IsT C k a) (h':IsT C k' a):k=k':=by
 obtain ⟨_,i,m,ho,hi⟩:=h
 obtain ⟨_,i',m',ho',hi'⟩:=h'
 rw [ho] at ho'
 have:i=i':=by
  have e:=congrArg Obj.data (Option.some.inj ho')
  simp [seqObj] at e
  exact e.1
 subst this
 exact hi.inj hi'
theorem Ev_ssetT {e:Expr} {fp pos fp2 pos2:Pos} (hk:sc.names.lookup ("set" : Str)=some .globalImplicit) (hg:GlobIs cx ("set" : Str) (.type "set")) (hk2:sc.names.lookup ("sorted" : Str)=some .globalImplicit) (hg2:GlobIs cx ("sorted" : Str) (.builtin "sorted"))
  (hp:notStar e=true)
  (h:Ev cx n sc Γ σ e fun v σ₁=>∃ kss:List (List At),lk σ₁ v=some (.lst (kss.map T))∧kss.length≤16∧(∀ k∈kss,nodeK k)∧∀ out:List (List At),(∀ k,k∈out↔k∈kss)→out.length≤kss.length→Q (.lst (out.map T)) σ₁) :
  Ev cx n sc Γ σ (.Call (.Name ("sorted" : Str) fp2) [.Call (.Name ("set" : Str) fp) [e] [] pos] [] pos2) Q:=fun B env A s rd X E=>by
 show wpAny _ A (do callWith pos2 (← eval (.Name ("sorted" : Str) fp2) env) [] (backTo pos2 (starEach [.Call (.Name ("set" : Str) fp) [e] [] pos] env)) (backToKw pos2 (keywordEach [] env))) _ _ s
 refine wpAny_bind (glob_name X E hk2 hg2 ?_)
 refine callWith_run X (keeps_builtin _) rfl ?_
 rw [starEach_cons rfl]
 show wpAny _ A (spliced ((false,eval (.Call (.Name ("set" : Str) fp) [e] [] pos) env)::backTo pos2 (starEach [] env))) _ _ s
 refine spliced_cons ?_
 show wpAny _ A (do callWith pos (← eval (.Name ("set" : Str) fp) env) [] (backTo pos (starEach [e] env)) (backToKw pos (keywordEach [] env))) _ _ s
 refine wpAny_bind (glob_name X E hk hg ?_)
 have hL:EvL cx n sc Γ σ [e] fun vs σ₁=>∃ v,vs=[v]∧∃ kss:List (List At),lk σ₁ v=some (.lst (kss.map T))∧kss.length≤16∧(∀ k∈kss,nodeK k)∧∀ out:List (List At),(∀ k,k∈out↔k∈kss)→out.length≤kss.length→Q (.lst (out.map T)) σ₁:=⟨hp,h.mono fun v σ₁ q=>⟨v,rfl,q⟩⟩
 refine callWith_run X (keeps_type _) (by simp [hp]) (wpAny_mono (hL.run B env A s rd X E) (fun zs s₁ o=>?_) fun o_ o_ x=>x)
 obtain ⟨vs,σ₁,X₁,S₁,r₁,v,rfl,kss,hv,hz,hn,q⟩:=o
 refine ⟨cx.X.keeps X₁.keep,?_⟩
 obtain ⟨x,_,rfl,hx,rfl⟩:=r₁
 have g:=looked X₁ hx hv (fun b=>by simp)
 obtain ⟨l,items,m,rfl,_,ho,hl⟩:=g
 obtain ⟨L,e1,rfl,hIs⟩:=tuples_at hl
 have hsz:items.size=L.length:=by rw [← Array.length_toList,e1,List.length_map]
 have hLz:L.length≤16:=by simpa using hz
 have old:∀ p∈L,p.2<s₁.heap.objs.size:=fun p hp=>by
  obtain ⟨_,i',m',ho',_⟩:=hIs p hp
  exact Heap.lt_size ho'
 have kL:∀ h',(∀ b o,s₁.heap.get? b=some o→h'.get? b=some o)→∀ p∈L,IsTupleKey (atKind cx.prog cx.w) h' p.1 p.2∧p.2≠s₁.heap.objs.size∧p.2≠s₁.heap.objs.size+1:=fun h' k p hp=>by
  obtain ⟨_,i',m',ho',hi'⟩:=hIs p hp
  exact ⟨⟨_,i',m',k _ _ ho',rfl,rfl,kind_any hi'⟩,Nat.ne_of_lt (old p hp),Nat.ne_of_lt (Nat.lt_succ_of_lt (old p hp))⟩
 have hu:A.units+20+3<cLine:=by have:=rd.2.2;show _<9900;omega
 refine call_set_gen (A:=A) (J:=JT cx.prog cx.w s₁.heap.objs.size L) rd.1 ⟨_,ho,rfl,m,rfl⟩ (fun h' h0 k=>JT_zero h0 (kL h' k)) (JT_add hu e1 (by omega)) (fun i h h' H k=>JT_mono H k) fun h' tk htk H k=>?_
 have k':∀ b o,s₁.heap.get? b=some o→h'.get? b=some o:=fun b o e=>k b o (Heap.lt_size e) e
 refine spliced_nil ⟨cx.X.keeps fun b o e=>k' b o (X₁.keep b o e),?_⟩
 obtain ⟨_,es,ep,t,Z,hc,hez,hled,hall⟩:=H
 have hes16:es.size≤16:=by omega
 have X₂:St cx B σ₁ { s₁ with heap:=h',toks:=tk }:=X₁.all k' rfl rfl
 have S₂:Step σ₁ s₁.heap σ₁ h':=step_all (s:=s₁) (s':={ s₁ with heap:=h',toks:=tk }) k'
 have hIs₂:∀ p∈L,IsT (cf cx B σ₁ h') p.1 p.2:=fun p hp=>IsT_rp.mpr (S₂.rp (IsT_rp.mp (hIs p hp)))
 have mem_es:∀ v∈es.toList.map (·.2),∃ p∈L,v=Value.ref p.2:=fun v hv=>by
  obtain ⟨e0,he0,rfl⟩:=List.mem_map.mp hv
  obtain ⟨p,hp,e2,_⟩:=Z.el e0 he0
  exact ⟨p,hp,by rw [e2]⟩
 refine sorted_it (s:={ s₁ with heap:=h',toks:=tk }) (R:=fun vs out=>out.toList.Perm vs) (set_src (prog:=cx.prog) (w:=cx.w) hled hes16) rd.1 ⟨Z.ob,Z.tb,hes16⟩ (fun vs A' Er' s' a n' P gd kk hoa hP=>?_) fun vs out a m' h₃ dr tk₃ gd hr kk hna hoa=>?_
 ·refine list_sort_nodes hoa (fun v hv=>?_) (by have:=gd.length_eq;simp at this;omega) hP
  obtain ⟨p,hp,rfl⟩:=mem_es v (gd.mem_iff.mp hv)
  obtain ⟨_,i',m',ho',hi'⟩:=hIs₂ p hp
  exact ⟨p.2,i',m',p.1,rfl,kk _ _ ho',kind_any hi',hn p.1 (List.mem_map.mpr ⟨p,hp,rfl⟩)⟩
 ·have X₃:St cx B σ₁ { s₁ with heap:=h',drawn:=dr,toks:=tk }:=X₂.all (s':={ s₁ with heap:=h',drawn:=dr,toks:=tk }) (fun o_ o_ e=>e) rfl rfl
  have hout:=hr.trans gd
  obtain ⟨M,f1,f2,f3⟩:=refs_rp hIs₂ (vs:=out.toList) fun v hv=>mem_es v (hout.mem_iff.mp hv)
  refine Out.pre (S₁.trans S₂) (out_list (l:=M.map fun p=>T p.1) (s:={ s₁ with heap:=h',drawn:=dr,toks:=tk }) (tk:=tk₃) X₃ kk hna hoa (fun σ'' S=>S.rpL f3) (.inl ?_))
  have:=q (M.map (·.1)) (fun k=>?_) ?_
  ·rw [List.map_map] at this;exact this
  ·constructor
   ·intro hk
    obtain ⟨p,hp,rfl⟩:=List.mem_map.mp hk
    exact List.mem_map.mpr ⟨p,f2 p hp,rfl⟩
   ·intro hk
    obtain ⟨p,hp,rfl⟩:=List.mem_map.mp hk
    obtain ⟨j,hj,hjp⟩:=List.getElem_of_mem hp
    obtain ⟨e0,he0,p',hp',hpk,he⟩:=hall j p (by omega) (by rw [List.getElem?_eq_getElem hj,hjp])
    have hm:Value.ref p'.2∈out.toList:=hout.mem_iff.mpr (List.mem_map.mpr ⟨e0,he0,by rw [he]⟩)
    rw [f1] at hm
    obtain ⟨p2,hp2,e2⟩:=List.mem_map.mp hm
    injection e2 with e2
    have i1:=hIs₂ p2 (f2 p2 hp2)
    have i2:=hIs₂ p' hp'
    rw [e2] at i1
    exact List.mem_map.mpr ⟨p2,hp2,(i1.inj i2).trans hpk⟩
  ·have h1:=hout.length_eq
   rw [f1] at h1
   simp at h1
   simp
   omega
theorem mem_ints {vs:List Value} {ns:List Int} (h:IntsAre vs ns) (n:Int):n∈ns↔∃ tok,Value.int n tok∈vs:=by
 induction h with
 | nil=>simp
 | cons n' t' _ ih=>
  rw [List.mem_cons,ih]
  constructor
  ·rintro (rfl|⟨tok,h⟩)
   ·exact ⟨t',.head _⟩
   ·exact ⟨tok,.tail _ h⟩
  ·rintro ⟨tok,h⟩
   rcases List.mem_cons.mp h with e|h
   ·(injection e with e;subst e);exact .inl rfl
   ·exact .inr ⟨tok,h⟩
theorem Ev_ssetI {e:Expr} {fp pos fp2 pos2:Pos} (hk:sc.names.lookup ("set" : Str)=some .globalImplicit) (hg:GlobIs cx ("set" : Str) (.type "set")) (hk2:sc.names.lookup ("sorted" : Str)=some .globalImplicit) (hg2:GlobIs cx ("sorted" : Str) (.builtin "sorted"))
  (hp:notStar e=true)
  (h:Ev cx n sc Γ σ e fun v σ₁=>∃ ns:List Int,lk σ₁ v=some (.lst (ns.map .int))∧ns.length≤4∧∀ out:List Int,(∀ k,k∈out↔k∈ns)→out.length≤ns.length→Q (.lst (out.map .int)) σ₁) :
  Ev cx n sc Γ σ (.Call (.Name ("sorted" : Str) fp2) [.Call (.Name ("set" : Str) fp) [e] [] pos] [] pos2) Q:=fun B env A s rd X E=>by
 show wpAny _ A (do callWith pos2 (← eval (.Name ("sorted" : Str) fp2) env) [] (backTo pos2 (starEach [.Call (.Name ("set" : Str) fp) [e] [] pos] env)) (backToKw pos2 (keywordEach [] env))) _ _ s
 refine wpAny_bind (glob_name X E hk2 hg2 ?_)
 refine callWith_run X (keeps_builtin _) rfl ?_
 rw [starEach_cons rfl]
 show wpAny _ A (spliced ((false,eval (.Call (.Name ("set" : Str) fp) [e] [] pos) env)::backTo pos2 (starEach [] env))) _ _ s
 refine spliced_cons ?_
 show wpAny _ A (do callWith pos (← eval (.Name ("set" : Str) fp) env) [] (backTo pos (starEach [e] env)) (backToKw pos (keywordEach [] env))) _ _ s
 refine wpAny_bind (glob_name X E hk hg ?_)
 have hL:EvL cx n sc Γ σ [e] fun vs σ₁=>∃ v,vs=[v]∧∃ ns:List Int,lk σ₁ v=some (.lst (ns.map .int))∧ns.length≤4∧∀ out:List Int,(∀ k,k∈out↔k∈ns)→out.length≤ns.length→Q (.lst (out.map .int)) σ₁:=⟨hp,h.mono fun v σ₁ q=>⟨v,rfl,q⟩⟩
 refine callWith_run X (keeps_type _) (by simp [hp]) (wpAny_mono (hL.run B env A s rd X E) (fun zs s₁ o=>?_) fun o_ o_ x=>x)
 obtain ⟨vs,σ₁,X₁,S₁,r₁,v,rfl,ns,hv,hz,q⟩:=o
 refine ⟨cx.X.keeps X₁.keep,?_⟩
 obtain ⟨x,_,rfl,hx,rfl⟩:=r₁
 have g:=looked X₁ hx hv (fun b=>by simp)
 obtain ⟨l,items,m,rfl,_,ho,hl⟩:=g
 have hI:IntsAre items.toList ns:=RpL_ints.mp hl
 have hsz:items.size=ns.length:=by rw [← Array.length_toList];exact IntsAre.length hI
 refine call_set_gen (A:=A) (J:=JI cx.prog cx.w s₁.heap.objs.size ns) rd.1 ⟨_,ho,rfl,m,rfl⟩ (fun h' h0 k=>JI_zero h0) (JI_add hI (by omega)) (fun i h h' H k=>JI_mono H k) fun h' tk htk H k=>?_
 have k':∀ b o,s₁.heap.get? b=some o→h'.get? b=some o:=fun b o e=>k b o (Heap.lt_size e) e
 refine spliced_nil ⟨cx.X.keeps fun b o e=>k' b o (X₁.keep b o e),?_⟩
 obtain ⟨es,ep,t,Z,hez,hled,hall⟩:=H
 have hes16:es.size≤16:=by omega
 have X₂:St cx B σ₁ { s₁ with heap:=h',toks:=tk }:=X₁.all k' rfl rfl
 have S₂:Step σ₁ s₁.heap σ₁ h':=step_all (s:=s₁) (s':={ s₁ with heap:=h',toks:=tk }) k'
 have intl:∀ {vs:List Value},(∀ v∈vs,∃ n∈ns,∃ tok,v=Value.int n tok)→∃ ns',IntsAre vs ns'∧∀ n∈ns',n∈ns:=by
  intro vs
  induction vs with
  | nil=>intro _;exact ⟨[],.nil,fun n hn=>by contradiction⟩
  | cons v vs ih=>
   intro h
   obtain ⟨ns',a,b⟩:=ih fun u hu=>h u (.tail _ hu)
   obtain ⟨n,hn,tok,rfl⟩:=h v (.head _)
   refine ⟨n::ns',.cons n tok a,fun z hz=>?_⟩
   rcases List.mem_cons.mp hz with rfl|hz
   ·exact hn
   ·exact b z hz
 have mem_es:∀ v∈es.toList.map (·.2),∃ n∈ns,∃ tok,v=Value.int n tok:=fun v hv=>by
  obtain ⟨e0,he0,rfl⟩:=List.mem_map.mp hv
  obtain ⟨n,hn,tok,e2⟩:=Z.el e0 he0
  exact ⟨n,hn,tok,by rw [e2]⟩
 refine sorted_it (s:={ s₁ with heap:=h',toks:=tk }) (R:=fun vs out=>∃ ns1 ns2,IntsAre vs ns1∧IntsAre out.toList ns2∧ns2.Perm ns1) (set_src (prog:=cx.prog) (w:=cx.w) hled hes16) rd.1 ⟨Z.ob,Z.tb,hes16⟩ (fun vs A' Er' s' a n' P gd kk hoa hP=>?_) fun vs out a m' h₃ dr tk₃ gd hr kk hna hoa=>?_
 ·obtain ⟨ns1,i1,i2⟩:=intl fun v hv=>mem_es v (gd.mem_iff.mp hv)
  refine list_sort_tree hoa i1 (by have:=gd.length_eq;simp at this;omega) fun out ns' a1 a2 a3=>hP out ⟨ns1,ns',i1,a1,a2⟩
 ·have X₃:St cx B σ₁ { s₁ with heap:=h',drawn:=dr,toks:=tk }:=X₂.all (s':={ s₁ with heap:=h',drawn:=dr,toks:=tk }) (fun o_ o_ e=>e) rfl rfl
  obtain ⟨ns1,ns2,i1,i2,hpm⟩:=hr
  refine Out.pre (S₁.trans S₂) (out_list (l:=ns2.map .int) (s:={ s₁ with heap:=h',drawn:=dr,toks:=tk }) (tk:=tk₃) X₃ kk hna hoa (fun σ'' S=>RpL_ints.mpr i2) (.inl (q ns2 (fun k=>?_) ?_)))
  ·rw [hpm.mem_iff]
   rw [mem_ints i1]
   constructor
   ·rintro ⟨tok,hm⟩
    obtain ⟨n',hn',tok',e⟩:=mem_es _ (gd.mem_iff.mp hm)
    (injection e with e;subst e);exact hn'
   ·intro hk
    obtain ⟨j,hj,hjp⟩:=List.getElem_of_mem hk
    obtain ⟨e0,he0,tok,he⟩:=hall j k (by omega) (by rw [List.getElem?_eq_getElem hj,hjp])
    exact ⟨tok,gd.mem_iff.mpr (List.mem_map.mpr ⟨e0,he0,by rw [he]⟩)⟩
  ·have h1:=hpm.length_eq
   have h2:=IntsAre.length i1
   have h3:=gd.length_eq
   simp at h3
   omega
end
set_option tactic.hygienic true in
theorem perm_lift {α β:Type} {f:α→β} {xs ys:List β} (h:xs.Perm ys):∀ {L:List α},ys=L.map f→∃ M:List α,xs=M.map f∧M.Perm L:=by
 induction h with
 | nil=>
  intro L e
  rcases L with _|⟨a,L⟩
  ·exact ⟨[],rfl,List.Perm.refl _⟩
  ·simp at e
 | @cons x l₁ l₂ _ ih=>
  intro L e
  rcases L with _|⟨a,L⟩
  ·simp at e
  ·
   simp only [List.map_cons,List.cons.injEq] at e
   obtain ⟨rfl,e⟩:=e
   obtain ⟨M,rfl,p⟩:=ih e
   exact ⟨a::M,rfl,p.cons a⟩
 | swap x y l=>
  intro L e
  match L with
  | []=>simp at e
  | [a]=>simp at e
  | a::b::L=>
   simp only [List.map_cons,List.cons.injEq] at e
   obtain ⟨rfl,rfl,rfl⟩:=e
   exact ⟨b::a::L,rfl,List.Perm.swap _ _ _⟩
 | trans _ _ ih1 ih2=>
  intro L e
  obtain ⟨M,e1,p1⟩:=ih2 e
  obtain ⟨M',e2,p2⟩:=ih1 e1
  exact ⟨M',e2,p2.trans p1⟩
section
variable {cx:Cx} {n:Nat} {sc:Scope} {Γ:Str→Option V} {σ σ':Store} {B B':Addr→Prop} {s s':Shared} {A:Around} {Q:V→Store→Prop}
theorem Cl_sortedK {v:V} {l:List (List At×V)} (hv:lk σ v=some (.dT l)) (hz:l.length<64) (hn:∀ p∈l,nodeK p.1) (q:∀ out:List (List At),out.Perm (l.map (·.1))→Q (.lst (out.map T)) σ):Cl cx n σ (.builtin "sorted") [v] Q:=fun B A s xs rd X r=>by
 obtain ⟨x,_,rfl,hx,rfl⟩:=r
 have g:=looked X hx hv (fun b=>by simp)
 obtain ⟨d,es,ep,rfl,_,ho,hl,hnd,hsys⟩:=g
 have hlen:=GT_length hl
 have hks:=GT_keys hl
 have e1:keysV l=(l.map (·.1)).map T:=by simp [keysV,List.map_map]
 rw [e1] at hks
 obtain ⟨L,e2,e3,hIs⟩:=tuples_at hks
 refine sorted_it (R:=fun vs out=>out.toList.Perm vs) (dict_src (prog:=cx.prog) (w:=cx.w) (ep:=ep) hsys (by omega)) rd.1 ho (fun vs A' Er' s' a n' P gd kk hoa hP=>?_) fun vs out a m' h₃ dr tk₃ gd hr kk hna hoa=>?_
 ·subst gd
  refine list_sort_nodes hoa (fun v hv=>?_) (by simp;omega) hP
  rw [e2] at hv
  obtain ⟨p,hp,rfl⟩:=List.mem_map.mp hv
  obtain ⟨_,i',m',ho',hi'⟩:=hIs p hp
  have hp1:p.1∈l.map (·.1):=by rw [e3];exact List.mem_map.mpr ⟨p,hp,rfl⟩
  obtain ⟨p0,hp0,e0⟩:=List.mem_map.mp hp1
  exact ⟨p.2,i',m',p.1,rfl,kk _ _ ho',kind_any hi',e0▸hn p0 hp0⟩
 ·subst gd
  have X₃:St cx B σ { s with drawn:=dr }:=X.all (s':={ s with drawn:=dr }) (fun o_ o_ e=>e) rfl rfl
  rw [e2] at hr
  obtain ⟨M,hM,hMp⟩:=perm_lift hr rfl
  have hsub:∀ p∈M,IsT (cf cx B σ s.heap) p.1 p.2:=fun p hp=>hIs p (hMp.mem_iff.mp hp)
  have f3:RpL (cf cx B σ s.heap) (M.map fun p=>T p.1) out.toList:=by
   rw [hM]
   clear hM hMp hr hoa
   induction M with
   | nil=>exact rfl
   | cons p M ih=>
    exact ⟨_,_,rfl,IsT_rp.mp (hsub p (.head _)),ih fun p' hp'=>hsub p' (.tail _ hp')⟩
  refine out_list (l:=M.map fun p=>T p.1) (s:={ s with drawn:=dr }) (tk:=tk₃) X₃ kk hna hoa (fun σ'' S=>S.rpL f3) (.inl ?_)
  have:=q (M.map (·.1)) (by rw [e3];exact hMp.map _)
  rw [List.map_map] at this
  exact this
theorem Out.freeze {h:Heap} {v:V} {x:Value} {Q':V→Store→Prop} (o:Out cx B σ h Q' x s') (f:∀ u σ₁,Q' u σ₁→(∃ a c,u=.ref a∧σ₁ a=some c∧Q c (σ₁.del a))∨Q u σ₁):Out cx B σ h Q x s':=by
 obtain ⟨u,σ₁,X₁,S₁,r₁,q⟩:=o
 rcases f u σ₁ q with ⟨a,c,rfl,e,q⟩|q
 ·obtain ⟨X₂,S₂,r₂⟩:=X₁.freeze e
  have hx:x=.ref a:=r₁
  subst hx
  exact ⟨c,_,X₂,S₁.trans S₂,r₂,q⟩
 ·exact ⟨u,σ₁,X₁,S₁,r₁,q⟩
theorem Ev.freeze {e:Expr} {Q':V→Store→Prop} (h:Ev cx n sc Γ σ e Q') (f:∀ u σ₁,Q' u σ₁→(∃ a c,u=.ref a∧σ₁ a=some c∧Q c (σ₁.del a))∨Q u σ₁):Ev cx n sc Γ σ e Q:=
 fun B env A s rd X E=>wpAny_mono (h B env A s rd X E) (fun o_ o_ o=>o.freeze (v:=.none) f) fun o_ o_ x=>x
theorem Exs.freeze {ss:List Stmt} {R:Fl→(Str→Option V)→Store→Prop} {x:Str} {a:Addr} {c:V} (hx:Γ x=some (.ref a)) (hl:sc.names.lookup x=some .local) (e:σ a=some c)
  (h:Exs cx n sc (fun y=>if y=x then some c else Γ y) (σ.del a) ss R):Exs cx n sc Γ σ ss R:=fun B env A s rd X E=>by
 obtain ⟨X₂,S₂,r₂⟩:=X.freeze e
 have E₂:=E.step X.shut S₂
 have E₃:EnvOk cx sc (fun y=>if y=x then some c else Γ y) B (σ.del a) env s.heap:={ E₂ with
  ns:=by
   obtain ⟨m,h1,h2⟩:=E₂.ns
   refine ⟨m,h1,fun y v hy hyl=>?_⟩
   by_cases q:y=x
   ·subst q
    simp only [if_true,Option.some.injEq] at hy
    subst hy
    obtain ⟨z,hz,rz⟩:=h2 y (.ref a) hx hyl
    have:z=.ref a:=rz
    subst this
    exact ⟨_,hz,r₂⟩
   ·simp only [q,if_false] at hy
    exact h2 y v hy hyl
  cells:=fun y hy=>by
   obtain ⟨cc,cv,h1,h2,h3,h4,h5⟩:=E₂.cells y hy
   refine ⟨cc,cv,h1,h2,h3,h4,fun v hv=>?_⟩
   have q:y≠x:=by
    intro q;subst q
    rw [hl] at hy
    rcases hy with hy|hy <;> contradiction
   simp only [q,if_false] at hv
   exact h5 v hv }
 refine wpAny_mono (h B env A s rd X₂ E₃) (fun fl s' o=>?_) fun o_ o_ x=>x
 obtain ⟨φ,Γ',σ',a1,a2,a3,a4,a5⟩:=o
 exact ⟨φ,Γ',σ',a1,a2,(S₂.toX (fun a' ha'=>X.shut _ (E.own_B a' ha').1)).trans a3,a4,a5⟩
end
noncomputable def defBody:Stmt→List Stmt
 | .FunctionDef _ _ b ..=>b
 | .ClassDef _ _ _ b ..=>b
 | _=>[]
noncomputable def defScope:Stmt→Scope
 | .FunctionDef _ _ _ _ _ _ sc ..=>sc
 | _=>default
noncomputable def stAt:List Stmt→Nat→Stmt
 | s::_,0=>s
 | _::r,n+1=>stAt r n
 | [],_=>.Pass default
noncomputable def tops:List Stmt:=PySem.Challenge.pw_pq0060_01.main.body
noncomputable def defAt (i:Nat):Stmt:=stAt tops i
noncomputable def methAt (i j:Nat):Stmt:=stAt (defBody (defAt i)) j
section
variable {K:Type} [DecidableEq K]
noncomputable abbrev Reg (K:Type):=K→Option (Addr×V)
structure RegAt (σ:Store) (R:Reg K):Prop where
 get:∀ k a v,R k=some (a,v)→σ a=some v
 inj:∀ k k' a v v',R k=some (a,v)→R k'=some (a,v')→k=k'
noncomputable def Reg.put (R:Reg K) (k:K) (x:Option (Addr×V)):Reg K:=fun k'=>if k'=k then x else R k'
theorem Reg.put_self (R:Reg K) (k:K) (x:Option (Addr×V)):R.put k x k=x:=by simp [Reg.put]
theorem Reg.put_ne (R:Reg K) {k k':K} (x:Option (Addr×V)) (h:k'≠k):R.put k x k'=R k':=by simp [Reg.put,h]
noncomputable def Reg.has (R:Reg K) (a:Addr):Prop:=∃ k v,R k=some (a,v)
theorem RegAt.set {σ:Store} {R:Reg K} (H:RegAt σ R) {k:K} {a:Addr} {v v':V} (h:R k=some (a,v)):RegAt (σ.set a v') (R.put k (some (a,v'))) where
 get k' a' u e:=by
  by_cases q:k'=k
  ·subst q
   rw [Reg.put_self] at e
   cases e
   simp [Store.set]
  ·rw [Reg.put_ne _ _ q] at e
   have hne:a'≠a:=fun z=>by subst z;exact q (H.inj _ _ _ _ _ e h)
   simp only [Store.set,hne,if_false]
   exact H.get _ _ _ e
 inj k1 k2 a' u u' e e':=by
  have back:∀ k' u,R.put k (some (a,v')) k'=some (a',u)→∃ w,R k'=some (a',w):=fun k' u e=>by
   by_cases q:k'=k
   ·subst q;rw [Reg.put_self] at e;cases e;exact ⟨v,h⟩
   ·rw [Reg.put_ne _ _ q] at e;exact ⟨u,e⟩
  obtain ⟨w,e1⟩:=back _ _ e
  obtain ⟨w',e2⟩:=back _ _ e'
  exact H.inj _ _ _ _ _ e1 e2
theorem RegAt.new {σ:Store} {R:Reg K} (H:RegAt σ R) {k:K} {a:Addr} {v:V} (ha:σ a=none):RegAt (σ.set a v) (R.put k (some (a,v))) where
 get k' a' u e:=by
  by_cases q:k'=k
  ·subst q
   rw [Reg.put_self] at e
   cases e
   simp [Store.set]
  ·rw [Reg.put_ne _ _ q] at e
   have hne:a'≠a:=fun z=>by subst z;have:=H.get _ _ _ e;rw [ha] at this;contradiction
   simp only [Store.set,hne,if_false]
   exact H.get _ _ _ e
 inj k1 k2 a' u u' e e':=by
  by_cases q1:k1=k
  ·by_cases q2:k2=k
   ·rw [q1,q2]
   ·subst q1
    rw [Reg.put_self] at e
    cases e
    rw [Reg.put_ne _ _ q2] at e'
    have:=H.get _ _ _ e';rw [ha] at this;contradiction
  ·rw [Reg.put_ne _ _ q1] at e
   by_cases q2:k2=k
   ·subst q2
    rw [Reg.put_self] at e'
    cases e'
    have:=H.get _ _ _ e;rw [ha] at this;contradiction
   ·rw [Reg.put_ne _ _ q2] at e'
    exact H.inj _ _ _ _ _ e e'
theorem RegAt.drop {σ:Store} {R:Reg K} (H:RegAt σ R) (k:K):RegAt σ (R.put k none) where
 get k' a' u e:=by
  by_cases q:k'=k
  ·subst q;rw [Reg.put_self] at e;contradiction
  ·rw [Reg.put_ne _ _ q] at e;exact H.get _ _ _ e
 inj k1 k2 a' u u' e e':=by
  by_cases q1:k1=k
  ·subst q1;rw [Reg.put_self] at e;contradiction
  ·by_cases q2:k2=k
   ·subst q2;rw [Reg.put_self] at e';contradiction
   ·rw [Reg.put_ne _ _ q1] at e;rw [Reg.put_ne _ _ q2] at e';exact H.inj _ _ _ _ _ e e'
theorem RegAt.keep {σ σ':Store} {R:Reg K} (H:RegAt σ R) (k:∀ a,R.has a→σ' a=σ a):RegAt σ' R:=
 ⟨fun k' a v e=>by rw [k a ⟨k',v,e⟩];exact H.get _ _ _ e,H.inj⟩
theorem RegAt.ext {σ:Store} {R R':Reg K} (H:RegAt σ R) (e:∀ k,R' k=R k):RegAt σ R':=by
 have:R'=R:=funext e
 rw [this];exact H
noncomputable def Within (P:Addr→Prop) (σ σ':Store):Prop:=∀ a,¬ P a→σ a≠none→σ' a=σ a
theorem Within.refl (P:Addr→Prop) (σ:Store):Within P σ σ:=fun o_ o_ o_=>rfl
theorem Within.trans {P P':Addr→Prop} {σ σ₁ σ₂:Store} (h:Within P σ σ₁) (h':Within P' σ₁ σ₂) (hp:∀ a,P' a→P a∨σ a=none):Within P σ σ₂:=fun a ha hs=>by
 have e1:=h a ha hs
 have e2:=h' a (fun q=>(hp a q).elim ha hs) (by rw [e1];exact hs)
 rw [e2,e1]
theorem Within.set {P:Addr→Prop} {σ:Store} {a:Addr} {v:V} (ha:P a∨σ a=none):Within P σ (σ.set a v):=fun b hb hs=>by
 have:b≠a:=fun q=>by subst q;exact ha.elim hb hs
 simp [Store.set,this]
end
noncomputable def Fun (cx:Cx) (f:Addr) (d:Stmt) (names:List Str):Prop:=∃ (name qual:Str) (params:Arguments) (dV kV doc pm cdv ct oc:Value) (an od:Option Addr) (osl:Array (Option Value)),
 cx.K.lookup f=some ⟨oc,od,.func (fnOf name qual params (defBody d) (defScope d) dV kV doc pm an cdv ct),osl⟩∧codeIn cx.K cdv qual=true ∧
 ∀ xs:List Value,xs.length=names.length→bindArgs (fnOf name qual params (defBody d) (defScope d) dV kV doc pm an cdv ct) ⟨xs,[]⟩=pure (names.zip xs)
structure MethIs (cx:Cx) (C:Addr) (name:Str) (f:Addr):Prop where
 cls:ClsOk cx.K C
 find:findIn cx.K (.ref C) name=some (some (.ref f))
 fn:isFn cx.K (.ref f)=true
 keep:keepIn cx.K (.ref f)=true
section
variable {cx:Cx} {n:Nat} {sc:Scope} {Γ:Str→Option V} {σ σ':Store} {Q:V→Store→Prop}
theorem Fun.cc {f:Addr} {d:Stmt} {names:List Str} {args:List V} (F:Fun cx f d names) (ha:args.length=names.length)
  (h:Exs cx n (defScope d) (argsOf names args) σ (defBody d) fun φ o_ σ'=>Q φ.val σ')
  (hkind:(names.all fun y=>(defScope d).names.lookup y==some .local || (defScope d).names.lookup y==some .cell)=true:=by decide +kernel) (hnd:names.Nodup:=by decide +kernel) (hfree:((defScope d).names.all fun y=>y.2 != .free)=true:=by decide +kernel)
  (hco:(defScope d).isCoroutine=false:=by rfl) (hgen:(defScope d).isGenerator=false:=by rfl) (hk:(defScope d).kind=.function:=by rfl):Cc cx (n+1) σ (.ref f) args Q:=by
 obtain ⟨name,qual,params,dV,kV,doc,pm,cdv,ct,oc,an,od,osl,ho,hcd,hb⟩:=F
 exact Cc_def ho hcd (fun xs hx=>hb xs (hx.trans ha)) hkind hnd hfree hco hgen hk h
theorem MethIs.mt {C f:Addr} {name:Str} {d:V} {fs:List (Str×V)} (m:MethIs cx C name f) (hd:lk σ d=some (.fld fs)) (hn:fget fs name=none):Mt cx σ (.inst C d) name (.ref f):=Mt_inst hd m.cls m.find m.fn hn
end
structure AttrIs (cx:Cx) (C:Addr) (name:Str):Prop where
 cls:ClsOk cx.K C
 find:findIn cx.K (.ref C) name=some none
 take:takerIn cx.K C name=some none
section
variable {cx:Cx} {n:Nat} {sc:Scope} {Γ:Str→Option V} {σ σ':Store} {Q:V→Store→Prop}
theorem Ev_loc {x:Str} {pos:Pos} {v:V} (hv:Γ x=some v) (h:Q v σ) (hk:sc.names.lookup x=some .local∨sc.names.lookup x=some .cell∨sc.names.lookup x=some .free:=by first | exact .inl (by rfl) | exact .inr (.inl (by rfl)) | exact .inr (.inr (by rfl)))
  (hd:(x==("__debug__" : Str))=false:=by decide) (hc:(x==("__classdict__" : Str))=false:=by decide):Ev cx n sc Γ σ (.Name x pos) Q:=Ev_name hk hv h hd hc
end
structure Nd where
 op:Str
 kids:List Nat
 deriving DecidableEq
noncomputable def Nd.at (d:Nd):List At:=.s d.op::d.kids.map fun (k:Nat)=>.i (k:Int)
theorem ints_inj:∀ {l l':List Nat},(l.map fun (k:Nat)=>At.i (k:Int))=(l'.map fun (k:Nat)=>At.i (k:Int))→l=l'
 | [],[],_=>rfl
 | a::l,b::l',h=>by
  simp only [List.map_cons,List.cons.injEq,At.i.injEq] at h
  rw [ints_inj h.2,Int.ofNat_inj.mp h.1]
 | [],_::_,h=>by contradiction
 | _::_,[],h=>by contradiction
theorem Nd.at_inj {d d':Nd} (h:d.at=d'.at):d=d':=by
 cases d;cases d'
 simp only [Nd.at,List.cons.injEq,At.s.injEq] at h
 rw [h.1,ints_inj h.2]
theorem Nd.nodeK (d:Nd):nodeK d.at:=fun a ha=>by
 obtain ⟨k,_,rfl⟩:=List.mem_map.mp ha
 exact ⟨_,rfl⟩
section
variable {K β:Type} [DecidableEq K]
noncomputable def ag:List (K×β)→K→Option β
 | [],_=>none
 | (k',v)::r,k=>if k'=k then some v else ag r k
noncomputable def ap:List (K×β)→K→β→List (K×β)
 | [],k,v=>[(k,v)]
 | (k',u)::r,k,v=>if k'=k then (k',v)::r else (k',u)::ap r k v
noncomputable def ad:List (K×β)→K→List (K×β)
 | [],_=>[]
 | (k',v)::r,k=>if k'=k then r else (k',v)::ad r k
theorem ag_nil (k:K):ag ([]:List (K×β)) k=none:=rfl
theorem ag_cons (k' k:K) (v:β) (r:List (K×β)):ag ((k',v)::r) k=if k'=k then some v else ag r k:=rfl
theorem ap_nil (k:K) (v:β):ap [] k v=[(k,v)]:=rfl
theorem ap_cons (k' k:K) (u v:β) (r:List (K×β)):ap ((k',u)::r) k v=if k'=k then (k',v)::r else (k',u)::ap r k v:=rfl
theorem ad_nil (k:K):ad ([]:List (K×β)) k=[]:=rfl
theorem ad_cons (k' k:K) (v:β) (r:List (K×β)):ad ((k',v)::r) k=if k'=k then r else (k',v)::ad r k:=rfl
theorem ag_mem {k:K} {v:β}:∀ {l:List (K×β)},ag l k=some v→(k,v)∈l
 | (k',u)::r,h=>by
  simp only [ag_nil,ag_cons] at h
  split at h
  ·rename_i e;subst e;(injection h with h;subst h);exact .head _
  ·exact .tail _ (ag_mem h)
theorem ag_none {k:K}:∀ {l:List (K×β)},ag l k=none↔k∉l.map (·.1)
 | []=>by simp [ag_nil,ag_cons]
 | (k',u)::r=>by
  simp only [ag_nil,ag_cons,List.map_cons,List.mem_cons]
  by_cases e:k'=k
  ·simp [e]
  ·simp only [if_neg e,ag_none (l:=r)]
   simp [Ne.symm e]
theorem ag_of_mem {k:K} {v:β}:∀ {l:List (K×β)},(l.map (·.1)).Nodup→(k,v)∈l→ag l k=some v
 | (k',u)::r,hn,h=>by
  simp only [List.map_cons,List.nodup_cons] at hn
  rcases List.mem_cons.mp h with e|h
  ·cases e;simp [ag_nil,ag_cons]
  ·have:k'≠k:=fun e=>hn.1 (by subst e;exact List.mem_map.mpr ⟨_,h,rfl⟩)
   simp only [ag_nil,ag_cons,if_neg this]
   exact ag_of_mem hn.2 h
theorem ag_ap (k k':K) (v:β):∀ (l:List (K×β)),ag (ap l k v) k'=if k'=k then some v else ag l k'
 | []=>by
  by_cases e:k'=k
  ·subst e;simp [ap_nil,ap_cons,ag_nil,ag_cons]
  ·simp [ap_nil,ap_cons,ag_nil,ag_cons,e,Ne.symm e]
 | (a,u)::r=>by
  by_cases q:a=k
  ·subst q
   by_cases e:k'=a
   ·subst e;simp [ap_nil,ap_cons,ag_nil,ag_cons]
   ·simp [ap_nil,ap_cons,ag_nil,ag_cons,e,Ne.symm e]
  ·by_cases e:k'=k
   ·subst e;simp [ap_nil,ap_cons,ag_nil,ag_cons,q,ag_ap k' k' v r]
   ·simp only [ap_nil,ap_cons,if_neg q,ag_nil,ag_cons,ag_ap k k' v r,if_neg e]
theorem ap_none {k:K} {v:β}:∀ {l:List (K×β)},ag l k=none→ap l k v=l++[(k,v)]
 | [],_=>rfl
 | (a,u)::r,h=>by
  by_cases q:a=k
  ·simp [ag_nil,ag_cons,q] at h
  ·simp only [ag_nil,ag_cons,if_neg q] at h
   simp only [ap_nil,ap_cons,if_neg q,ap_none h,List.cons_append]
theorem ap_keys {k:K} {v u:β}:∀ {l:List (K×β)},ag l k=some u→(ap l k v).map (·.1)=l.map (·.1)
 | (a,w)::r,h=>by
  by_cases q:a=k
  ·simp [ap_nil,ap_cons,q]
  ·simp only [ag_nil,ag_cons,if_neg q] at h
   simp only [ap_nil,ap_cons,if_neg q,List.map_cons,ap_keys h]
theorem ap_nodup {k:K} {v:β} {l:List (K×β)} (h:(l.map (·.1)).Nodup):((ap l k v).map (·.1)).Nodup:=by
 rcases e:ag l k with _|u
 ·
  rw [ap_none e,List.map_append]
  refine List.nodup_append.mpr ⟨h,by simp,?_⟩
  intro a ha b hb
  simp only [List.map_cons,List.map_nil,List.mem_singleton] at hb
  subst hb
  intro q;subst q
  exact ag_none.mp e ha
 ·rw [ap_keys e];exact h
theorem ad_sub {k:K}:∀ {l:List (K×β)} {p:K×β},p∈ad l k→p∈l
 | (a,u)::r,p,h=>by
  by_cases q:a=k
  ·simp only [ad_nil,ad_cons,if_pos q] at h;exact .tail _ h
  ·simp only [ad_nil,ad_cons,if_neg q] at h
   rcases List.mem_cons.mp h with e|h
   ·exact e▸.head _
   ·exact .tail _ (ad_sub h)
theorem ad_nodup {k:K}:∀ {l:List (K×β)},(l.map (·.1)).Nodup→((ad l k).map (·.1)).Nodup
 | [],h=>h
 | (a,u)::r,h=>by
  have h':=h
  simp only [List.map_cons,List.nodup_cons] at h
  by_cases q:a=k
  ·simp only [ad_nil,ad_cons,if_pos q];exact h.2
  ·simp only [ad_nil,ad_cons,if_neg q,List.map_cons,List.nodup_cons]
   exact ⟨fun m=>h.1 (by obtain ⟨p,hp,e⟩:=List.mem_map.mp m;exact List.mem_map.mpr ⟨p,ad_sub hp,e⟩),ad_nodup h.2⟩
theorem ag_ad (k k':K):∀ {l:List (K×β)},(l.map (·.1)).Nodup→ag (ad l k) k'=if k'=k then none else ag l k'
 | [],_=>by simp [ad_nil,ad_cons,ag_nil,ag_cons]
 | (a,u)::r,h=>by
  simp only [List.map_cons,List.nodup_cons] at h
  by_cases q:a=k
  ·subst q
   simp only [ad_nil,ad_cons,if_true]
   by_cases e:k'=a
   ·subst e;rw [if_pos rfl];exact ag_none.mpr h.1
   ·simp [ag_nil,ag_cons,e,Ne.symm e]
  ·simp only [ad_nil,ad_cons,if_neg q,ag_nil,ag_cons,ag_ad k k' h.2]
   by_cases e:k'=k
   ·subst e;simp [q]
   ·simp [e]
variable {J:Type} [DecidableEq J]
theorem dget_enc (e:K→J) (he:∀ a b,e a=e b→a=b) (g:β→V) (k:K):∀ l:List (K×β),dget (l.map fun p=>(e p.1,g p.2)) (e k)=(ag l k).map g
 | []=>rfl
 | (a,u)::r=>by
  have:=dget_enc e he g k r
  unfold dget at this ⊢
  by_cases q:a=k
  ·subst q;simp [ag_nil,ag_cons]
  ·have:e a≠e k:=fun z=>q (he _ _ z)
   simp only [List.map_cons,List.find?_cons,this,decide_false,ag_nil,ag_cons,if_neg q]
   assumption
theorem dput_enc (e:K→J) (he:∀ a b,e a=e b→a=b) (g:β→V) (k:K) (v:β) {l:List (K×β)} (hn:(l.map (·.1)).Nodup):dput (l.map fun p=>(e p.1,g p.2)) (e k) (g v)=(ap l k v).map fun p=>(e p.1,g p.2):=by
 delta dput
 rw [dget_enc e he]
 rcases h:ag l k with _|u
 ·simp [ap_none h]
 ·
  simp only [Option.map_some,Option.isSome_some,if_true]
  induction l with
  | nil=>contradiction
  | cons p r ih=>
   obtain ⟨a,w⟩:=p
   simp only [List.map_cons,List.nodup_cons] at hn
   by_cases q:a=k
   ·subst q
    simp only [ap_nil,ap_cons,if_true,List.map_cons,List.map_map,List.cons.injEq,true_and]
    refine List.map_congr_left fun p hp=>?_
    have:e p.1≠e a:=fun z=>hn.1 (by rw [← he _ _ z];exact List.mem_map.mpr ⟨p,hp,rfl⟩)
    simp [this]
   ·have z:e a≠e k:=fun z=>q (he _ _ z)
    simp only [ag_nil,ag_cons,if_neg q] at h
    simp only [ap_nil,ap_cons,if_neg q,List.map_cons,z,if_false]
    rw [ih hn.2 h]
end
inductive Slot where
 | h | b | u
 | bn | bm | bw | bd
 | ua | ul | um
 | he | hf | hk | ha | hw
 | lot (i:Nat) | ab (k:Nat)
 deriving DecidableEq
set_option genInjectivity false in
structure HS where
 nodes:List Nd
 nums:List (Nd×Nat)
 ws:List V
 ds:List V
 par:List Nat
 lots:List (List Nat)
 ms:List V
 es:List V
 fs:List V
 known:List (Nd×Nat)
 ab:List (Nat×List Nat)
 wait:List Nat
structure Cs where
 bank:Addr
 unions:Addr
 heap:Addr
 meet:Addr
noncomputable def nats (l:List Nat):V:=.lst (l.map fun (k:Nat)=>V.int k)
noncomputable def numsOf (nodes:List Nd):List (Nd×Nat):=nodes.zipIdx
noncomputable def encN (l:List (Nd×Nat)):List (List At×V):=l.map fun p=>(Nd.at p.1,V.int ((p.2:Nat):Int))
noncomputable def contH (c:Cs) (loc:Slot→Addr) (H:HS):Slot→Option V
 | .h=>some (.fld [("bank",.inst c.bank (.ref (loc .b))),("unions",.inst c.unions (.ref (loc .u))),("edges",.ref (loc .he)),("forest",.ref (loc .hf)),("known",.ref (loc .hk)),("above",.ref (loc .ha)),("waiting",.ref (loc .hw))])
 | .b=>some (.fld [("nodes",.ref (loc .bn)),("numbers",.ref (loc .bm)),("weights",.ref (loc .bw)),("depths",.ref (loc .bd))])
 | .u=>some (.fld [("above",.ref (loc .ua)),("lots",.ref (loc .ul)),("merged",.ref (loc .um))])
 | .bn=>some (.lst (H.nodes.map fun d=>T d.at))
 | .bm=>some (.dT (encN H.nums))
 | .bw=>some (.lst H.ws)
 | .bd=>some (.lst H.ds)
 | .ua=>some (nats H.par)
 | .ul=>some (.lst ((List.range H.lots.length).map fun i=>.ref (loc (.lot i))))
 | .um=>some (.lst H.ms)
 | .he=>some (.lst H.es)
 | .hf=>some (.lst H.fs)
 | .hk=>some (.dT (encN H.known))
 | .ha=>some (.dI (H.ab.map fun p=>((p.1:Int),.ref (loc (.ab p.1)))))
 | .hw=>some (nats H.wait)
 | .lot i=>H.lots[i]?.map nats
 | .ab k=>(ag H.ab k).map nats
noncomputable def regH (c:Cs) (loc:Slot→Addr) (H:HS):Reg Slot:=fun k=>(contH c loc H k).map (loc k,·)
noncomputable def HeapAt (c:Cs) (σ:Store) (loc:Slot→Addr) (H:HS):Prop:=RegAt σ (regH c loc H)
noncomputable def At_ (c:Cs) (loc:Slot→Addr) (H:HS) (a:Addr):Prop:=(regH c loc H).has a
theorem HeapAt.get {c:Cs} {σ:Store} {loc:Slot→Addr} {H:HS} (h:HeapAt c σ loc H) {k:Slot} {v:V} (e:contH c loc H k=some v):σ (loc k)=some v:=RegAt.get h k _ v (by delta regH;rw [e];rfl)
theorem HeapAt.set {c:Cs} {σ:Store} {loc:Slot→Addr} {H H':HS} (h:HeapAt c σ loc H) {k:Slot} {v v':V} (e:contH c loc H k=some v) (e':∀ k',contH c loc H' k'=if k'=k then some v' else contH c loc H k'):HeapAt c (σ.set (loc k) v') loc H':=by
 refine (RegAt.set h (k:=k) (a:=loc k) (v:=v) (v':=v') (by delta regH;rw [e];rfl)).ext fun k'=>?_
 delta regH Reg.put
 rw [e' k']
 by_cases q:k'=k
 ·subst q;simp
 ·simp [q]
theorem HeapAt.self {c:Cs} {loc:Slot→Addr} {H:HS} {k:Slot} {v:V} (e:contH c loc H k=some v):At_ c loc H (loc k):=⟨k,v,by delta regH;rw [e];rfl⟩
noncomputable def locPut (loc:Slot→Addr) (k:Slot) (a:Addr):Slot→Addr:=fun k'=>if k'=k then a else loc k'
theorem HeapAt.grow {c:Cs} {σ:Store} {loc:Slot→Addr} {H H':HS} {k k2:Slot} {x:Addr} {v v2 v2':V} (h:HeapAt c σ loc H) (hx:σ x=none) (e2:contH c loc H k2=some v2) (hne:k2≠k)
  (e':∀ k',contH c (locPut loc k x) H' k'=if k'=k then some v else if k'=k2 then some v2' else contH c loc H k'):HeapAt c ((σ.set x v).set (loc k2) v2') (locPut loc k x) H':=by
 have h1:RegAt (σ.set x v) ((regH c loc H).put k (some (x,v))):=RegAt.new h hx
 have h2:=h1.set (k:=k2) (a:=loc k2) (v:=v2) (v':=v2') (by rw [Reg.put_ne _ _ hne];delta regH;rw [e2];rfl)
 refine h2.ext fun k'=>?_
 delta regH Reg.put
 rw [e' k']
 by_cases q1:k'=k
 ·subst q1
  simp [locPut,Ne.symm hne]
 ·by_cases q2:k'=k2
  ·subst q2;simp [locPut,q1]
  ·simp [locPut,q1,q2]
structure Mv (c:Cs) (σ:Store) (loc:Slot→Addr) (H:HS) (σ':Store) (loc':Slot→Addr) (H':HS):Prop where
 at_:HeapAt c σ' loc' H'
 win:Within (At_ c loc H) σ σ'
 new:∀ a,At_ c loc' H' a→At_ c loc H a∨σ a=none
 hd:loc' .h=loc .h
 bk:loc' .b=loc .b
 un:loc' .u=loc .u
section
variable {c:Cs} {σ σ₁ σ₂:Store} {loc loc₁ loc₂:Slot→Addr} {H H₁ H₂:HS}
theorem Mv.refl (h:HeapAt c σ loc H):Mv c σ loc H σ loc H:=⟨h,Within.refl _ _,fun o_ q=>.inl q,rfl,rfl,rfl⟩
theorem Mv.trans (m:Mv c σ loc H σ₁ loc₁ H₁) (m':Mv c σ₁ loc₁ H₁ σ₂ loc₂ H₂) (hs:∀ a,σ a≠none→At_ c loc H a→True:=by intros;trivial):Mv c σ loc H σ₂ loc₂ H₂ where
 at_:=m'.at_
 win a ha hs:=by
  have e1:=m.win a ha hs
  have:¬ At_ c loc₁ H₁ a:=fun q=>(m.new a q).elim ha hs
  rw [m'.win a this (by rw [e1];exact hs),e1]
 new a q:=by
  rcases m'.new a q with q|q
  ·exact m.new a q
  ·by_cases z:At_ c loc H a
   ·exact .inl z
   ·refine .inr (Classical.byContradiction fun hs=>?_)
    rw [m.win a z hs] at q;exact hs q
 hd:=m'.hd.trans m.hd
 bk:=m'.bk.trans m.bk
 un:=m'.un.trans m.un
theorem At_.some (h:HeapAt c σ loc H) {a:Addr} (q:At_ c loc H a):σ a≠none:=by
 obtain ⟨k,v,e⟩:=q
 rw [RegAt.get h _ _ _ e];exact fun x=>by contradiction
theorem Mv.set (h:HeapAt c σ loc H) {k:Slot} {v v':V} (e:contH c loc H k=some v) (e':∀ k',contH c loc H₁ k'=if k'=k then some v' else contH c loc H k'):Mv c σ loc H (σ.set (loc k) v') loc H₁ where
 at_:=h.set e e'
 win:=Within.set (.inl (HeapAt.self e))
 new a q:=by
  obtain ⟨k',w,z⟩:=q
  delta regH at z
  rw [e' k'] at z
  by_cases y:k'=k
  ·subst y
   simp only [if_true,Option.map_some,Option.some.injEq,Prod.mk.injEq] at z
   rw [← z.1];exact .inl (HeapAt.self e)
  ·simp only [if_neg y] at z
   exact .inl ⟨k',w,z⟩
 hd:=rfl
 bk:=rfl
 un:=rfl
set_option tactic.hygienic true in
theorem Mv.grow {k k2:Slot} {x:Addr} {v v2 v2':V} (h:HeapAt c σ loc H) (hx:σ x=none) (e2:contH c loc H k2=some v2) (hne:k2≠k)
  (e':∀ k',contH c (locPut loc k x) H₁ k'=if k'=k then some v else if k'=k2 then some v2' else contH c loc H k') (k1:k≠.h∧k≠.b∧k≠.u):Mv c σ loc H ((σ.set x v).set (loc k2) v2') (locPut loc k x) H₁ where
 at_:=h.grow hx e2 hne e'
 win:=(Within.set (.inr hx)).trans (Within.set (.inl (HeapAt.self e2))) fun a q=>.inl q
 new a q:=by
  obtain ⟨k',w,z⟩:=q
  delta regH at z
  rw [e' k'] at z
  by_cases y:k'=k
  ·subst y
   simp only [if_true,Option.map_some,Option.some.injEq,Prod.mk.injEq,locPut] at z
   rw [← z.1];exact .inr hx
  ·have lk:locPut loc k x k'=loc k':=by simp [locPut,y]
   rw [lk] at z
   by_cases y2:k'=k2
   ·subst y2
    simp only [if_neg y,if_true,Option.map_some,Option.some.injEq,Prod.mk.injEq] at z
    rw [← z.1];exact .inl (HeapAt.self e2)
   ·simp only [if_neg y,if_neg y2] at z
    exact .inl ⟨k',w,z⟩
 hd:=by simp [locPut,Ne.symm k1.1]
 bk:=by simp [locPut,Ne.symm k1.2.1]
 un:=by simp [locPut,Ne.symm k1.2.2]
end
noncomputable section
noncomputable def pxFuns:List (Nat×Stmt):=[(86,methAt 7 0),(93,methAt 7 1),(98,methAt 7 2),(105,methAt 7 3),(131,methAt 7 7),(138,methAt 7 8),(192,methAt 9 0),(199,methAt 9 1),(206,methAt 9 2),(213,methAt 9 3),(220,methAt 9 4),(227,methAt 9 5),(232,methAt 9 6),(274,methAt 11 0),(281,methAt 11 1),(286,methAt 11 2),(291,methAt 11 3),(303,methAt 11 5),(310,methAt 11 6),(324,methAt 11 8),(331,methAt 11 9),(338,methAt 11 10),(352,methAt 11 12),(359,methAt 11 13),(364,methAt 11 14),(376,methAt 11 16),(404,methAt 13 0),(411,methAt 13 1),(418,methAt 13 2),(423,methAt 13 3),(430,methAt 13 4),(67,defAt 5),(444,defAt 15),(449,defAt 16),(454,defAt 17),(459,defAt 18),(464,defAt 19),(469,defAt 20),(474,defAt 21),(479,defAt 22)]
noncomputable def pxFinds:List (Nat×Str×Option Value):=[(174,Str.ofString "__getattribute__",some (Value.builtin "object.__getattribute__")),(174,Str.ofString "__getattr__",none),(174,Str.ofString "__setattr__",some (Value.builtin "object.__setattr__")),(256,Str.ofString "__getattribute__",some (Value.builtin "object.__getattribute__")),(256,Str.ofString "__getattr__",none),(256,Str.ofString "__setattr__",some (Value.builtin "object.__setattr__")),(386,Str.ofString "__getattribute__",some (Value.builtin "object.__getattribute__")),(386,Str.ofString "__getattr__",none),(386,Str.ofString "__setattr__",some (Value.builtin "object.__setattr__")),(433,Str.ofString "__getattribute__",some (Value.builtin "object.__getattribute__")),(433,Str.ofString "__getattr__",none),(433,Str.ofString "__setattr__",some (Value.builtin "object.__setattr__")),(174,Str.ofString "__init__",some (Value.ref 86)),(174,Str.ofString "size",some (Value.ref 93)),(174,Str.ofString "take",some (Value.ref 98)),(174,Str.ofString "require",some (Value.ref 105)),(174,Str.ofString "op",some (Value.ref 131)),(174,Str.ofString "kids",some (Value.ref 138)),(174,Str.ofString "nodes",none),(174,Str.ofString "numbers",none),(174,Str.ofString "weights",none),(174,Str.ofString "depths",none),(256,Str.ofString "__init__",some (Value.ref 192)),(256,Str.ofString "make",some (Value.ref 199)),(256,Str.ofString "size",some (Value.ref 206)),(256,Str.ofString "find",some (Value.ref 213)),(256,Str.ofString "merge",some (Value.ref 220)),(256,Str.ofString "members",some (Value.ref 227)),(256,Str.ofString "classes",some (Value.ref 232)),(256,Str.ofString "above",none),(256,Str.ofString "lots",none),(256,Str.ofString "merged",none),(386,Str.ofString "__init__",some (Value.ref 274)),(386,Str.ofString "size",some (Value.ref 281)),(386,Str.ofString "node",some (Value.ref 286)),(386,Str.ofString "add",some (Value.ref 291)),(386,Str.ofString "look_at",some (Value.ref 303)),(386,Str.ofString "find",some (Value.ref 310)),(386,Str.ofString "merge",some (Value.ref 324)),(386,Str.ofString "join",some (Value.ref 331)),(386,Str.ofString "settle",some (Value.ref 338)),(386,Str.ofString "classes",some (Value.ref 352)),(386,Str.ofString "members",some (Value.ref 359)),(386,Str.ofString "nodes_of",some (Value.ref 364)),(386,Str.ofString "seek",some (Value.ref 376)),(386,Str.ofString "bank",none),(386,Str.ofString "unions",none),(386,Str.ofString "edges",none),(386,Str.ofString "forest",none),(386,Str.ofString "known",none),(386,Str.ofString "above",none),(386,Str.ofString "waiting",none),(433,Str.ofString "__init__",some (Value.ref 404)),(433,Str.ofString "nodes_by_op",some (Value.ref 411)),(433,Str.ofString "go_up",some (Value.ref 418)),(433,Str.ofString "put",some (Value.ref 423)),(433,Str.ofString "class_of",some (Value.ref 430)),(433,Str.ofString "one",none),(433,Str.ofString "other",none),(433,Str.ofString "heap",none),(433,Str.ofString "numbers",none)]
noncomputable def pxAttrs:List (Nat×Str):=[(174,Str.ofString "nodes"),(174,Str.ofString "numbers"),(174,Str.ofString "weights"),(174,Str.ofString "depths"),(256,Str.ofString "above"),(256,Str.ofString "lots"),(256,Str.ofString "merged"),(386,Str.ofString "bank"),(386,Str.ofString "unions"),(386,Str.ofString "edges"),(386,Str.ofString "forest"),(386,Str.ofString "known"),(386,Str.ofString "above"),(386,Str.ofString "waiting"),(433,Str.ofString "one"),(433,Str.ofString "other"),(433,Str.ofString "heap"),(433,Str.ofString "numbers")]
noncomputable def pxGlobs:List (Str×Option Value):=[(Str.ofString "is_op",some (Value.ref 67)),(Str.ofString "_law_draw",some (Value.ref 444)),(Str.ofString "_law_side",some (Value.ref 449)),(Str.ofString "_law_closed",some (Value.ref 454)),(Str.ofString "_law_terms",some (Value.ref 459)),(Str.ofString "_law_class",some (Value.ref 464)),(Str.ofString "_law_place",some (Value.ref 469)),(Str.ofString "_law_shared",some (Value.ref 474)),(Str.ofString "Bank",some (Value.ref 174)),(Str.ofString "Unions",some (Value.ref 256)),(Str.ofString "Heap",some (Value.ref 386)),(Str.ofString "Meet",some (Value.ref 433)),(Str.ofString "len",none),(Str.ofString "sorted",none),(Str.ofString "sum",none),(Str.ofString "max",none),(Str.ofString "abs",none),(Str.ofString "set",none),(Str.ofString "list",none),(Str.ofString "tuple",none),(Str.ofString "str",none),(Str.ofString "int",none),(Str.ofString "range",none),(Str.ofString "zip",none),(Str.ofString "enumerate",none),(Str.ofString "law",some (Value.ref 479))]
noncomputable def pxAs:List Nat:=[3,173,174,255,256,385,386,432,433,85,86,92,93,97,98,104,105,130,131,137,138,191,192,198,199,205,206,212,213,219,220,226,227,231,232,273,274,280,281,285,286,290,291,302,303,309,310,323,324,330,331,337,338,351,352,358,359,363,364,375,376,403,404,410,411,417,418,422,423,429,430,66,67,443,444,448,449,453,454,458,459,463,464,468,469,473,474,478,479]
noncomputable def pxCls:List Nat:=[174,256,386,433]
noncomputable abbrev FV:=FuncBody×Scope×Arguments×Addr×List (Str×Addr)×Addr×Value×Value×Bool
noncomputable def defParams:Stmt→Arguments
 | .FunctionDef _ p ..=>p
 | _=>default
noncomputable def fdV (K:Frag) (fd:FuncData):FV:=(fd.body,fd.scope,fd.params,fd.globals,fd.closure,fd.builtins,fd.defaults,fd.kwdefaults,codeIn K fd.code fd.qualname)
noncomputable def fdView (K:Frag) (f:Addr):Option FV:=match K.lookup f with
 | some ⟨_,_,.func fd,_⟩=>some (fdV K fd)
 | _=>none
noncomputable def fvOf (d:Stmt):FV:=(.stmts (defBody d),defScope d,defParams d,mainGlobals,[],builtinsNs,.none,.none,true)
noncomputable def PxObs:Type:=List (Option FV)×List (Option (Option Value))×List (Option (Option Value))×List (Option (Option Value))×Bool×Bool
noncomputable def pxObs (K:Frag):PxObs:=(pxFuns.map fun p=>fdView K p.1,pxFinds.map fun p=>findIn K (.ref p.1) p.2.1,pxAttrs.map fun p=>takerIn K p.1 p.2,pxGlobs.map fun p=>nsIn K mainGlobals p.1,
 pxFuns.all fun p=>isFn K (.ref p.1) && keepIn K (.ref p.1),pxCls.all fun c=>hasDictIn K c && plainOver K c && makesIn K c && keepIn K (.ref c))
noncomputable def pxVal:PxObs:=(pxFuns.map fun p=>some (fvOf p.2),pxFinds.map fun p=>some p.2.2,pxAttrs.map fun _=>some none,pxGlobs.map fun p=>some p.2,true,true)
structure PxOb (K:Frag):Prop where
 funs:(pxFuns.map fun p=>fdView K p.1)=pxFuns.map fun p=>some (fvOf p.2)
 finds:(pxFinds.map fun p=>findIn K (.ref p.1) p.2.1)=pxFinds.map fun p=>some p.2.2
 attrs:(pxAttrs.map fun p=>takerIn K p.1 p.2)=pxAttrs.map fun _=>some none
 globs:(pxGlobs.map fun p=>nsIn K mainGlobals p.1)=pxGlobs.map fun p=>some p.2
 fks:(pxFuns.all fun p=>isFn K (.ref p.1) && keepIn K (.ref p.1))=true
 clss:(pxCls.all fun c=>hasDictIn K c && plainOver K c && makesIn K c && keepIn K (.ref c))=true
theorem PxOb.of {K:Frag} (h:pxObs K=pxVal):PxOb K:=by
 obtain ⟨a,h⟩:=Prod.mk.inj h
 obtain ⟨b,h⟩:=Prod.mk.inj h
 obtain ⟨c,h⟩:=Prod.mk.inj h
 obtain ⟨d,h⟩:=Prod.mk.inj h
 obtain ⟨e,f⟩:=Prod.mk.inj h
 exact ⟨a,b,c,d,e,f⟩
theorem at_of {α β:Type} {f g:α→β} {l:List α} (e:l.map f=l.map g) (i:Nat) {x:α} (h:l[i]? = some x):f x=g x:=List.map_inj_left.mp e x (List.mem_of_getElem? h)
theorem all_at {α:Type} {f:α→Bool} {l:List α} (e:l.all f=true) (i:Nat) {x:α} (h:l[i]? = some x):f x=true:=List.all_eq_true.mp e x (List.mem_of_getElem? h)
section
variable {P:List Value→Prop}
theorem xs0 (h:P []) (xs:List Value) (e:xs.length=0):P xs:=List.eq_nil_of_length_eq_zero e▸h
theorem xsS {n:Nat} (h:∀ a xs,xs.length=n→P (a::xs)) (xs:List Value) (e:xs.length=n+1):P xs:=by
 rcases xs with _|⟨a,xs⟩
 ·exact Nat.noConfusion e
 ·exact h a xs (Nat.succ.inj e)
theorem xs1 (h:∀ a,P [a]):∀ xs:List Value,xs.length=1→P xs:=xsS fun a=>xs0 (P:=fun xs=>P (a::xs)) (h a)
theorem xs2 (h:∀ a b,P [a,b]):∀ xs:List Value,xs.length=2→P xs:=xsS fun a=>xs1 (P:=fun xs=>P (a::xs)) (h a)
theorem xs3 (h:∀ a b c,P [a,b,c]):∀ xs:List Value,xs.length=3→P xs:=xsS fun a=>xs2 (P:=fun xs=>P (a::xs)) (h a)
theorem xs4 (h:∀ a b c d,P [a,b,c,d]):∀ xs:List Value,xs.length=4→P xs:=xsS fun a=>xs3 (P:=fun xs=>P (a::xs)) (h a)
end
section
variable {cx:Cx} {K:Frag}
theorem fd_inv {f:Addr} {v:FV} (h:fdView K f=some v):∃ oc od fd osl,K.lookup f=some ⟨oc,od,.func fd,osl⟩∧fdV K fd=v:=by
 unfold fdView at h
 cases e:K.lookup f with
 | none=>rw [e] at h;contradiction
 | some o=>
  rw [e] at h
  obtain ⟨oc,od,s,osl⟩:=o
  cases s with
  | func fd=>exact ⟨oc,od,fd,osl,rfl,Option.some.inj h⟩
  | _=>contradiction
noncomputable def fnBack (fd:FuncData) (v:FV):FuncData:={ fd with body:=v.1,scope:=v.2.1,params:=v.2.2.1,globals:=v.2.2.2.1,closure:=v.2.2.2.2.1,builtins:=v.2.2.2.2.2.1,defaults:=v.2.2.2.2.2.2.1,kwdefaults:=v.2.2.2.2.2.2.2.1 }
theorem fd_back {fd:FuncData} {v:FV} (h:fdV K fd=v):fd=fnBack fd v∧codeIn K fd.code fd.qualname=v.2.2.2.2.2.2.2.2:=by subst h;exact ⟨rfl,rfl⟩
theorem PxOb.fn (O:PxOb cx.K) (i:Nat) {f:Addr} {d:Stmt} {names:List Str} (h:pxFuns[i]? = some (f,d))
  (hb:∀ (name qual:Str) (doc pm cdv ct:Value) (an:Option Addr) (xs:List Value),xs.length=names.length→bindArgs (fnOf name qual (defParams d) (defBody d) (defScope d) .none .none doc pm an cdv ct) ⟨xs,[]⟩=pure (names.zip xs)):Fun cx f d names:=by
 obtain ⟨oc,od,fd,osl,ho,e⟩:=fd_inv (at_of O.funs i h)
 have q:=fd_back e
 exact ⟨fd.name,fd.qualname,defParams d,.none,.none,fd.doc,fd.pyModule,fd.code,fd.closureTuple,oc,fd.annotations,od,osl,ho.trans (congrArg (fun z=>some (Obj.mk oc od (.func z) osl)) q.1),q.2,fun xs h=>hb _ _ _ _ _ _ _ xs h⟩
theorem PxOb.find (O:PxOb K) (i:Nat) {c:Addr} {x:Str} {v:Option Value} (h:pxFinds[i]? = some (c,x,v)):findIn K (.ref c) x=some v:=at_of O.finds i h
theorem PxOb.cls (O:PxOb K) (i:Nat) {c:Addr} (h:pxCls[i]? = some c):(hasDictIn K c=true∧plainOver K c=true∧makesIn K c=true)∧keepIn K (.ref c)=true:=by
 have e:=all_at O.clss i h
 simp only [Bool.and_eq_true] at e
 exact ⟨⟨e.1.1.1,e.1.1.2,e.1.2⟩,e.2⟩
theorem PxOb.fk (O:PxOb K) (i:Nat) {f:Addr} {d:Stmt} (h:pxFuns[i]? = some (f,d)):isFn K (.ref f)=true∧keepIn K (.ref f)=true:=by
 have e:=all_at O.fks i h
 simp only [Bool.and_eq_true] at e
 exact e
theorem PxOb.clsOk (O:PxOb K) (i:Nat) {c:Addr} (h:pxCls[i]? = some c) (h1:pxFinds[3*i]? = some (c,Str.ofString "__getattribute__",some (.builtin "object.__getattribute__"))) (h2:pxFinds[3*i+1]? = some (c,Str.ofString "__getattr__",none)) (h3:pxFinds[3*i+2]? = some (c,Str.ofString "__setattr__",some (.builtin "object.__setattr__"))):ClsOk K c:=
 have q:=(O.cls i h).1
 ⟨O.find _ h1,O.find _ h2,q.1,O.find _ h3,q.2.1,q.2.2⟩
theorem PxOb.ok (O:PxOb K):∀ (i:Nat) {c:Addr},pxCls[i]? = some c→ClsOk K c
 | 0,_,h=>by (injection h with h;subst h);exact O.clsOk 0 rfl rfl rfl rfl
 | 1,_,h=>by (injection h with h;subst h);exact O.clsOk 1 rfl rfl rfl rfl
 | 2,_,h=>by (injection h with h;subst h);exact O.clsOk 2 rfl rfl rfl rfl
 | 3,_,h=>by (injection h with h;subst h);exact O.clsOk 3 rfl rfl rfl rfl
theorem PxOb.meth (O:PxOb cx.K) (i j k:Nat) {c f:Addr} {d:Stmt} {x:Str} (h:pxCls[i]? = some c) (h1:pxFuns[j]? = some (f,d)) (h2:pxFinds[k]? = some (c,x,some (.ref f))):MethIs cx c x f:=⟨O.ok i h,O.find k h2,(O.fk j h1).1,(O.fk j h1).2⟩
theorem PxOb.attr (O:PxOb cx.K) (i j k:Nat) {c:Addr} {x:Str} (h:pxCls[i]? = some c) (h1:pxFinds[j]? = some (c,x,none)) (h2:pxAttrs[k]? = some (c,x)):AttrIs cx c x:=⟨O.ok i h,O.find j h1,at_of O.attrs k h2⟩
theorem PxOb.glob (O:PxOb cx.K) (i:Nat) {x:Str} {v:Value} (h:pxGlobs[i]? = some (x,some v)):GlobIs cx x v:=.inl (at_of O.globs i h)
theorem PxOb.blt (O:PxOb cx.K) (i:Nat) {x:Str} {v:Value} (h:pxGlobs[i]? = some (x,none)) (h1:bootBuiltins x=some v) (h2:x ≠ "__name__"):GlobIs cx x v:=.inr ⟨at_of O.globs i h,h1,h2⟩
end
section
variable {cx:Cx}
structure Ads where
 u:Unit
noncomputable def Ads.c (a:Ads):Cs:=⟨174,256,386,433⟩
structure Px (cx:Cx) (a:Ads):Prop where
 o:PxOb cx.K
variable {a:Ads} (P:Px cx a)
include P
noncomputable def Ads.bank_init (a:Ads):Addr:=86
noncomputable def Ads.bank_size (a:Ads):Addr:=93
noncomputable def Ads.bank_take (a:Ads):Addr:=98
noncomputable def Ads.bank_require (a:Ads):Addr:=105
noncomputable def Ads.bank_op (a:Ads):Addr:=131
noncomputable def Ads.bank_kids (a:Ads):Addr:=138
noncomputable def Ads.unions_init (a:Ads):Addr:=192
noncomputable def Ads.unions_make (a:Ads):Addr:=199
noncomputable def Ads.unions_size (a:Ads):Addr:=206
noncomputable def Ads.unions_find (a:Ads):Addr:=213
noncomputable def Ads.unions_merge (a:Ads):Addr:=220
noncomputable def Ads.unions_members (a:Ads):Addr:=227
noncomputable def Ads.unions_classes (a:Ads):Addr:=232
noncomputable def Ads.heap_init (a:Ads):Addr:=274
noncomputable def Ads.heap_size (a:Ads):Addr:=281
noncomputable def Ads.heap_node (a:Ads):Addr:=286
noncomputable def Ads.heap_add (a:Ads):Addr:=291
noncomputable def Ads.heap_look_at (a:Ads):Addr:=303
noncomputable def Ads.heap_find (a:Ads):Addr:=310
noncomputable def Ads.heap_merge (a:Ads):Addr:=324
noncomputable def Ads.heap_join (a:Ads):Addr:=331
noncomputable def Ads.heap_settle (a:Ads):Addr:=338
noncomputable def Ads.heap_classes (a:Ads):Addr:=352
noncomputable def Ads.heap_members (a:Ads):Addr:=359
noncomputable def Ads.heap_nodes_of (a:Ads):Addr:=364
noncomputable def Ads.heap_seek (a:Ads):Addr:=376
noncomputable def Ads.meet_init (a:Ads):Addr:=404
noncomputable def Ads.meet_nodes_by_op (a:Ads):Addr:=411
noncomputable def Ads.meet_go_up (a:Ads):Addr:=418
noncomputable def Ads.meet_put (a:Ads):Addr:=423
noncomputable def Ads.meet_class_of (a:Ads):Addr:=430
noncomputable def Ads.f_is_op (a:Ads):Addr:=67
noncomputable def Ads.f_draw (a:Ads):Addr:=444
noncomputable def Ads.f_side (a:Ads):Addr:=449
noncomputable def Ads.f_closed (a:Ads):Addr:=454
noncomputable def Ads.f_terms (a:Ads):Addr:=459
noncomputable def Ads.f_klass (a:Ads):Addr:=464
noncomputable def Ads.f_place (a:Ads):Addr:=469
noncomputable def Ads.f_shared (a:Ads):Addr:=474
theorem Px.bank_init:Fun cx a.bank_init (methAt 7 0) ["self"]:=P.o.fn 0 rfl fun o_ o_ o_ o_ o_ o_ o_=>xs1 (fun o_=>by kernel_rfl)
theorem Px.bank_init_m:MethIs cx a.c.bank "__init__" a.bank_init:=P.o.meth 0 0 12 rfl rfl rfl
theorem Px.bank_size:Fun cx a.bank_size (methAt 7 1) ["self"]:=P.o.fn 1 rfl fun o_ o_ o_ o_ o_ o_ o_=>xs1 (fun o_=>by kernel_rfl)
theorem Px.bank_size_m:MethIs cx a.c.bank "size" a.bank_size:=P.o.meth 0 1 13 rfl rfl rfl
theorem Px.bank_take:Fun cx a.bank_take (methAt 7 2) ["self", "op", "kids"]:=P.o.fn 2 rfl fun o_ o_ o_ o_ o_ o_ o_=>xs3 (fun o_ o_ o_=>by kernel_rfl)
theorem Px.bank_take_m:MethIs cx a.c.bank "take" a.bank_take:=P.o.meth 0 2 14 rfl rfl rfl
theorem Px.bank_require:Fun cx a.bank_require (methAt 7 3) ["self", "op"]:=P.o.fn 3 rfl fun o_ o_ o_ o_ o_ o_ o_=>xs2 (fun o_ o_=>by kernel_rfl)
theorem Px.bank_require_m:MethIs cx a.c.bank "require" a.bank_require:=P.o.meth 0 3 15 rfl rfl rfl
theorem Px.bank_op:Fun cx a.bank_op (methAt 7 7) ["self", "n"]:=P.o.fn 4 rfl fun o_ o_ o_ o_ o_ o_ o_=>xs2 (fun o_ o_=>by kernel_rfl)
theorem Px.bank_op_m:MethIs cx a.c.bank "op" a.bank_op:=P.o.meth 0 4 16 rfl rfl rfl
theorem Px.bank_kids:Fun cx a.bank_kids (methAt 7 8) ["self", "n"]:=P.o.fn 5 rfl fun o_ o_ o_ o_ o_ o_ o_=>xs2 (fun o_ o_=>by kernel_rfl)
theorem Px.bank_kids_m:MethIs cx a.c.bank "kids" a.bank_kids:=P.o.meth 0 5 17 rfl rfl rfl
theorem Px.bank_a_nodes:AttrIs cx a.c.bank "nodes":=P.o.attr 0 18 0 rfl rfl rfl
theorem Px.bank_a_numbers:AttrIs cx a.c.bank "numbers":=P.o.attr 0 19 1 rfl rfl rfl
theorem Px.bank_a_weights:AttrIs cx a.c.bank "weights":=P.o.attr 0 20 2 rfl rfl rfl
theorem Px.bank_a_depths:AttrIs cx a.c.bank "depths":=P.o.attr 0 21 3 rfl rfl rfl
theorem Px.bank_keep:keepIn cx.K (.ref a.c.bank)=true:=(P.o.cls 0 rfl).2
theorem Px.unions_init:Fun cx a.unions_init (methAt 9 0) ["self"]:=P.o.fn 6 rfl fun o_ o_ o_ o_ o_ o_ o_=>xs1 (fun o_=>by kernel_rfl)
theorem Px.unions_init_m:MethIs cx a.c.unions "__init__" a.unions_init:=P.o.meth 1 6 22 rfl rfl rfl
theorem Px.unions_make:Fun cx a.unions_make (methAt 9 1) ["self"]:=P.o.fn 7 rfl fun o_ o_ o_ o_ o_ o_ o_=>xs1 (fun o_=>by kernel_rfl)
theorem Px.unions_make_m:MethIs cx a.c.unions "make" a.unions_make:=P.o.meth 1 7 23 rfl rfl rfl
theorem Px.unions_size:Fun cx a.unions_size (methAt 9 2) ["self"]:=P.o.fn 8 rfl fun o_ o_ o_ o_ o_ o_ o_=>xs1 (fun o_=>by kernel_rfl)
theorem Px.unions_size_m:MethIs cx a.c.unions "size" a.unions_size:=P.o.meth 1 8 24 rfl rfl rfl
theorem Px.unions_find:Fun cx a.unions_find (methAt 9 3) ["self", "a"]:=P.o.fn 9 rfl fun o_ o_ o_ o_ o_ o_ o_=>xs2 (fun o_ o_=>by kernel_rfl)
theorem Px.unions_find_m:MethIs cx a.c.unions "find" a.unions_find:=P.o.meth 1 9 25 rfl rfl rfl
theorem Px.unions_merge:Fun cx a.unions_merge (methAt 9 4) ["self", "a", "b"]:=P.o.fn 10 rfl fun o_ o_ o_ o_ o_ o_ o_=>xs3 (fun o_ o_ o_=>by kernel_rfl)
theorem Px.unions_merge_m:MethIs cx a.c.unions "merge" a.unions_merge:=P.o.meth 1 10 26 rfl rfl rfl
theorem Px.unions_members:Fun cx a.unions_members (methAt 9 5) ["self", "a"]:=P.o.fn 11 rfl fun o_ o_ o_ o_ o_ o_ o_=>xs2 (fun o_ o_=>by kernel_rfl)
theorem Px.unions_members_m:MethIs cx a.c.unions "members" a.unions_members:=P.o.meth 1 11 27 rfl rfl rfl
theorem Px.unions_classes:Fun cx a.unions_classes (methAt 9 6) ["self"]:=P.o.fn 12 rfl fun o_ o_ o_ o_ o_ o_ o_=>xs1 (fun o_=>by kernel_rfl)
theorem Px.unions_classes_m:MethIs cx a.c.unions "classes" a.unions_classes:=P.o.meth 1 12 28 rfl rfl rfl
theorem Px.unions_a_above:AttrIs cx a.c.unions "above":=P.o.attr 1 29 4 rfl rfl rfl
theorem Px.unions_a_lots:AttrIs cx a.c.unions "lots":=P.o.attr 1 30 5 rfl rfl rfl
theorem Px.unions_a_merged:AttrIs cx a.c.unions "merged":=P.o.attr 1 31 6 rfl rfl rfl
theorem Px.unions_keep:keepIn cx.K (.ref a.c.unions)=true:=(P.o.cls 1 rfl).2
theorem Px.heap_init:Fun cx a.heap_init (methAt 11 0) ["self"]:=P.o.fn 13 rfl fun o_ o_ o_ o_ o_ o_ o_=>xs1 (fun o_=>by kernel_rfl)
theorem Px.heap_init_m:MethIs cx a.c.heap "__init__" a.heap_init:=P.o.meth 2 13 32 rfl rfl rfl
theorem Px.heap_size:Fun cx a.heap_size (methAt 11 1) ["self"]:=P.o.fn 14 rfl fun o_ o_ o_ o_ o_ o_ o_=>xs1 (fun o_=>by kernel_rfl)
theorem Px.heap_size_m:MethIs cx a.c.heap "size" a.heap_size:=P.o.meth 2 14 33 rfl rfl rfl
theorem Px.heap_node:Fun cx a.heap_node (methAt 11 2) ["self", "n"]:=P.o.fn 15 rfl fun o_ o_ o_ o_ o_ o_ o_=>xs2 (fun o_ o_=>by kernel_rfl)
theorem Px.heap_node_m:MethIs cx a.c.heap "node" a.heap_node:=P.o.meth 2 15 34 rfl rfl rfl
theorem Px.heap_add:Fun cx a.heap_add (methAt 11 3) ["self", "op", "numbers"]:=P.o.fn 16 rfl fun o_ o_ o_ o_ o_ o_ o_=>xs3 (fun o_ o_ o_=>by kernel_rfl)
theorem Px.heap_add_m:MethIs cx a.c.heap "add" a.heap_add:=P.o.meth 2 16 35 rfl rfl rfl
theorem Px.heap_look_at:Fun cx a.heap_look_at (methAt 11 5) ["self", "n"]:=P.o.fn 17 rfl fun o_ o_ o_ o_ o_ o_ o_=>xs2 (fun o_ o_=>by kernel_rfl)
theorem Px.heap_look_at_m:MethIs cx a.c.heap "look_at" a.heap_look_at:=P.o.meth 2 17 36 rfl rfl rfl
theorem Px.heap_find:Fun cx a.heap_find (methAt 11 6) ["self", "n"]:=P.o.fn 18 rfl fun o_ o_ o_ o_ o_ o_ o_=>xs2 (fun o_ o_=>by kernel_rfl)
theorem Px.heap_find_m:MethIs cx a.c.heap "find" a.heap_find:=P.o.meth 2 18 37 rfl rfl rfl
theorem Px.heap_merge:Fun cx a.heap_merge (methAt 11 8) ["self", "a", "b", "reason"]:=P.o.fn 19 rfl fun o_ o_ o_ o_ o_ o_ o_=>xs4 (fun o_ o_ o_ o_=>by kernel_rfl)
theorem Px.heap_merge_m:MethIs cx a.c.heap "merge" a.heap_merge:=P.o.meth 2 19 38 rfl rfl rfl
theorem Px.heap_join:Fun cx a.heap_join (methAt 11 9) ["self", "a", "b", "reason"]:=P.o.fn 20 rfl fun o_ o_ o_ o_ o_ o_ o_=>xs4 (fun o_ o_ o_ o_=>by kernel_rfl)
theorem Px.heap_join_m:MethIs cx a.c.heap "join" a.heap_join:=P.o.meth 2 20 39 rfl rfl rfl
theorem Px.heap_settle:Fun cx a.heap_settle (methAt 11 10) ["self"]:=P.o.fn 21 rfl fun o_ o_ o_ o_ o_ o_ o_=>xs1 (fun o_=>by kernel_rfl)
theorem Px.heap_settle_m:MethIs cx a.c.heap "settle" a.heap_settle:=P.o.meth 2 21 40 rfl rfl rfl
theorem Px.heap_classes:Fun cx a.heap_classes (methAt 11 12) ["self"]:=P.o.fn 22 rfl fun o_ o_ o_ o_ o_ o_ o_=>xs1 (fun o_=>by kernel_rfl)
theorem Px.heap_classes_m:MethIs cx a.c.heap "classes" a.heap_classes:=P.o.meth 2 22 41 rfl rfl rfl
theorem Px.heap_members:Fun cx a.heap_members (methAt 11 13) ["self", "c"]:=P.o.fn 23 rfl fun o_ o_ o_ o_ o_ o_ o_=>xs2 (fun o_ o_=>by kernel_rfl)
theorem Px.heap_members_m:MethIs cx a.c.heap "members" a.heap_members:=P.o.meth 2 23 42 rfl rfl rfl
theorem Px.heap_nodes_of:Fun cx a.heap_nodes_of (methAt 11 14) ["self", "c"]:=P.o.fn 24 rfl fun o_ o_ o_ o_ o_ o_ o_=>xs2 (fun o_ o_=>by kernel_rfl)
theorem Px.heap_nodes_of_m:MethIs cx a.c.heap "nodes_of" a.heap_nodes_of:=P.o.meth 2 24 43 rfl rfl rfl
theorem Px.heap_seek:Fun cx a.heap_seek (methAt 11 16) ["self", "op", "classes"]:=P.o.fn 25 rfl fun o_ o_ o_ o_ o_ o_ o_=>xs3 (fun o_ o_ o_=>by kernel_rfl)
theorem Px.heap_seek_m:MethIs cx a.c.heap "seek" a.heap_seek:=P.o.meth 2 25 44 rfl rfl rfl
theorem Px.heap_a_bank:AttrIs cx a.c.heap "bank":=P.o.attr 2 45 7 rfl rfl rfl
theorem Px.heap_a_unions:AttrIs cx a.c.heap "unions":=P.o.attr 2 46 8 rfl rfl rfl
theorem Px.heap_a_edges:AttrIs cx a.c.heap "edges":=P.o.attr 2 47 9 rfl rfl rfl
theorem Px.heap_a_forest:AttrIs cx a.c.heap "forest":=P.o.attr 2 48 10 rfl rfl rfl
theorem Px.heap_a_known:AttrIs cx a.c.heap "known":=P.o.attr 2 49 11 rfl rfl rfl
theorem Px.heap_a_above:AttrIs cx a.c.heap "above":=P.o.attr 2 50 12 rfl rfl rfl
theorem Px.heap_a_waiting:AttrIs cx a.c.heap "waiting":=P.o.attr 2 51 13 rfl rfl rfl
theorem Px.heap_keep:keepIn cx.K (.ref a.c.heap)=true:=(P.o.cls 2 rfl).2
theorem Px.meet_init:Fun cx a.meet_init (methAt 13 0) ["self", "one", "other"]:=P.o.fn 26 rfl fun o_ o_ o_ o_ o_ o_ o_=>xs3 (fun o_ o_ o_=>by kernel_rfl)
theorem Px.meet_init_m:MethIs cx a.c.meet "__init__" a.meet_init:=P.o.meth 3 26 52 rfl rfl rfl
theorem Px.meet_nodes_by_op:Fun cx a.meet_nodes_by_op (methAt 13 1) ["self", "heap"]:=P.o.fn 27 rfl fun o_ o_ o_ o_ o_ o_ o_=>xs2 (fun o_ o_=>by kernel_rfl)
theorem Px.meet_nodes_by_op_m:MethIs cx a.c.meet "nodes_by_op" a.meet_nodes_by_op:=P.o.meth 3 27 53 rfl rfl rfl
theorem Px.meet_go_up:Fun cx a.meet_go_up (methAt 13 2) ["self"]:=P.o.fn 28 rfl fun o_ o_ o_ o_ o_ o_ o_=>xs1 (fun o_=>by kernel_rfl)
theorem Px.meet_go_up_m:MethIs cx a.c.meet "go_up" a.meet_go_up:=P.o.meth 3 28 54 rfl rfl rfl
theorem Px.meet_put:Fun cx a.meet_put (methAt 13 3) ["self", "pair", "op", "kids"]:=P.o.fn 29 rfl fun o_ o_ o_ o_ o_ o_ o_=>xs4 (fun o_ o_ o_ o_=>by kernel_rfl)
theorem Px.meet_put_m:MethIs cx a.c.meet "put" a.meet_put:=P.o.meth 3 29 55 rfl rfl rfl
theorem Px.meet_class_of:Fun cx a.meet_class_of (methAt 13 4) ["self", "a", "b"]:=P.o.fn 30 rfl fun o_ o_ o_ o_ o_ o_ o_=>xs3 (fun o_ o_ o_=>by kernel_rfl)
theorem Px.meet_class_of_m:MethIs cx a.c.meet "class_of" a.meet_class_of:=P.o.meth 3 30 56 rfl rfl rfl
theorem Px.meet_a_one:AttrIs cx a.c.meet "one":=P.o.attr 3 57 14 rfl rfl rfl
theorem Px.meet_a_other:AttrIs cx a.c.meet "other":=P.o.attr 3 58 15 rfl rfl rfl
theorem Px.meet_a_heap:AttrIs cx a.c.meet "heap":=P.o.attr 3 59 16 rfl rfl rfl
theorem Px.meet_a_numbers:AttrIs cx a.c.meet "numbers":=P.o.attr 3 60 17 rfl rfl rfl
theorem Px.meet_keep:keepIn cx.K (.ref a.c.meet)=true:=(P.o.cls 3 rfl).2
theorem Px.f_is_op:Fun cx a.f_is_op (defAt 5) ["text"]:=P.o.fn 31 rfl fun o_ o_ o_ o_ o_ o_ o_=>xs1 (fun o_=>by kernel_rfl)
theorem Px.f_is_op_g:GlobIs cx "is_op" (.ref a.f_is_op):=P.o.glob 0 rfl
theorem Px.f_is_op_k:keepIn cx.K (.ref a.f_is_op)=true:=(P.o.fk 31 rfl).2
theorem Px.f_draw:Fun cx a.f_draw (defAt 15) ["feed", "wide"]:=P.o.fn 32 rfl fun o_ o_ o_ o_ o_ o_ o_=>xs2 (fun o_ o_=>by kernel_rfl)
theorem Px.f_draw_g:GlobIs cx "_law_draw" (.ref a.f_draw):=P.o.glob 1 rfl
theorem Px.f_draw_k:keepIn cx.K (.ref a.f_draw)=true:=(P.o.fk 32 rfl).2
theorem Px.f_side:Fun cx a.f_side (defAt 16) ["feed"]:=P.o.fn 33 rfl fun o_ o_ o_ o_ o_ o_ o_=>xs1 (fun o_=>by kernel_rfl)
theorem Px.f_side_g:GlobIs cx "_law_side" (.ref a.f_side):=P.o.glob 2 rfl
theorem Px.f_side_k:keepIn cx.K (.ref a.f_side)=true:=(P.o.fk 33 rfl).2
theorem Px.f_closed:Fun cx a.f_closed (defAt 17) ["rows", "pairs"]:=P.o.fn 34 rfl fun o_ o_ o_ o_ o_ o_ o_=>xs2 (fun o_ o_=>by kernel_rfl)
theorem Px.f_closed_g:GlobIs cx "_law_closed" (.ref a.f_closed):=P.o.glob 3 rfl
theorem Px.f_closed_k:keepIn cx.K (.ref a.f_closed)=true:=(P.o.fk 34 rfl).2
theorem Px.f_terms:Fun cx a.f_terms (defAt 18) []:=P.o.fn 35 rfl fun o_ o_ o_ o_ o_ o_ o_=>xs0 (by kernel_rfl)
theorem Px.f_terms_g:GlobIs cx "_law_terms" (.ref a.f_terms):=P.o.glob 4 rfl
theorem Px.f_terms_k:keepIn cx.K (.ref a.f_terms)=true:=(P.o.fk 35 rfl).2
theorem Px.f_klass:Fun cx a.f_klass (defAt 19) ["term", "known"]:=P.o.fn 36 rfl fun o_ o_ o_ o_ o_ o_ o_=>xs2 (fun o_ o_=>by kernel_rfl)
theorem Px.f_klass_g:GlobIs cx "_law_class" (.ref a.f_klass):=P.o.glob 5 rfl
theorem Px.f_klass_k:keepIn cx.K (.ref a.f_klass)=true:=(P.o.fk 36 rfl).2
theorem Px.f_place:Fun cx a.f_place (defAt 20) ["heap", "term"]:=P.o.fn 37 rfl fun o_ o_ o_ o_ o_ o_ o_=>xs2 (fun o_ o_=>by kernel_rfl)
theorem Px.f_place_g:GlobIs cx "_law_place" (.ref a.f_place):=P.o.glob 6 rfl
theorem Px.f_place_k:keepIn cx.K (.ref a.f_place)=true:=(P.o.fk 37 rfl).2
theorem Px.f_shared:Fun cx a.f_shared (defAt 21) ["known", "other"]:=P.o.fn 38 rfl fun o_ o_ o_ o_ o_ o_ o_=>xs2 (fun o_ o_=>by kernel_rfl)
theorem Px.f_shared_g:GlobIs cx "_law_shared" (.ref a.f_shared):=P.o.glob 7 rfl
theorem Px.f_shared_k:keepIn cx.K (.ref a.f_shared)=true:=(P.o.fk 38 rfl).2
theorem Px.bank_g:GlobIs cx "Bank" (.ref a.c.bank):=P.o.glob 8 rfl
theorem Px.unions_g:GlobIs cx "Unions" (.ref a.c.unions):=P.o.glob 9 rfl
theorem Px.heap_g:GlobIs cx "Heap" (.ref a.c.heap):=P.o.glob 10 rfl
theorem Px.meet_g:GlobIs cx "Meet" (.ref a.c.meet):=P.o.glob 11 rfl
theorem Px.g_len:GlobIs cx "len" (.builtin "len"):=P.o.blt 12 rfl rfl (by decide)
theorem Px.g_sorted:GlobIs cx "sorted" (.builtin "sorted"):=P.o.blt 13 rfl rfl (by decide)
theorem Px.g_sum:GlobIs cx "sum" (.builtin "sum"):=P.o.blt 14 rfl rfl (by decide)
theorem Px.g_max:GlobIs cx "max" (.builtin "max"):=P.o.blt 15 rfl rfl (by decide)
theorem Px.g_abs:GlobIs cx "abs" (.builtin "abs"):=P.o.blt 16 rfl rfl (by decide)
theorem Px.g_set:GlobIs cx "set" (.type "set"):=P.o.blt 17 rfl rfl (by decide)
theorem Px.g_list:GlobIs cx "list" (.type "list"):=P.o.blt 18 rfl rfl (by decide)
theorem Px.g_tuple:GlobIs cx "tuple" (.type "tuple"):=P.o.blt 19 rfl rfl (by decide)
theorem Px.g_str:GlobIs cx "str" (.type "str"):=P.o.blt 20 rfl rfl (by decide)
theorem Px.g_int:GlobIs cx "int" (.type "int"):=P.o.blt 21 rfl rfl (by decide)
theorem Px.g_range:GlobIs cx "range" (.type "range"):=P.o.blt 22 rfl rfl (by decide)
theorem Px.g_zip:GlobIs cx "zip" (.type "zip"):=P.o.blt 23 rfl rfl (by decide)
theorem Px.g_enumerate:GlobIs cx "enumerate" (.type "enumerate"):=P.o.blt 24 rfl rfl (by decide)
omit P in
theorem PxOb.law (O:PxOb cx.K):Fun cx 479 (defAt 22) ["script"]:=O.fn 39 rfl fun o_ o_ o_ o_ o_ o_ o_=>xs1 (fun o_=>by kernel_rfl)
omit P in
theorem PxOb.lawg (O:PxOb cx.K):nsIn cx.K mainGlobals "law" = some (some (.ref 479)):=at_of O.globs 25 rfl
end
end
section
variable {cx:Cx} {n:Nat} {csc:Scope} {Γ:Str→Option V} {σ:Store}
theorem flat_one {α:Type} (g:α→V):∀ l:List α,(l.map fun v=>[g v]).flatten=l.map g
 | []=>rfl
 | v::l=>by simp [flat_one g l]
theorem flat_if {α:Type} (g:α→V) (p:α→Bool):∀ l:List α,(l.map fun v=>if p v then [g v] else []).flatten=(l.filter p).map g
 | []=>rfl
 | v::l=>by
  rw [List.map_cons,List.flatten_cons,flat_if g p l,List.filter_cons]
  by_cases q:p v=true
  ·simp [q]
  ·simp [q]
theorem Turns_map {x:Str} {elt:Expr} {l:List V} (g:V→V) (hl:l.length≤1000000) (h:∀ v∈l,Ev cx n csc (upd Γ x v) σ elt fun u σ'=>u=g v∧σ'=σ):Turns cx n csc Γ σ x [] (emit elt) l (l.map g):=
 ⟨l.map fun v=>[g v],by simp,flat_one g l,by simpa using hl,fun i v u hv hu=>by
  have hm:v∈l:=List.mem_of_getElem? hv
  have:u=[g v]:=by rw [List.getElem?_map,hv] at hu;(injection hu with hu;subst hu);rfl
  subst this
  exact (show CompT cx n csc (upd Γ x v) σ [] _ from ⟨fun e=>Bool.noConfusion e,fun o_=>CompX_emit (h v hm)⟩)⟩
theorem Turns_filter {x:Str} {elt c:Expr} {l:List V} (g:V→V) (p:V→Bool) (hl:l.length≤1000000) (ht:∀ v∈l,Te cx n csc (upd Γ x v) σ c fun b σ'=>σ'=σ∧b=p v)
  (h:∀ v∈l,p v=true→Ev cx n csc (upd Γ x v) σ elt fun u σ'=>u=g v∧σ'=σ):Turns cx n csc Γ σ x [c] (emit elt) l ((l.filter p).map g):=
 ⟨l.map fun v=>if p v then [g v] else [],by simp,flat_if g p l,by have:=List.length_filter_le p l;simp;omega,fun i v u hv hu=>by
  have hm:v∈l:=List.mem_of_getElem? hv
  have hu':u=if p v then [g v] else []:=by rw [List.getElem?_map,hv] at hu;(injection hu with hu;subst hu);rfl
  subst hu'
  intro B env A s rd X E
  refine wpAny_mono (ht v hm B env A s rd X E) (fun b s' o=>?_) fun o_ o_ x=>x
  obtain ⟨σ',X',S',e,hb⟩:=o
  refine ⟨σ',X',S',e,fun q=>?_,fun q=>?_⟩
  ·rw [← hb,q];rfl
  ·rw [← hb,q]
   exact CompX_emit (h v hm (by rw [← hb,q]))⟩
end
section
variable {cx:Cx} {σ:Store}
theorem Mt_append {v:V} {l:List V} (e:lk σ v=some (.lst l)):Mt cx σ v "append" (.builtin "list.append"):=Mt_type e rfl PySem.F.plainAttrs_list PySem.F.slot_list_append PySem.F.type_list_append
theorem Mt_extend {v:V} {l:List V} (e:lk σ v=some (.lst l)):Mt cx σ v "extend" (.builtin "list.extend"):=Mt_type e rfl PySem.F.plainAttrs_list PySem.F.slot_list_extend PySem.F.type_list_extend
theorem Mt_pop {v:V} {l:List V} (e:lk σ v=some (.lst l)):Mt cx σ v "pop" (.builtin "list.pop"):=Mt_type e rfl PySem.F.plainAttrs_list PySem.F.slot_list_pop PySem.F.type_list_pop
theorem Mt_popI {v:V} {l:List (Int×V)} (e:lk σ v=some (.dI l)):Mt cx σ v "pop" (.builtin "dict.pop"):=Mt_type e rfl PySem.F.plainAttrs_dict PySem.F.slot_dict_pop PySem.F.type_dict_pop
theorem Mt_getT {v:V} {l:List (List At×V)} (e:lk σ v=some (.dT l)):Mt cx σ v "get" (.builtin "dict.get"):=Mt_type e rfl PySem.F.plainAttrs_dict PySem.F.slot_dict_get PySem.F.type_dict_get
theorem Mt_setdefT {v:V} {l:List (List At×V)} (e:lk σ v=some (.dT l)):Mt cx σ v "setdefault" (.builtin "dict.setdefault"):=Mt_type e rfl PySem.F.plainAttrs_dict PySem.F.slot_dict_setdefault PySem.F.type_dict_setdefault
theorem Mt_isspace {x:Str}:Mt cx σ (.str x) "isspace" (.builtin "str.isspace"):=Mt_type (c:=.str x) rfl rfl PySem.F.plainAttrs_str PySem.F.slot_str_isspace PySem.F.type_str_isspace
end
section
variable {cx:Cx} {a:Ads} {n:Nat} {σ:Store} {Q:V→Store→Prop}
theorem nats_snoc (l:List Nat) (k:Nat):(V.lst ((l.map fun (k:Nat)=>V.int k)++[V.int (k:Nat)]))=nats (l++[k]):=by simp [nats]
theorem nats_app (l l':List Nat):(V.lst ((l.map fun (k:Nat)=>V.int k)++(l'.map fun (k:Nat)=>V.int k)))=nats (l++l'):=by simp [nats]
theorem Cl_lenN {v:V} {l:List Nat} (hv:lk σ v=some (nats l)) (hz:l.length≤1000000) (q:Q (.int (l.length:Nat)) σ):Cl cx n σ (.builtin "len") [v] Q:=
 Cl_len (l:=l.map fun (k:Nat)=>V.int k) hv rfl (by simpa using hz) (by simpa using q)
theorem Cl_appendN {x:Addr} {l:List Nat} {k:Nat} (e:σ x=some (nats l)) (hz:l.length≤999999) (q:Q .none (σ.set x (nats (l++[k])))):Cl cx n σ (.builtin "list.append") [.ref x,.int (k:Nat)] Q:=
 Cl_append (l:=l.map fun (k:Nat)=>V.int k) e (by simpa using hz) (by rw [nats_snoc];exact q)
theorem Cl_extendN {x:Addr} {u:V} {l l':List Nat} (e:σ x=some (nats l)) (hu:lk σ u=some (nats l')) (hz:l.length+l'.length≤1000000) (q:Q .none (σ.set x (nats (l++l')))):Cl cx n σ (.builtin "list.extend") [.ref x,u] Q:=
 Cl_extend (c:=nats l') (l:=l.map fun (k:Nat)=>V.int k) (l':=l'.map fun (k:Nat)=>V.int k) e hu (by simpa using hz) (by rw [nats_app];exact q)
theorem P2_itemN {value slice:Expr} {v:V} {l:List Nat} {k u:Nat} (hv:lk σ v=some (nats l)) (hz:l.length≤1000000) (hu:l[k]? = some u) (q:Q (.int (u:Nat)) σ)
  (hs:∀ (a:Addr) t,subscripted slice false (.ref a) (.int (k:Nat) t)=operate [.ref a,.int (k:Nat) t] (getItem (.ref a) (.int (k:Nat) t)):=by intro _ _;with_unfolding_all rfl) (hg:NoGo value:=by exact trivial) :
  P2 cx n σ (subscriptTail value slice) v (.int (k:Nat)) Q:=
 P2_item (l:=l.map fun (k:Nat)=>V.int k) (k:=(k:Int)) hv rfl (Int.natCast_nonneg _) (by simpa using hz) (by rw [Int.toNat_natCast,List.getElem?_map,hu];rfl) q hs hg
end
noncomputable def Is (v:V) (σ:Store) (v':V) (σ':Store):Prop:=v'=v∧σ'=σ
noncomputable def IsB (b:Bool) (σ:Store) (b':Bool) (σ':Store):Prop:=b'=b∧σ'=σ
noncomputable def IsL (vs:List V) (σ:Store) (vs':List V) (σ':Store):Prop:=vs'=vs∧σ'=σ
noncomputable def BoolP (Q:Bool→Store→Prop) (c:V) (σ:Store):Prop:=∃ b,c=.bool b∧Q b σ
noncomputable def RetP (Q:Fl→(Str→Option V)→Store→Prop) (Γ:Str→Option V) (v:V) (σ:Store):Prop:=Q (.ret v) Γ σ
noncomputable def ThenP (cx:Cx) (n:Nat) (sc:Scope) (Γ:Str→Option V) (r:List Stmt) (Q:Fl→(Str→Option V)→Store→Prop) (v:V) (σ:Store):Prop:=v.plain=true∧Exs cx n sc Γ σ r Q
noncomputable def ThenN (cx:Cx) (n:Nat) (sc:Scope) (Γ:Str→Option V) (x:Str) (r:List Stmt) (Q:Fl→(Str→Option V)→Store→Prop) (v:V) (σ:Store):Prop:=Exs cx n sc (upd Γ x v) σ r Q
noncomputable def ValP (Q:V→Store→Prop) (φ:Fl) (_:Str→Option V) (σ:Store):Prop:=Q φ.val σ
noncomputable abbrev EvIs (cx:Cx) (n:Nat) (sc:Scope) (Γ:Str→Option V) (σ:Store) (e:Expr) (v:V):Prop:=Ev cx n sc Γ σ e (Is v σ)
noncomputable abbrev TeIs (cx:Cx) (n:Nat) (sc:Scope) (Γ:Str→Option V) (σ:Store) (e:Expr) (b:Bool):Prop:=Te cx n sc Γ σ e (IsB b σ)
noncomputable abbrev CcIs (cx:Cx) (n:Nat) (σ:Store) (f:Value) (args:List V) (v:V):Prop:=Cc cx n σ f args (Is v σ)
noncomputable abbrev ArgsIs (cx:Cx) (n:Nat) (sc:Scope) (Γ:Str→Option V) (σ:Store) (es:List Expr) (vs:List V):Prop:=EvL cx n sc Γ σ es (IsL vs σ)
noncomputable def FldIs (σ:Store) (d:Addr) (attr:Str) (u:V):Prop:=∃ fs,σ d=some (.fld fs)∧fget fs attr=some u
noncomputable def Can (cx:Cx) (σ:Store) (v:V) (name:Str) (f:Addr):Prop:=Mt cx σ v name (.ref f)∧keepIn cx.K (.ref f)=true
noncomputable abbrev LocK (sc:Scope) (x:Str):Prop:=sc.names.lookup x=some .local∨sc.names.lookup x=some .cell∨sc.names.lookup x=some .free
section
variable {cx:Cx} {n:Nat} {sc:Scope} {Γ:Str→Option V} {σ:Store} {Q:V→Store→Prop}
theorem Is.rfl {v:V}:Is v σ v σ:=⟨Eq.refl _,Eq.refl _⟩
theorem EvIs.ev {e:Expr} {v:V} (h:EvIs cx n sc Γ σ e v) (q:Q v σ):Ev cx n sc Γ σ e Q:=h.mono fun o_ o_ e=>by obtain ⟨rfl,rfl⟩:=e;exact q
theorem CcIs.cc {f:Value} {args:List V} {v:V} (h:CcIs cx n σ f args v) (q:Q v σ):Cc cx n σ f args Q:=h.mono fun o_ o_ e=>by obtain ⟨rfl,rfl⟩:=e;exact q
theorem EvIs_loc {x:Str} {pos:Pos} {v:V} (hv:Γ x=some v) (hk:LocK sc x:=by first | exact .inl (by rfl) | exact .inr (.inl (by rfl)) | exact .inr (.inr (by rfl)))
  (hd:(x==("__debug__" : Str))=false:=by decide) (hc:(x==("__classdict__" : Str))=false:=by decide):EvIs cx n sc Γ σ (.Name x pos) v:=Ev_name hk hv .rfl hd hc
theorem EvIs_int {i:Int} {k:Nat} {pos:Pos}:EvIs cx n sc Γ σ (.Constant (.int i) k pos) (.int i):=Ev_int .rfl
theorem EvIs_str {x:Str} {k:Nat} {pos:Pos}:EvIs cx n sc Γ σ (.Constant (.str x) k pos) (.str x):=Ev_str .rfl
theorem EvIs_none {k:Nat} {pos:Pos}:EvIs cx n sc Γ σ (.Constant .none k pos) .none:=Ev_none .rfl
theorem EvIs_bool {b:Bool} {k:Nat} {pos:Pos}:EvIs cx n sc Γ σ (.Constant (.bool b) k pos) (.bool b):=Ev_bool .rfl
theorem EvIs_at {o:Expr} {attr:Str} {pos:Pos} {c d:Addr} {u:V} (ho:EvIs cx n sc Γ σ o (.inst c (.ref d))) (hd:FldIs σ d attr u) (ha:AttrIs cx c attr)
  (he:∀ env,eval (.Attribute o attr pos) env=(do
   let v ← eval o env
   standAt pos.atName
   let r ← holding [v] (getAttr v attr true)
   letTemporaryGo o v r
   pure r):=by intro _;with_unfolding_all rfl):EvIs cx n sc Γ σ (.Attribute o attr pos) u:=
 Ev_attr (ho.ev (by obtain ⟨fs,h1,h2⟩:=hd;exact ⟨c,.ref d,fs,u,rfl,h1,h2,ha.cls,ha.find,.rfl⟩)) he
theorem ArgsIs.nil:ArgsIs cx n sc Γ σ [] []:=⟨rfl,rfl⟩
theorem ArgsIs.cons {e:Expr} {r:List Expr} {v:V} {vs:List V} (h:EvIs cx n sc Γ σ e v) (t:ArgsIs cx n sc Γ σ r vs) (hs:notStar e=true:=by rfl):ArgsIs cx n sc Γ σ (e::r) (v::vs):=
 ⟨hs,h.ev (t.mono fun o_ o_ q=>by obtain ⟨rfl,rfl⟩:=q;exact ⟨rfl,rfl⟩)⟩
theorem ArgsIs.run {es:List Expr} {vs:List V} {P:List V→Store→Prop} (h:ArgsIs cx n sc Γ σ es vs) (q:P vs σ):EvL cx n sc Γ σ es P:=h.mono fun o_ o_ e=>by obtain ⟨rfl,rfl⟩:=e;exact q
theorem Ev_m {o:Expr} {name:Str} {apos pos:Pos} {es:List Expr} {v:V} {vs:List V} {f:Addr} {pl:Env→Sem Bool} (ho:EvIs cx n sc Γ σ o v) (c:Can cx σ v name f) (ha:ArgsIs cx n sc Γ σ es vs) (q:Cc cx n σ (.ref f) (v::vs) Q)
  (hp:es.all notStar=true:=by rfl)
  (he:∀ env,eval (.Call (.Attribute o name apos) es [] pos) env=(do
   let ov ← eval o env
   standAt apos.atName
   let (f,first) ← holding [ov] (getMethod ov name (pl env))
   callWith pos f first (backTo pos (starEach es env)) []):=by intro _;rfl):Ev cx n sc Γ σ (.Call (.Attribute o name apos) es [] pos) Q:=
 Ev_meth (ho.ev ⟨_,c.1,keeps_ref c.2,ha.run q.cl⟩) hp he
theorem Ev_bm {o:Expr} {name:Str} {apos pos:Pos} {es:List Expr} {v:V} {vs:List V} {f:String} {pl:Env→Sem Bool} (ho:EvIs cx n sc Γ σ o v) (c:Mt cx σ v name (.builtin f)) (ha:ArgsIs cx n sc Γ σ es vs) (q:Cl cx n σ (.builtin f) (v::vs) Q)
  (hp:es.all notStar=true:=by rfl)
  (he:∀ env,eval (.Call (.Attribute o name apos) es [] pos) env=(do
   let ov ← eval o env
   standAt apos.atName
   let (f,first) ← holding [ov] (getMethod ov name (pl env))
   callWith pos f first (backTo pos (starEach es env)) []):=by intro _;rfl):Ev cx n sc Γ σ (.Call (.Attribute o name apos) es [] pos) Q:=
 Ev_meth (ho.ev ⟨_,c,keeps_builtin _,ha.run q⟩) hp he
theorem Ev_c {x:Str} {fp pos:Pos} {f:Addr} {es:List Expr} {vs:List V} (hf:GlobIs cx x (.ref f)) (kf:keepIn cx.K (.ref f)=true) (ha:ArgsIs cx n sc Γ σ es vs) (q:Cc cx n σ (.ref f) vs Q) (hk:sc.names.lookup x=some .globalImplicit:=by rfl)
  (hp:es.all notStar=true:=by rfl) (hd:(x==("__debug__" : Str))=false:=by decide):Ev cx n sc Γ σ (.Call (.Name x fp) es [] pos) Q:=Ev_call hk hf (keeps_ref kf) (ha.run q.cl) hp hd
theorem Ev_b {x:Str} {fp pos:Pos} {f:String} {es:List Expr} {vs:List V} (hf:GlobIs cx x (.builtin f)) (ha:ArgsIs cx n sc Γ σ es vs) (q:Cl cx n σ (.builtin f) vs Q) (hk:sc.names.lookup x=some .globalImplicit:=by rfl)
  (hp:es.all notStar=true:=by rfl) (hd:(x==("__debug__" : Str))=false:=by decide):Ev cx n sc Γ σ (.Call (.Name x fp) es [] pos) Q:=Ev_call hk hf (keeps_builtin _) (ha.run q) hp hd
theorem Ev_ty {x:Str} {fp pos:Pos} {f:String} {es:List Expr} {vs:List V} (hf:GlobIs cx x (.type f)) (ha:ArgsIs cx n sc Γ σ es vs) (q:Cl cx n σ (.type f) vs Q) (kf:Keeps cx (.type f)) (hk:sc.names.lookup x=some .globalImplicit:=by rfl)
  (hp:es.all notStar=true:=by rfl) (hd:(x==("__debug__" : Str))=false:=by decide):Ev cx n sc Γ σ (.Call (.Name x fp) es [] pos) Q:=Ev_call hk hf kf (ha.run q) hp hd
theorem Ev_sb {value slice:Expr} {pos:Pos} {v u:V} (hv:EvIs cx n sc Γ σ value v) (hu:EvIs cx n sc Γ σ slice u) (p:P2 cx n σ (subscriptTail value slice) v u Q):Ev cx n sc Γ σ (.Subscript value slice pos) Q:=Ev_sub (hv.ev (hu.ev p))
theorem Ev_bn {l r:Expr} {op:Operator} {pos:Pos} {v u:V} (hv:EvIs cx n sc Γ σ l v) (hu:EvIs cx n sc Γ σ r u) (p:P2 cx n σ (binaryOp op) v u Q):Ev cx n sc Γ σ (.BinOp l op r pos) Q:=Ev_bin (hv.ev (hu.ev p))
theorem Te_cm {l r:Expr} {op:CmpOp} {pos:Pos} {v u:V} {Q:Bool→Store→Prop} (hv:EvIs cx n sc Γ σ l v) (hu:EvIs cx n sc Γ σ r u) (p:P2 cx n σ (compareOp op) v u (BoolP Q)) (hm:behindInMarks op r=false:=by with_unfolding_all rfl):Te cx n sc Γ σ (.Compare l [op] [r] pos) Q:=Te_cmp (hv.ev (hu.ev p)) hm
theorem Ev_cm {l r:Expr} {op:CmpOp} {pos:Pos} {v u:V} (hv:EvIs cx n sc Γ σ l v) (hu:EvIs cx n sc Γ σ r u) (p:P2 cx n σ (compareOp op) v u Q) (hm:behindInMarks op r=false:=by with_unfolding_all rfl):Ev cx n sc Γ σ (.Compare l [op] [r] pos) Q:=Ev_cmp (hv.ev (hu.ev p)) hm
theorem Te.mono {e:Expr} {Q Q':Bool→Store→Prop} (h:Te cx n sc Γ σ e Q) (hq:∀ b σ',Q b σ'→Q' b σ'):Te cx n sc Γ σ e Q':=fun B env A s rd X E=>wpAny_mono (h B env A s rd X E) (fun o_ o_ o=>by obtain ⟨σ',X,S,q⟩:=o;exact ⟨σ',X,S,hq _ _ q⟩) fun o_ o_ x=>x
theorem TeIs.te {e:Expr} {b:Bool} {Q:Bool→Store→Prop} (h:TeIs cx n sc Γ σ e b) (q:Q b σ):Te cx n sc Γ σ e Q:=h.mono fun o_ o_ e=>by obtain ⟨rfl,rfl⟩:=e;exact q
theorem EvIs_tup {es:List Expr} {k:Nat} {pos:Pos} {vs:List V} (h:ArgsIs cx n sc Γ σ es vs) (hz:vs.length≤1000000:=by exact Nat.le_of_ble_eq_true rfl):EvIs cx n sc Γ σ (.Tuple es k pos) (.tup vs):=Ev_tuple (h.run ⟨hz,.rfl⟩)
theorem EvIs_lst {es:List Expr} {pos:Pos} {vs:List V} (h:ArgsIs cx n sc Γ σ es vs) (hz:vs.length≤1000000:=by exact Nat.le_of_ble_eq_true rfl):EvIs cx n sc Γ σ (.List es pos) (.lst vs):=Ev_list_fz (h.run ⟨hz,.rfl⟩)
theorem BoolP.of {b:Bool} {Q:Bool→Store→Prop} (q:Q b σ):BoolP Q (.bool b) σ:=⟨b,rfl,q⟩
end
section
variable {cx:Cx} {n:Nat} {sc:Scope} {Γ:Str→Option V} {σ:Store} {Q:Fl→(Str→Option V)→Store→Prop} {r:List Stmt}
theorem Exs_expr {e:Expr} {pos:Pos} (h:Ev cx n sc Γ σ e (ThenP cx n sc Γ r Q)) (hs:∀ env,swapsWith e none pos.line env=pure false:=by intro _;rfl):Exs cx n sc Γ σ (.Expr e pos::r) Q:=Exs_cons (Ex_expr h hs)
theorem Exs_name {x:Str} {xp pos:Pos} {e:Expr} (h:Ev cx n sc Γ σ e (ThenN cx n sc Γ x r Q)) (hk:sc.names.lookup x=some .local∨sc.names.lookup x=some .cell:=by first | exact .inl (by rfl) | exact .inr (by rfl))
  (hs:∀ env,env.scope=sc→swapsWith e (some (.Name x xp)) pos.line env=pure false:=by first | (intro _ _;rfl) | (intro env e;cases env;dsimp only at e;cases e;rfl)):Exs cx n sc Γ σ (.Assign [.Name x xp] e pos::r) Q:=Exs_cons (Ex_name hk h hs)
theorem Exs_ret {e:Expr} {pos:Pos} (h:Ev cx n sc Γ σ e (RetP Q Γ)):Exs cx n sc Γ σ (.Return (some e) pos::r) Q:=Exs_cons (Ex_ret h)
theorem Exs_if {t:Expr} {c d:List Stmt} {pos:Pos} {b:Bool} (h:TeIs cx n sc Γ σ t b) (h1:b=true→Exs cx n sc Γ σ c (After cx n sc r Q)) (h2:b=false→Exs cx n sc Γ σ d (After cx n sc r Q)):Exs cx n sc Γ σ (.If t c d pos::r) Q:=
 Exs_cons (Ex_if (h.te ⟨h1,h2⟩))
end
section
variable {cx:Cx} {n:Nat} {σ:Store} {Q:V→Store→Prop}
theorem Fun.go {f:Addr} {d:Stmt} {names:List Str} {args:List V} (F:Fun cx f d names) (ha:args.length=names.length) (h:Exs cx n (defScope d) (argsOf names args) σ (defBody d) (ValP Q))
  (hkind:(names.all fun y=>(defScope d).names.lookup y==some .local || (defScope d).names.lookup y==some .cell)=true:=by decide +kernel) (hnd:names.Nodup:=by decide +kernel) (hfree:((defScope d).names.all fun y=>y.2 != .free)=true:=by decide +kernel)
  (hco:(defScope d).isCoroutine=false:=by rfl) (hgen:(defScope d).isGenerator=false:=by rfl) (hk:(defScope d).kind=.function:=by rfl):Cc cx (n+1) σ (.ref f) args Q:=F.cc ha h hkind hnd hfree hco hgen hk
end
noncomputable def hV (a:Ads) (loc:Slot→Addr):V:=.inst a.c.heap (.ref (loc .h))
noncomputable def bV (a:Ads) (loc:Slot→Addr):V:=.inst a.c.bank (.ref (loc .b))
noncomputable def uV (a:Ads) (loc:Slot→Addr):V:=.inst a.c.unions (.ref (loc .u))
section
variable {cx:Cx} {a:Ads} {σ:Store} {loc:Slot→Addr} {H:HS} {f:Addr} {name:Str}
theorem can_b (h:HeapAt a.c σ loc H) (m:MethIs cx a.c.bank name f) (hn:fget [("nodes",.ref (loc .bn)),("numbers",.ref (loc .bm)),("weights",.ref (loc .bw)),("depths",.ref (loc .bd))] name=none:=by rfl):Can cx σ (bV a loc) name f:=⟨m.mt (h.get (k:=.b) rfl) hn,m.keep⟩
theorem can_u (h:HeapAt a.c σ loc H) (m:MethIs cx a.c.unions name f) (hn:fget [("above",.ref (loc .ua)),("lots",.ref (loc .ul)),("merged",.ref (loc .um))] name=none:=by rfl):Can cx σ (uV a loc) name f:=⟨m.mt (h.get (k:=.u) rfl) hn,m.keep⟩
theorem can_h (h:HeapAt a.c σ loc H) (m:MethIs cx a.c.heap name f) (hn:fget [("bank",.inst a.c.bank (.ref (loc .b))),("unions",.inst a.c.unions (.ref (loc .u))),("edges",.ref (loc .he)),("forest",.ref (loc .hf)),("known",.ref (loc .hk)),("above",.ref (loc .ha)),("waiting",.ref (loc .hw))] name=none:=by rfl):Can cx σ (hV a loc) name f:=⟨m.mt (h.get (k:=.h) rfl) hn,m.keep⟩
theorem fl_b (h:HeapAt a.c σ loc H) {attr:Str} {u:V} (e:fget [("nodes",.ref (loc .bn)),("numbers",.ref (loc .bm)),("weights",.ref (loc .bw)),("depths",.ref (loc .bd))] attr=some u):FldIs σ (loc .b) attr u:=⟨_,h.get (k:=.b) rfl,e⟩
theorem fl_u (h:HeapAt a.c σ loc H) {attr:Str} {u:V} (e:fget [("above",.ref (loc .ua)),("lots",.ref (loc .ul)),("merged",.ref (loc .um))] attr=some u):FldIs σ (loc .u) attr u:=⟨_,h.get (k:=.u) rfl,e⟩
theorem fl_nodes (h:HeapAt a.c σ loc H):FldIs σ (loc .b) "nodes" (.ref (loc .bn)):=fl_b h rfl
theorem fl_numbers (h:HeapAt a.c σ loc H):FldIs σ (loc .b) "numbers" (.ref (loc .bm)):=fl_b h rfl
theorem fl_weights (h:HeapAt a.c σ loc H):FldIs σ (loc .b) "weights" (.ref (loc .bw)):=fl_b h rfl
theorem fl_depths (h:HeapAt a.c σ loc H):FldIs σ (loc .b) "depths" (.ref (loc .bd)):=fl_b h rfl
theorem fl_uabove (h:HeapAt a.c σ loc H):FldIs σ (loc .u) "above" (.ref (loc .ua)):=fl_u h rfl
theorem fl_ulots (h:HeapAt a.c σ loc H):FldIs σ (loc .u) "lots" (.ref (loc .ul)):=fl_u h rfl
theorem fl_umerged (h:HeapAt a.c σ loc H):FldIs σ (loc .u) "merged" (.ref (loc .um)):=fl_u h rfl
theorem fl_bank (h:HeapAt a.c σ loc H):FldIs σ (loc .h) "bank" (bV a loc):=⟨_,h.get (k:=.h) rfl,rfl⟩
theorem fl_unions (h:HeapAt a.c σ loc H):FldIs σ (loc .h) "unions" (uV a loc):=⟨_,h.get (k:=.h) rfl,rfl⟩
theorem fl_edges (h:HeapAt a.c σ loc H):FldIs σ (loc .h) "edges" (.ref (loc .he)):=⟨_,h.get (k:=.h) rfl,rfl⟩
theorem fl_forest (h:HeapAt a.c σ loc H):FldIs σ (loc .h) "forest" (.ref (loc .hf)):=⟨_,h.get (k:=.h) rfl,rfl⟩
theorem fl_known (h:HeapAt a.c σ loc H):FldIs σ (loc .h) "known" (.ref (loc .hk)):=⟨_,h.get (k:=.h) rfl,rfl⟩
theorem fl_above (h:HeapAt a.c σ loc H):FldIs σ (loc .h) "above" (.ref (loc .ha)):=⟨_,h.get (k:=.h) rfl,rfl⟩
theorem fl_waiting (h:HeapAt a.c σ loc H):FldIs σ (loc .h) "waiting" (.ref (loc .hw)):=⟨_,h.get (k:=.h) rfl,rfl⟩
end
noncomputable def root (par:List Nat):Nat→Nat→Nat
 | 0,a=>a
 | f+1,a=>if par.getD a a=a then a else root par f (par.getD a a)
noncomputable def Down (par:List Nat):Prop:=∀ (i p:Nat),par[i]? = some p→p≤i
theorem Down.at {par:List Nat} (h:Down par) (i:Nat):par.getD i i≤i:=by
 by_cases q:i<par.length
 ·have e:par[i]? = some (par.getD i i):=by rw [List.getElem?_eq_getElem q];simp [List.getD,q]
  exact h i _ e
 ·simp [List.getD,List.getElem?_eq_none (Nat.le_of_not_lt q)]
theorem root_fuel {par:List Nat} (hd:Down par):∀ (f a:Nat),a≤f→root par f a=root par a a
 | 0,a,h=>by obtain rfl:=Nat.le_zero.mp h;rfl
 | f+1,a,h=>by
  cases a with
  | zero=>
   have:par.getD 0 0=0:=Nat.le_zero.mp (hd.at 0)
   show (if par.getD 0 0=0 then 0 else _)=0
   rw [if_pos this]
  | succ a=>
   show (if par.getD (a+1) (a+1)=a+1 then a+1 else root par f (par.getD (a+1) (a+1)))=(if par.getD (a+1) (a+1)=a+1 then a+1 else root par a (par.getD (a+1) (a+1)))
   by_cases q:par.getD (a+1) (a+1)=a+1
   ·rw [if_pos q,if_pos q]
   ·rw [if_neg q,if_neg q]
    have:=hd.at (a+1)
    rw [root_fuel hd f _ (by omega),root_fuel hd a _ (by omega)]
noncomputable def rt (par:List Nat) (a:Nat):Nat:=root par a a
theorem rt_step {par:List Nat} (hd:Down par) (a:Nat):rt par a=if par.getD a a=a then a else rt par (par.getD a a):=by
 delta rt
 have:=root_fuel hd (a+1) a (Nat.le_succ a)
 rw [← this]
 show (if par.getD a a=a then a else root par a (par.getD a a))=_
 by_cases q:par.getD a a=a
 ·rw [if_pos q,if_pos q]
 ·rw [if_neg q,if_neg q]
  exact root_fuel hd a _ (hd.at a)
theorem rt_le {par:List Nat} (hd:Down par):∀ b,rt par b≤b:=by
 intro b
 induction b using Nat.strongRecOn with
 | _ b ih=>
  rw [rt_step hd]
  split
  ·exact Nat.le_refl _
  ·rename_i q
   have h1:=hd.at b
   have:=ih (par.getD b b) (by omega)
   exact Nat.le_trans (by assumption) (by assumption)
theorem getD_at {α:Type} {l:List α} {i:Nat} (d:α) (h:i<l.length):l[i]? = some (l.getD i d):=by rw [List.getElem?_eq_getElem h];simp [List.getD,h]
noncomputable def natOf:V→Nat
 | .int i=>i.toNat
 | _=>0
noncomputable def roots (par:List Nat):List Nat:=(List.range par.length).filter fun i=>decide (par.getD i i=i)
theorem perm_nats:∀ {ns:List Int} {l:List Nat},ns.Perm (l.map fun (k:Nat)=>(k:Int))→∃ out:List Nat,ns=out.map (fun (k:Nat)=>(k:Int))∧out.Perm l:=fun {ns l} h=>by
 refine ⟨ns.map Int.toNat,?_,?_⟩
 ·rw [List.map_map]
  have:∀ x∈ns,x=((fun (k:Nat)=>(k:Int)) ∘ Int.toNat) x:=fun x hx=>by
   obtain ⟨k,_,rfl⟩:=List.mem_map.mp (h.mem_iff.mp hx)
   exact (congrArg (fun (k:Nat)=>(k:Int)) (Int.toNat_natCast k)).symm
  exact (List.map_id ns).symm.trans (List.map_congr_left this)
 ·have:=h.map Int.toNat
  rw [List.map_map] at this
  have e:List.map (Int.toNat ∘ fun (k:Nat)=>(k:Int)) l=l:=by
   rw [show (Int.toNat ∘ fun (k:Nat)=>(k:Int))=id from funext fun k=>Int.toNat_natCast k,List.map_id]
  rw [e] at this;exact this
theorem nats_int (l:List Nat):nats l=.lst ((l.map fun (k:Nat)=>(k:Int)).map .int):=by skip;rw [List.map_map];rfl
section
variable {cx:Cx} {a:Ads} {n:Nat} {σ:Store} {Q:V→Store→Prop} {loc:Slot→Addr} {H:HS}
theorem Cl_sortedN {v:V} {l:List Nat} (hv:lk σ v=some (nats l)) (hz:l.length<64) (q:∀ out:List Nat,out.Perm l→out.Pairwise (·≤·)→Q (nats out) σ):Cl cx n σ (.builtin "sorted") [v] Q:=by
 rw [nats_int] at hv
 refine Cl_sorted hv (by rw [List.length_map];exact hz) fun ns hp hs=>?_
 obtain ⟨out,rfl,ho⟩:=perm_nats hp
 rw [← nats_int]
 exact q out ho (by rw [List.pairwise_map] at hs;exact hs.imp fun h=>Int.ofNat_le.mp h)
theorem U_size (P:Px cx a) (h:HeapAt a.c σ loc H) (hz:H.par.length≤1000000):CcIs cx (n+1) σ (.ref a.unions_size) [uV a loc] (.int (H.par.length:Nat)):=by
 refine P.unions_size.go rfl ?_
 conv=>arg 6;whnf
 exact Exs_ret (Ev_b P.g_len (.cons (EvIs_at (EvIs_loc rfl) (fl_uabove h) P.unions_a_above) .nil) (Cl_lenN (h.get (k:=.ua) rfl) hz .rfl))
theorem U_find (P:Px cx a) (h:HeapAt a.c σ loc H) (hd:Down H.par) (hz:H.par.length≤1000000) {b:Nat} (hb:b<H.par.length):CcIs cx (n+1) σ (.ref a.unions_find) [uV a loc,.int b] (.int (rt H.par b:Nat)):=by
 refine P.unions_find.go rfl ?_
 conv=>arg 6;whnf
 refine Exs_cons (Ex_while (fun m Γ₁ σ₁=>σ₁=σ∧m<H.par.length∧rt H.par m=rt H.par b∧Γ₁ ("self" : Str)=some (uV a loc)∧Γ₁ ("a" : Str)=some (.int (m:Nat))) b ⟨rfl,hb,rfl,rfl,rfl⟩ ?_)
 rintro m Γ₁ σ₁ ⟨rfl,hm,hr,g1,g2⟩
 have hp:=getD_at m hm
 generalize hpp:H.par.getD m m=p at hp
 have hpm:p≤m:=hd m p hp
 have hst:=rt_step hd m
 rw [hpp] at hst
 refine Te_cm (Ev_sb (EvIs_at (EvIs_loc g1) (fl_uabove h) P.unions_a_above) (EvIs_loc g2) (P2_itemN (h.get (k:=.ua) rfl) hz hp .rfl)) (EvIs_loc g2) (P2_nei (.of ⟨fun hc=>?_,fun hc=>?_⟩))
 ·have hne:p≠m:=by
   intro e;subst e;simp at hc
  rw [if_neg hne] at hst
  exact Exs_name (Ev_sb (EvIs_at (EvIs_loc g1) (fl_uabove h) P.unions_a_above) (EvIs_loc g2) (P2_itemN (h.get (k:=.ua) rfl) hz hp (Exs_nil ⟨p,Nat.lt_of_le_of_ne hpm hne,rfl,Nat.lt_of_le_of_lt hpm hm,hst▸hr,g1,rfl⟩)))
 ·have e:p=m:=Int.ofNat_inj.mp (by simpa using hc)
  rw [if_pos e] at hst
  refine Exs_ret ((EvIs_loc g2).ev ?_)
  rw [← hr,hst]
  exact .rfl
theorem U_classes (P:Px cx a) (h:HeapAt a.c σ loc H) (hz:H.par.length≤1000000):CcIs cx (n+1) σ (.ref a.unions_classes) [uV a loc] (nats (roots H.par)):=by
 refine P.unions_classes.go rfl ?_
 conv=>arg 6;whnf
 have hl:lk σ (.ref (loc .ua))=some (nats H.par):=h.get (k:=.ua) rfl
 refine Exs_ret (Ev_comp (by decide +kernel) (by rfl) (EvI_range (by rfl) P.g_range rfl (Ev_b P.g_len (.cons (EvIs_at (EvIs_loc rfl) (fl_uabove h) P.unions_a_above) .nil) (Cl_lenN hl hz ⟨H.par.length,rfl,hz,?_⟩))))
 refine ⟨_,Turns_filter id (fun v=>decide (H.par.getD (natOf v) (natOf v)=natOf v)) (by simpa [upto] using hz) (fun v hv=>?_) (fun v hv hp=>Ev_loc rfl ⟨rfl,rfl⟩),.inl ?_⟩
 ·obtain ⟨i,hi,rfl⟩:=List.mem_map.mp hv
  refine Te_cm (Ev_sb (EvIs_at (EvIs_loc rfl) (fl_uabove h) P.unions_a_above) (EvIs_loc rfl) (P2_itemN hl hz (getD_at i (List.mem_range.mp hi)) .rfl)) (EvIs_loc rfl) (P2_eqi (.of ⟨rfl,?_⟩))
  exact decide_eq_decide.mpr Int.ofNat_inj
 ·have e:(V.lst (((upto H.par.length).filter fun v=>decide (H.par.getD (natOf v) (natOf v)=natOf v)).map id))=nats (roots H.par):=by
   delta nats roots upto
   rw [List.map_id,List.filter_map]
   rfl
  show Is _ _ (V.lst _) σ
  rw [e]
  exact .rfl
theorem lots_at (h:HeapAt a.c σ loc H):lk σ (.ref (loc .ul))=some (.lst ((List.range H.lots.length).map fun i=>.ref (loc (.lot i)))):=h.get (k:=.ul) rfl
theorem lot_at (h:HeapAt a.c σ loc H) {i:Nat} {l:List Nat} (e:H.lots[i]? = some l):σ (loc (.lot i))=some (nats l):=h.get (k:=.lot i) (by show H.lots[i]?.map nats=_;rw [e];rfl)
theorem P2_lot {value slice:Expr} (h:HeapAt a.c σ loc H) (hz:H.lots.length≤1000000) {i:Nat} (hi:i<H.lots.length) (q:Q (.ref (loc (.lot i))) σ)
  (hs:∀ (a:Addr) t,subscripted slice false (.ref a) (.int (i:Nat) t)=operate [.ref a,.int (i:Nat) t] (getItem (.ref a) (.int (i:Nat) t))) (hg:NoGo value) :
  P2 cx n σ (subscriptTail value slice) (.ref (loc .ul)) (.int (i:Nat)) Q:=
 P2_item (lots_at h) rfl (Int.natCast_nonneg _) (by simpa using hz) (by rw [Int.toNat_natCast,List.getElem?_map,List.getElem?_range hi];rfl) q hs hg
theorem U_members (P:Px cx a) (h:HeapAt a.c σ loc H) (hd:Down H.par) (hz:H.par.length≤1000000) (hlots:H.lots.length=H.par.length) {b:Nat} (hb:b<H.par.length) {l:List Nat} (hl:H.lots[rt H.par b]? = some l) (h64:l.length<64)
  (q:∀ out:List Nat,out.Perm l→Q (nats out) σ):Cc cx (n+2) σ (.ref a.unions_members) [uV a loc,.int b] Q:=by
 refine P.unions_members.go rfl ?_
 conv=>arg 6;whnf
 have hr:rt H.par b<H.lots.length:=hlots▸Nat.lt_of_le_of_lt (rt_le hd b) hb
 exact Exs_ret (Ev_b P.g_sorted (.cons (Ev_sb (EvIs_at (EvIs_loc rfl) (fl_ulots h) P.unions_a_lots) (Ev_m (EvIs_loc rfl) (can_u h P.unions_find_m) (.cons (EvIs_loc rfl) .nil) (U_find P h hd hz hb)) (P2_lot (hs:=by intro _ _;with_unfolding_all rfl) (hg:=by exact trivial) h (hlots▸hz) hr .rfl)) .nil) (Cl_sortedN (lot_at h hl) h64 fun ns hp o_=>q ns hp))
end
noncomputable def HS.made (H:HS):HS:={ H with par:=H.par++[H.par.length],lots:=H.lots++[[H.lots.length]] }
noncomputable def HS.merged (H:HS) (lo hi:Nat):HS:={ H with par:=H.par.set hi lo,lots:=H.lots.set lo (H.lots.getD lo []++H.lots.getD hi []),ms:=H.ms++[.tup [.int (lo:Nat),.int (hi:Nat)]] }
noncomputable def HS.sPar (H:HS) (p:List Nat):HS:={ H with par:=p }
noncomputable def HS.sMs (H:HS) (p:List V):HS:={ H with ms:=p }
noncomputable def HS.sLots (H:HS) (p:List (List Nat)):HS:={ H with lots:=p }
noncomputable def HS.sNums (H:HS) (p:List (Nd×Nat)):HS:={ H with nums:=p }
noncomputable def HS.sNodes (H:HS) (p:List Nd):HS:={ H with nodes:=p }
noncomputable def HS.sWs (H:HS) (p:List V):HS:={ H with ws:=p }
noncomputable def HS.sDs (H:HS) (p:List V):HS:={ H with ds:=p }
noncomputable def HS.sEs (H:HS) (p:List V):HS:={ H with es:=p }
noncomputable def HS.sFs (H:HS) (p:List V):HS:={ H with fs:=p }
noncomputable def HS.sKnown (H:HS) (p:List (Nd×Nat)):HS:={ H with known:=p }
noncomputable def HS.sAb (H:HS) (p:List (Nat×List Nat)):HS:={ H with ab:=p }
noncomputable def HS.sWait (H:HS) (p:List Nat):HS:={ H with wait:=p }
theorem perm_two {l:List Nat} {x y:Nat} (h:l.Perm [x,y]) (hs:l.Pairwise (·≤·)):l=[min x y,max x y]:=by
 have sorted2:∀ {u v:Nat},List.Perm l [u,v]→u≤v→l=[u,v]:=fun {u v} hp huv=>
  hp.eq_of_pairwise (le:=(·≤·)) (fun a b o_ o_ h1 h2=>Nat.le_antisymm h1 h2) hs (List.Pairwise.cons (fun a ha=>by rw [List.mem_singleton.mp ha];exact huv) (List.pairwise_singleton _ _))
 rcases Nat.le_total x y with q|q
 ·rw [Nat.min_eq_left q,Nat.max_eq_right q];exact sorted2 h q
 ·rw [Nat.min_eq_right q,Nat.max_eq_left q];exact sorted2 (h.trans (List.Perm.swap _ _ _)) q
section
variable {cx:Cx} {a:Ads} {n:Nat} {σ:Store} {Q:V→Store→Prop} {loc:Slot→Addr} {H:HS}
theorem mv_par {c:Cs} (h:HeapAt c σ loc H) (p:List Nat):Mv c σ loc H (σ.set (loc .ua) (nats p)) loc (H.sPar p):=Mv.set h (k:=.ua) (v:=nats H.par) rfl fun k'=>by cases k' <;> rfl
theorem mv_ms {c:Cs} (h:HeapAt c σ loc H) (p:List V):Mv c σ loc H (σ.set (loc .um) (.lst p)) loc (H.sMs p):=Mv.set h (k:=.um) (v:=.lst H.ms) rfl fun k'=>by cases k' <;> rfl
set_option tactic.hygienic true in
theorem mv_lot {c:Cs} (h:HeapAt c σ loc H) {i:Nat} (hi:i<H.lots.length) (p:List Nat):Mv c σ loc H (σ.set (loc (.lot i)) (nats p)) loc (H.sLots (H.lots.set i p)):=
 Mv.set h (k:=.lot i) (v:=nats (H.lots.getD i [])) (by show H.lots[i]?.map nats=_;rw [getD_at [] hi];rfl) fun k'=>by
  cases k' <;> (try rfl)
  ·show some (V.lst ((List.range (H.lots.set i p).length).map _))=some (V.lst _)
   rw [List.length_set]
  ·rename_i j
   show (H.lots.set i p)[j]?.map nats=if Slot.lot j=Slot.lot i then _ else H.lots[j]?.map nats
   by_cases e:j=i
   ·subst e;rw [if_pos rfl,List.getElem?_set_self hi];rfl
   ·rw [if_neg (fun z=>e (by injection z)),List.getElem?_set_ne (Ne.symm e)]
set_option tactic.hygienic true in
theorem mv_newlot {c:Cs} (h:HeapAt c σ loc H) {x:Addr} (hx:σ x=none) (p:List Nat) :
  Mv c σ loc H ((σ.set x (nats p)).set (loc .ul) (.lst (((List.range H.lots.length).map fun i=>.ref (loc (.lot i)))++[.ref x]))) (locPut loc (.lot H.lots.length) x) (H.sLots (H.lots++[p])):=by
 refine Mv.grow h (k:=.lot H.lots.length) (k2:=.ul) hx rfl (fun e=>by contradiction) (fun k'=>?_) ⟨(fun e=>by contradiction),(fun e=>by contradiction),(fun e=>by contradiction)⟩
 cases k' <;> (try rfl)
 ·show some (V.lst ((List.range (H.lots++[p]).length).map _))=some (V.lst _)
  rw [List.length_append,List.length_singleton,List.range_succ,List.map_append]
  refine congrArg some (congrArg V.lst (congr (congrArg _ (List.map_congr_left fun i hi=>?_)) ?_))
  ·show V.ref (if Slot.lot i=Slot.lot H.lots.length then x else _)=_
   rw [if_neg (fun e=>Nat.ne_of_lt (List.mem_range.mp hi) (by injection e))]
  ·show [V.ref (if Slot.lot H.lots.length=Slot.lot H.lots.length then x else _)]=_
   rw [if_pos rfl]
 ·rename_i i
  show (H.lots++[p])[i]?.map nats=if Slot.lot i=Slot.lot H.lots.length then _ else H.lots[i]?.map nats
  by_cases e:i=H.lots.length
  ·subst e;rw [if_pos rfl,List.getElem?_append_right (Nat.le_refl _),Nat.sub_self];rfl
  ·rw [if_neg (fun z=>e (by injection z))]
   rcases Nat.lt_or_ge i H.lots.length with z|z
   ·rw [List.getElem?_append_left z]
   ·have:H.lots.length<i:=Nat.lt_of_le_of_ne z (Ne.symm e)
    rw [List.getElem?_eq_none z,List.getElem?_eq_none (by rw [List.length_append];exact this)]
theorem Store.set_ne {x y:Addr} (v:V) (h:y≠x):(σ.set x v) y=σ y:=by simp [Store.set,h]
theorem U_make (P:Px cx a) (h:HeapAt a.c σ loc H) (hz:H.par.length≤9999) (hz2:H.lots.length≤9999)
  (q:∀ σ' loc',Mv a.c σ loc H σ' loc' H.made→Q (.int (H.par.length:Nat)) σ'):Cc cx (n+1) σ (.ref a.unions_make) [uV a loc] Q:=by
 refine P.unions_make.go rfl ?_
 conv=>arg 6;whnf
 have hua:lk σ (.ref (loc .ua))=some (nats H.par):=h.get (k:=.ua) rfl
 have z1:H.par.length≤999999:=Nat.le_trans hz (by decide)
 refine Exs_expr (Ev_bm (EvIs_at (EvIs_loc rfl) (fl_uabove h) P.unions_a_above) (Mt_append hua) (.cons (Ev_b P.g_len (.cons (EvIs_at (EvIs_loc rfl) (fl_uabove h) P.unions_a_above) .nil) (Cl_lenN hua (Nat.le_succ_of_le z1) .rfl)) .nil) (Cl_appendN hua z1 ⟨rfl,?_⟩))
 have m1:=mv_par h (H.par++[H.par.length])
 generalize σ.set (loc .ua) (nats (H.par++[H.par.length]))=σ₁ at m1 ⊢
 have h1:=m1.at_
 have hul:=lots_at h1
 have z2:((List.range H.lots.length).map fun i=>V.ref (loc (.lot i))).length≤999999:=by rw [List.length_map,List.length_range];exact Nat.le_trans hz2 (by decide)
 refine Exs_expr (Ev_meth ((EvIs_at (EvIs_loc rfl) (fl_ulots h1) P.unions_a_lots).ev ⟨_,Mt_append hul,keeps_builtin _,⟨rfl,Ev_list ⟨rfl,Ev_b P.g_len (.cons (EvIs_at (EvIs_loc rfl) (fl_ulots h1) P.unions_a_lots) .nil) (Cl_len hul rfl (Nat.le_succ_of_le z2) ⟨Nat.le_of_ble_eq_true rfl,fun x hx=>?_⟩)⟩⟩⟩))
 rw [List.length_map,List.length_range]
 have hne:loc .ul≠x:=fun e=>by rw [← e] at hx;rw [show σ₁ (loc .ul)=_ from hul] at hx;contradiction
 refine Cl_append ((Store.set_ne _ hne).trans hul) z2 ⟨rfl,?_⟩
 have m2:Mv a.c σ₁ loc (H.sPar (H.par++[H.par.length])) ((σ₁.set x (nats [H.lots.length])).set (loc .ul) (.lst (((List.range H.lots.length).map fun i=>.ref (loc (.lot i)))++[.ref x]))) (locPut loc (.lot H.lots.length) x) H.made:=mv_newlot h1 hx [H.lots.length]
 have m:=m1.trans m2
 show Exs cx n _ _ ((σ₁.set x (nats [H.lots.length])).set (loc .ul) (.lst (((List.range H.lots.length).map fun i=>.ref (loc (.lot i)))++[.ref x]))) _ _
 clear m1 m2 hul hne hx h1
 revert m
 generalize (σ₁.set x (nats [H.lots.length])).set (loc .ul) (.lst (((List.range H.lots.length).map fun i=>.ref (loc (.lot i)))++[.ref x]))=σ₂
 intro m
 have h2:=m.at_
 have hua2:lk σ₂ (.ref ((locPut loc (.lot H.lots.length) x) .ua))=some (nats (H.par++[H.par.length])):=h2.get (k:=.ua) rfl
 have q':=q σ₂ _ m
 have f2:=fl_uabove h2
 clear q
 refine Exs_ret (Ev_bn (Ev_b P.g_len (.cons (EvIs_at (EvIs_loc rfl) f2 P.unions_a_above) .nil) (Cl_lenN hua2 (by rw [List.length_append];exact Nat.succ_le_succ z1) .rfl)) EvIs_int (P2_sub ?_))
 rw [show (((H.par++[H.par.length]).length:Nat):Int) - 1=(H.par.length:Nat) by rw [List.length_append];exact Int.add_sub_cancel (H.par.length:Int) 1]
 exact q'
theorem U_merge (P:Px cx a) (h:HeapAt a.c σ loc H) (hd:Down H.par) (hz:H.par.length≤9999) (hlots:H.lots.length=H.par.length) (hms:H.ms.length≤9999) (hls:∀ (r:Nat) (l:List Nat),H.par[r]? = some r→H.lots[r]? = some l→l.length≤9999) {b c:Nat} (hb:b<H.par.length) (hc:c<H.par.length)
  (hr:∀ b<H.par.length,H.par[rt H.par b]? = some (rt H.par b))
  (q0:rt H.par b=rt H.par c→Q .none σ)
  (q1:∀ lo hi,lo<hi→(lo=rt H.par b∧hi=rt H.par c∨lo=rt H.par c∧hi=rt H.par b)→∀ σ',Mv a.c σ loc H σ' loc (H.merged lo hi)→Q (.tup [.int (lo:Nat),.int (hi:Nat)]) σ') :
  Cc cx (n+2) σ (.ref a.unions_merge) [uV a loc,.int b,.int c] Q:=by
 refine P.unions_merge.go rfl ?_
 conv=>arg 6;whnf
 have z0:H.par.length≤1000000:=Nat.le_trans hz (by decide)
 refine Exs_cons (Ex_tuple (Ev_b P.g_sorted (.cons (EvIs_lst (.cons (Ev_m (EvIs_loc rfl) (can_u h P.unions_find_m) (.cons (EvIs_loc rfl) .nil) (U_find P h hd z0 hb)) (.cons (Ev_m (EvIs_loc rfl) (can_u h P.unions_find_m) (.cons (EvIs_loc rfl) .nil) (U_find P h hd z0 hc)) .nil))) .nil) (Cl_sortedN (l:=[rt H.par b,rt H.par c]) rfl (Nat.le_of_ble_eq_true rfl) fun out hp hs=>?_)) (hw:=by intro _ _;rfl))
 have ho:=perm_two hp hs
 subst ho
 clear hp hs
 obtain ⟨lo,hi,elo,ehi,hle,hor,q0'⟩:∃ lo hi,min (rt H.par b) (rt H.par c)=lo∧max (rt H.par b) (rt H.par c)=hi∧lo≤hi∧(lo=rt H.par b∧hi=rt H.par c∨lo=rt H.par c∧hi=rt H.par b)∧(lo=hi→rt H.par b=rt H.par c):=by
  rcases Nat.le_total (rt H.par b) (rt H.par c) with z|z
  ·exact ⟨_,_,Nat.min_eq_left z,Nat.max_eq_right z,z,.inl ⟨rfl,rfl⟩,id⟩
  ·exact ⟨_,_,Nat.min_eq_right z,Nat.max_eq_left z,z,.inr ⟨rfl,rfl⟩,Eq.symm⟩
 rw [elo,ehi]
 have hlo:H.par[lo]? = some lo∧lo<H.par.length:=by
  rcases hor with ⟨e,_⟩|⟨e,_⟩ <;> subst e
  ·exact ⟨hr b hb,Nat.lt_of_le_of_lt (rt_le hd b) hb⟩
  ·exact ⟨hr c hc,Nat.lt_of_le_of_lt (rt_le hd c) hc⟩
 have hhi:H.par[hi]? = some hi∧hi<H.par.length:=by
  rcases hor with ⟨_,e⟩|⟨_,e⟩ <;> subst e
  ·exact ⟨hr c hc,Nat.lt_of_le_of_lt (rt_le hd c) hc⟩
  ·exact ⟨hr b hb,Nat.lt_of_le_of_lt (rt_le hd b) hb⟩
 have q1':=fun z=>q1 lo hi z hor
 have q0'':=fun z=>q0 (q0' z)
 clear q0 q1 elo ehi hor hr q0'
 refine As_tuple (l:=[.int (lo:Nat),.int (hi:Nat)]) rfl rfl rfl ⟨rfl,As_name (.inl (by rfl)) ⟨rfl,As_name (.inl (by rfl)) ?_⟩⟩
 generalize hΓ:upd (upd (argsOf ["self", "a", "b"] [uV a loc,V.int b,V.int c]) "kept" (V.int lo)) "gone" (V.int hi)=Γ
 have g0:Γ ("self" : Str)=some (uV a loc):=by subst hΓ;rfl
 have g1:Γ ("kept" : Str)=some (.int lo):=by subst hΓ;rfl
 have g2:Γ ("gone" : Str)=some (.int hi):=by subst hΓ;rfl
 clear hΓ
 refine Exs_if (Te_cm (EvIs_loc g1) (EvIs_loc g2) (P2_eqi (.of ⟨rfl,rfl⟩))) (fun e=>?_) fun e=>?_
 ·exact Exs_ret (EvIs_none.ev (q0'' (Int.ofNat_inj.mp (by exact of_decide_eq_true e))))
 have hlt:lo<hi:=Nat.lt_of_le_of_ne hle fun z=>by subst z;simp at e
 refine Exs_nil ?_
 clear e hle q0''
 have l1:lo<H.lots.length:=hlots▸hlo.2
 have l2:hi<H.lots.length:=hlots▸hhi.2
 have hl1:=getD_at [] l1
 have hl2:=getD_at [] l2
 have hz1:=hls _ _ hlo.1 hl1
 have hz2:=hls _ _ hhi.1 hl2
 have zl:H.lots.length≤1000000:=hlots▸z0
 refine Exs_cons (Ex_sub ((EvIs_loc g1).ev ((EvIs_at (EvIs_loc g0) (fl_uabove h) P.unions_a_above).ev ((EvIs_loc g2).ev ⟨_,PS_L (l:=H.par.map fun (k:Nat)=>V.int k) (k:=(hi:Int)) (h.get (k:=.ua) rfl) (Int.natCast_nonneg _) (by rw [List.length_map];exact Int.ofNat_lt.mpr hhi.2) (by rw [List.length_map];exact z0),?_⟩))))
 rw [show (V.lst ((H.par.map fun (k:Nat)=>V.int k).set (hi:Int).toNat (V.int (lo:Nat))))=nats (H.par.set hi lo) by rw [Int.toNat_natCast];exact congrArg V.lst List.map_set.symm]
 have m1:=mv_par h (H.par.set hi lo)
 skip
 generalize σ.set (loc .ua) (nats (H.par.set hi lo))=σ₁ at m1 ⊢
 have h1:=m1.at_
 refine Exs_expr (Ev_bm (Ev_sb (EvIs_at (EvIs_loc g0) (fl_ulots h1) P.unions_a_lots) (EvIs_loc g1) (P2_lot (hs:=by intro _ _;with_unfolding_all rfl) (hg:=by exact trivial) h1 zl l1 .rfl)) (Mt_extend (lot_at h1 hl1)) (.cons (Ev_sb (EvIs_at (EvIs_loc g0) (fl_ulots h1) P.unions_a_lots) (EvIs_loc g2) (P2_lot (hs:=by intro _ _;with_unfolding_all rfl) (hg:=by exact trivial) h1 zl l2 .rfl)) .nil)
  (Cl_extendN (lot_at h1 hl1) (lot_at h1 hl2) (Nat.le_trans (Nat.add_le_add hz1 hz2) (by decide)) ⟨rfl,?_⟩))
 have m2:=m1.trans (mv_lot h1 l1 (H.lots.getD lo []++H.lots.getD hi []))
 generalize σ₁.set (loc (.lot lo)) (nats (H.lots.getD lo []++H.lots.getD hi []))=σ₂ at m2 ⊢
 have h2:=m2.at_
 have hum:lk σ₂ (.ref (loc .um))=some (.lst H.ms):=h2.get (k:=.um) rfl
 refine Exs_expr (Ev_bm (EvIs_at (EvIs_loc g0) (fl_umerged h2) P.unions_a_merged) (Mt_append hum) (.cons (EvIs_tup (.cons (EvIs_loc g1) (.cons (EvIs_loc g2) .nil))) .nil) (Cl_append hum (Nat.le_trans hms (by decide)) ⟨rfl,?_⟩))
 exact Exs_ret ((EvIs_tup (.cons (EvIs_loc g1) (.cons (EvIs_loc g2) .nil))).ev (q1' hlt _ (m2.trans (mv_ms h2 _))))
end
noncomputable def opOk (x:Str):Prop:=∃ c∈[97,98,99,102,103],x=⟨#[c]⟩
noncomputable def vi (l:List Nat):List V:=l.map fun (k:Nat)=>V.int k
theorem vi_len (l:List Nat):(vi l).length=l.length:=List.length_map _
theorem T_nd (d:Nd):T d.at=.tup (.str d.op::vi d.kids):=by
 show V.tup (.str d.op::(d.kids.map fun (k:Nat)=>At.i (k:Int)).map At.v)=_
 rw [List.map_map];rfl
theorem mem_vi {l:List Nat} {v:V} (h:v∈vi l):∃ k∈l,v=.int (k:Nat):=by obtain ⟨k,h1,rfl⟩:=List.mem_map.mp h;exact ⟨k,h1,rfl⟩
theorem numsOf_keys (l:List Nd):(numsOf l).map (·.1)=l:=List.zipIdx_map_fst _ _
theorem ag_zip {l:List Nd} {d:Nd} {i k:Nat} (h:ag (l.zipIdx k) d=some i):k≤i∧l[i - k]? = some d:=by
 have:=ag_mem h
 rw [List.mem_zipIdx_iff_le_and_getElem?_sub] at this
 exact this
theorem ag_nums {l:List Nd} {d:Nd} {i:Nat} (h:ag (numsOf l) d=some i):l[i]? = some d:=(ag_zip h).2
theorem ag_nums_none {l:List Nd} {d:Nd}:ag (numsOf l) d=none↔d∉l:=by rw [ag_none,numsOf_keys]
theorem nums_snoc (l:List Nd) (d:Nd):numsOf (l++[d])=numsOf l++[(d,l.length)]:=by simp [numsOf,List.zipIdx_append]
noncomputable def HS.taken (H:HS) (d:Nd) (w e:Int):HS:={ H with nodes:=H.nodes++[d],nums:=H.nums++[(d,H.nodes.length)],ws:=H.ws++[.int w],ds:=H.ds++[.int e] }
section
variable {cx:Cx} {a:Ads} {n:Nat} {sc csc:Scope} {Γ:Str→Option V} {σ:Store} {Q:V→Store→Prop} {loc:Slot→Addr} {H:HS}
theorem Cl_isspace {x:Str} (q:Q (.bool (Txt.isspace x)) σ):Cl cx n σ (.builtin "str.isspace") [.str x] Q:=fun B A s xs rd X r=>by
 obtain ⟨x,_,rfl,hx,rfl⟩:=r
 obtain ⟨t,rfl⟩:=of_str hx
 exact SC.isspace (out_here X (rp_bool _) q)
theorem is_op_ok (P:Px cx a) {x:Str} (hx:opOk x):CcIs cx (n+1) σ (.ref a.f_is_op) [.str x] (.bool true):=by
 refine P.f_is_op.go rfl ?_
 conv=>arg 6;whnf
 obtain ⟨c,hc,rfl⟩:=hx
 have h1:Txt.isspace ⟨#[c]⟩=false:=by revert c;decide +kernel
 have h2:(Builtin.Str.occurrences "()[]{},:" ⟨#[c]⟩ 0 (("()[]{},:" : Str).length) 1).isEmpty=true:=by clear h1;revert c;decide +kernel
 have h3:(⟨#[c]⟩:Str) ≠ "":=fun e=>by have:(1:Nat)=0:=congrArg (fun s:Str=>s.cps.size) e;contradiction
 refine Exs_ret (Ev_and2 (Ev_cm (EvIs_loc rfl) EvIs_str (P2_nes ⟨true,by rw [decide_eq_false h3];rfl,fun e=>Bool.noConfusion e,fun o_=>?_⟩)))
 refine Ev_cmp (hm:=by with_unfolding_all rfl) (Ev_comp (by decide +kernel) (by rfl) (EvI_str ((EvIs_loc rfl).ev ⟨_,rfl,_,Turns_filter id (fun o_=>false) (Nat.le_of_ble_eq_true rfl) (fun v hv=>?_) (fun v hv hp=>Bool.noConfusion hp),.inl ?_⟩)))
 ·obtain ⟨d,hd,rfl⟩:=List.mem_map.mp hv
  have:d=c:=List.mem_singleton.mp hd
  subst this
  refine Te_or (Te_plain (Ev_bm (EvIs_loc rfl) Mt_isspace .nil (Cl_isspace (PT_bool ⟨fun e=>?_,fun o_=>?_⟩))))
  ·rw [h1] at e;contradiction
  ·exact Te_or (Te_cm (EvIs_loc rfl) EvIs_str (P2_ins (.of ⟨fun e=>(by rw [h2] at e;contradiction),fun o_=>Te_or_nil ⟨rfl,rfl⟩⟩)))
 ·refine Ev_list_fz ⟨Nat.le_of_ble_eq_true rfl,P2_eq rfl rfl (Nat.le_of_ble_eq_true rfl) fun b hb=>?_⟩
  have:b=true:=hb.mpr rfl
  subst this
  exact .rfl
theorem B_require (P:Px cx a) {d:V} {x:Str} (hx:opOk x):CcIs cx (n+2) σ (.ref a.bank_require) [d,.str x] .none:=by
 refine P.bank_require.go rfl ?_
 conv=>arg 6;whnf
 refine Exs_if (b:=false) (Te_or (Te_not (Te_plain (Ev_c P.f_is_op_g P.f_is_op_k (.cons (EvIs_loc rfl) .nil) ((is_op_ok P hx).cc (PT_bool ⟨fun e=>Bool.noConfusion e,fun o_=>?_⟩)))))) (fun e=>Bool.noConfusion e) fun o_=>Exs_nil (Exs_nil .rfl)
 obtain ⟨c,hc,rfl⟩:=hx
 have h3:(⟨#[c]⟩:Str) ≠ "?":=by
  intro e;have:=congrArg (fun s:Str=>s.cps.toList) e
  revert c;decide +kernel
 refine Te_or (Te_cm (Ev_sb (EvIs_loc rfl) EvIs_int (P2_sign (hs:=by intro _ _;with_unfolding_all rfl) (hg:=by exact trivial) (c:=c) (by decide) rfl .rfl)) EvIs_str (P2_eqs (.of ⟨fun e=>?_,fun o_=>Te_or_nil ⟨rfl,rfl⟩⟩)))
 rw [decide_eq_false h3] at e;contradiction
theorem P2_cons {op:Str} {l:List Nat} (hz:l.length≤999999) (q:Q (T (Nd.at ⟨op,l⟩)) σ):P2 cx n σ (binaryOp .Add) (.tup [.str op]) (.tup (vi l)) Q:=by
 rw [T_nd] at q
 rcases l with _|⟨k,r⟩
 ·exact P2_addT0 (fun e=>by contradiction) q
 ·exact P2_addT (fun e=>by contradiction) (fun e=>by contradiction) (by rw [vi_len];show 1+_≤_;rw [Nat.add_comm];exact Nat.succ_le_succ hz) q
theorem int_at {l:List V} (hi:∀ u∈l,isInt u) {k:Nat} (hk:k<l.length):∃ i,l[k]? = some (.int i):=by
 obtain ⟨i,h⟩:=isInt_of (hi _ (List.getElem_mem hk))
 exact ⟨i,by rw [List.getElem?_eq_getElem hk,h]⟩
theorem B_size (P:Px cx a) (h:HeapAt a.c σ loc H) (hz:H.nodes.length≤1000000):CcIs cx (n+1) σ (.ref a.bank_size) [bV a loc] (.int (H.nodes.length:Nat)):=by
 refine P.bank_size.go rfl ?_
 conv=>arg 6;whnf
 refine Exs_ret (Ev_b P.g_len (.cons (EvIs_at (EvIs_loc rfl) (fl_nodes h) P.bank_a_nodes) .nil) (Cl_len (l:=H.nodes.map fun d=>T d.at) (h.get (k:=.bn) rfl) rfl (by rw [List.length_map];exact hz) ?_))
 rw [List.length_map];exact .rfl
theorem node_item {value slice:Expr} (h:HeapAt a.c σ loc H) (hz:H.nodes.length≤1000000) {k:Nat} {d:Nd} (hk:H.nodes[k]? = some d) (q:Q (T d.at) σ)
  (hs:∀ (a:Addr) t,subscripted slice false (.ref a) (.int (k:Nat) t)=operate [.ref a,.int (k:Nat) t] (getItem (.ref a) (.int (k:Nat) t))) (hg:NoGo value) :
  P2 cx n σ (subscriptTail value slice) (.ref (loc .bn)) (.int (k:Nat)) Q:=
 P2_item (l:=H.nodes.map fun d=>T d.at) (k:=(k:Int)) (h.get (k:=.bn) rfl) rfl (Int.natCast_nonneg _) (by rw [List.length_map];exact hz) (by rw [Int.toNat_natCast,List.getElem?_map,hk];rfl) q hs hg
theorem P2_op {value slice:Expr} {d:Nd} (hz:d.kids.length≤999999) (q:Q (.str d.op) σ) (hs:∀ (a:Addr) t,subscripted slice false (.ref a) (.int ((0:Nat):Int) t)=operate [.ref a,.int ((0:Nat):Int) t] (getItem (.ref a) (.int ((0:Nat):Int) t)):=by intro _ _;with_unfolding_all rfl) (hg:NoGo value:=by exact trivial) :
  P2 cx n σ (subscriptTail value slice) (T d.at) (.int 0) Q:=by
 rw [T_nd]
 exact P2_item (c:=.tup (.str d.op::vi d.kids)) (k:=0) rfl rfl (Int.le_refl 0) (by rw [List.length_cons,vi_len];exact Nat.succ_le_succ hz) rfl q hs hg
theorem Ev_kids {value:Expr} {k:Nat} {p p2 pos:Pos} {d:Nd} (h:EvIs cx n sc Γ σ value (T d.at)) (hz:d.kids.length≤999999):EvIs cx n sc Γ σ (.Subscript value (.Slice (some (.Constant (.int 1) k p2)) none none p) pos) (.tup (vi d.kids)):=
 Ev_from1 (h.ev (by rw [T_nd];exact ⟨_,_,rfl,by rw [vi_len];exact hz,.rfl⟩))
theorem B_op (P:Px cx a) (h:HeapAt a.c σ loc H) (hz:H.nodes.length≤1000000) {k:Nat} {d:Nd} (hk:H.nodes[k]? = some d) (hd:d.kids.length≤999999):CcIs cx (n+1) σ (.ref a.bank_op) [bV a loc,.int (k:Nat)] (.str d.op):=by
 refine P.bank_op.go rfl ?_
 conv=>arg 6;whnf
 exact Exs_ret (Ev_sb (Ev_sb (EvIs_at (EvIs_loc rfl) (fl_nodes h) P.bank_a_nodes) (EvIs_loc rfl) (node_item (hs:=by intro _ _;with_unfolding_all rfl) (hg:=by exact trivial) h hz hk .rfl)) EvIs_int (P2_op hd .rfl))
theorem B_kids (P:Px cx a) (h:HeapAt a.c σ loc H) (hz:H.nodes.length≤1000000) {k:Nat} {d:Nd} (hk:H.nodes[k]? = some d) (hd:d.kids.length≤999999):CcIs cx (n+1) σ (.ref a.bank_kids) [bV a loc,.int (k:Nat)] (.tup (vi d.kids)):=by
 refine P.bank_kids.go rfl ?_
 conv=>arg 6;whnf
 exact Exs_ret (Ev_kids (Ev_sb (EvIs_at (EvIs_loc rfl) (fl_nodes h) P.bank_a_nodes) (EvIs_loc rfl) (node_item (hs:=by intro _ _;with_unfolding_all rfl) (hg:=by exact trivial) h hz hk .rfl)) hd)
end
theorem dget_encN (l:List (Nd×Nat)) (d:Nd):dget (encN l) d.at=(ag l d).map fun (k:Nat)=>V.int k:=dget_enc Nd.at (fun o_ o_=>Nd.at_inj) (fun (k:Nat)=>V.int k) d l
theorem dput_encN {l:List (Nd×Nat)} (hn:(l.map (·.1)).Nodup) (d:Nd) (k:Nat):dput (encN l) d.at (V.int k)=encN (ap l d k):=dput_enc Nd.at (fun o_ o_=>Nd.at_inj) (fun (k:Nat)=>V.int k) d k hn
theorem encN_len (l:List (Nd×Nat)):(encN l).length=l.length:=List.length_map _
section
variable {cx:Cx} {a:Ads} {n:Nat} {sc csc:Scope} {Γ:Str→Option V} {σ:Store} {Q:V→Store→Prop} {loc:Slot→Addr} {H:HS}
theorem mv_nums {c:Cs} (h:HeapAt c σ loc H) (p:List (Nd×Nat)):Mv c σ loc H (σ.set (loc .bm) (.dT (encN p))) loc (H.sNums p):=Mv.set h (k:=.bm) (v:=.dT (encN H.nums)) rfl fun k'=>by cases k' <;> rfl
theorem mv_nodes {c:Cs} (h:HeapAt c σ loc H) (p:List Nd):Mv c σ loc H (σ.set (loc .bn) (.lst (p.map fun d=>T d.at))) loc (H.sNodes p):=Mv.set h (k:=.bn) (v:=.lst (H.nodes.map fun d=>T d.at)) rfl fun k'=>by cases k' <;> rfl
theorem mv_ws {c:Cs} (h:HeapAt c σ loc H) (p:List V):Mv c σ loc H (σ.set (loc .bw) (.lst p)) loc (H.sWs p):=Mv.set h (k:=.bw) (v:=.lst H.ws) rfl fun k'=>by cases k' <;> rfl
theorem mv_ds {c:Cs} (h:HeapAt c σ loc H) (p:List V):Mv c σ loc H (σ.set (loc .bd) (.lst p)) loc (H.sDs p):=Mv.set h (k:=.bd) (v:=.lst H.ds) rfl fun k'=>by cases k' <;> rfl
noncomputable def IntP (σ:Store) (v:V) (σ':Store):Prop:=isInt v∧σ'=σ
noncomputable abbrev EvInt (cx:Cx) (n:Nat) (sc:Scope) (Γ:Str→Option V) (σ:Store) (e:Expr):Prop:=Ev cx n sc Γ σ e (IntP σ)
noncomputable def IntsP (k:Nat) (σ:Store) (v:V) (σ':Store):Prop:=∃ us,v=.lst us∧us.length=k∧(∀ u∈us,isInt u)∧σ'=σ
theorem EvInt.ev {e:Expr} (h:EvInt cx n sc Γ σ e) (q:∀ i:Int,Q (.int i) σ):Ev cx n sc Γ σ e Q:=h.mono fun v o_ e=>by
 obtain ⟨i,rfl⟩:=isInt_of e.1
 obtain ⟨_,rfl⟩:=e
 exact q i
theorem EvInt_add1 {r:Expr} {k:Nat} {p pos:Pos} {i:Int} (h:EvInt cx n sc Γ σ r):EvInt cx n sc Γ σ (.BinOp (.Constant (.int i) k p) .Add r pos):=Ev_bin (EvIs_int.ev (h.ev fun o_=>P2_add ⟨trivial,rfl⟩))
theorem ints_at {x:Str} {px pos:Pos} {elt value:Expr} {k:Nat} {p p2 pos2:Pos} {d:Nd} (hok:compOk csc sc=true) (hx:csc.names.lookup x=some .local) (h:EvIs cx n sc Γ σ value (T d.at)) (hz:d.kids.length≤999999)
  (he:∀ k∈d.kids,∃ i:Int,EvIs cx n (relabel' csc sc) (upd (capΓ csc Γ) x (.int (k:Nat))) σ elt (.int i)) :
  Ev cx n sc Γ σ (.ListComp elt [⟨.Name x px,.Subscript value (.Slice (some (.Constant (.int 1) k p2)) none none p) pos2,[],0⟩] csc pos) (IntsP d.kids.length σ):=by
 refine Ev_comp hok hx (EvI_seq ((Ev_kids h hz).ev ⟨_,rfl,_,Turns_map (fun v=>V.int (Classical.epsilon fun i:Int=>EvIs cx n (relabel' csc sc) (upd (capΓ csc Γ) x v) σ elt (.int i))) (by rw [vi_len];exact Nat.le_succ_of_le hz) (fun v hv=>?_),.inl ⟨_,rfl,(by rw [List.length_map,vi_len]),fun u hu=>?_,rfl⟩⟩))
 ·obtain ⟨k,hk,rfl⟩:=mem_vi hv
  exact Classical.epsilon_spec (he k hk)
 ·obtain ⟨v,_,rfl⟩:=List.mem_map.mp hu
  trivial
theorem EvInt_sum {fp pos:Pos} {e:Expr} {k:Nat} (P:Px cx a) (h:Ev cx n sc Γ σ e (IntsP k σ)) (hk:sc.names.lookup ("sum" : Str)=some .globalImplicit) (hs:notStar e=true):EvInt cx n sc Γ σ (.Call (.Name "sum" fp) [e] [] pos):=
 Ev_call hk P.g_sum (keeps_builtin _) ⟨hs,h.mono fun v o_ e=>by obtain ⟨us,rfl,_,hi,rfl⟩:=e;exact Cl_sum rfl hi fun o_=>⟨trivial,rfl⟩⟩ (by rw [List.all_cons,hs];rfl)
theorem EvInt_max0 {fp pos p1 p2 p3:Pos} {e:Expr} {k k2:Nat} (P:Px cx a) (h:Ev cx n sc Γ σ e (IntsP k σ)) (hz:k≤999999) (hk:sc.names.lookup ("max" : Str)=some .globalImplicit) :
  EvInt cx n sc Γ σ (.Call (.Name "max" fp) [.BinOp e .Add (.List [.Constant (.int 0) k2 p3] p2) p1] [] pos):=
 Ev_call hk P.g_max (keeps_builtin _) ⟨rfl,Ev_bin (h.mono fun v o_ e=>by
  obtain ⟨us,rfl,hl,hi,rfl⟩:=e
  refine (EvIs_lst (.cons EvIs_int .nil)).ev (P2_addL rfl rfl (by rw [hl];exact Nat.succ_le_succ hz) (.inl (Cl_max rfl (fun u hu=>?_) (fun e=>nomatch (List.append_eq_nil_iff.mp e).2) fun o_=>⟨trivial,rfl⟩)))
  rcases List.mem_append.mp hu with hu|hu
  ·exact hi u hu
  ·rw [List.mem_singleton.mp hu];trivial)⟩
theorem Ev_bmi {o e:Expr} {name:Str} {apos pos:Pos} {v:V} {f:String} {pl:Env→Sem Bool} (ho:EvIs cx n sc Γ σ o v) (c:Mt cx σ v name (.builtin f)) (ha:EvInt cx n sc Γ σ e) (q:∀ i:Int,Cl cx n σ (.builtin f) [v,.int i] Q) (hs:notStar e=true)
  (he:∀ env,eval (.Call (.Attribute o name apos) [e] [] pos) env=(do
   let ov ← eval o env
   standAt apos.atName
   let (f,first) ← holding [ov] (getMethod ov name (pl env))
   callWith pos f first (backTo pos (starEach [e] env)) [])):Ev cx n sc Γ σ (.Call (.Attribute o name apos) [e] [] pos) Q:=
 Ev_meth (ho.ev ⟨_,c,keeps_builtin _,⟨hs,ha.ev q⟩⟩) (by rw [List.all_cons,hs];rfl) he
theorem B_take (P:Px cx a) (h:HeapAt a.c σ loc H) (hz:H.nodes.length≤9999) (hnum:H.nums=numsOf H.nodes) (hnd:H.nodes.Nodup) (hw:(∀ u∈H.ws,isInt u)∧H.ws.length=H.nodes.length) (hd:(∀ u∈H.ds,isInt u)∧H.ds.length=H.nodes.length) {d:Nd} (hop:opOk d.op) (hk:d.kids.length≤9999)
  (hkid:∀ k∈d.kids,k<H.nodes.length) (q0:∀ i:Nat,H.nodes[i]? = some d→Q (.int i) σ) (q1:d∉H.nodes→∀ σ' w e,Mv a.c σ loc H σ' loc (H.taken d w e)→Q (.int (H.nodes.length:Nat)) σ') :
  Cc cx (n+3) σ (.ref a.bank_take) [bV a loc,.str d.op,.tup (vi d.kids)] Q:=by
 refine P.bank_take.go rfl ?_
 conv=>arg 6;whnf
 have zk:d.kids.length≤999999:=Nat.le_trans hk (by decide)
 have zn:H.nodes.length≤999999:=Nat.le_trans hz (by decide)
 refine Exs_name (Ev_bn (EvIs_tup (.cons (EvIs_loc rfl) .nil)) (Ev_ty P.g_tuple (.cons (EvIs_loc rfl) .nil) (Cl_tuple_tup .rfl) (keeps_type _)) (P2_cons zk ?_))
 show Exs cx _ _ (upd (argsOf ["self", "op", "kids"] [bV a loc,V.str d.op,V.tup (vi d.kids)]) "node" (T d.at)) σ _ _
 generalize hΓ:upd (argsOf ["self", "op", "kids"] [bV a loc,V.str d.op,V.tup (vi d.kids)]) "node" (T d.at)=Γ
 have g0:Γ ("self" : Str)=some (bV a loc):=by subst hΓ;rfl
 have g1:Γ ("op" : Str)=some (.str d.op):=by subst hΓ;rfl
 have g2:Γ ("node" : Str)=some (T d.at):=by subst hΓ;rfl
 clear hΓ
 have hbm:lk σ (.ref (loc .bm))=some (.dT (encN H.nums)):=h.get (k:=.bm) rfl
 have hbn:lk σ (.ref (loc .bn))=some (.lst (H.nodes.map fun d=>T d.at)):=h.get (k:=.bn) rfl
 refine Exs_if (Te_cm (EvIs_loc g2) (EvIs_at (EvIs_loc g0) (fl_numbers h) P.bank_a_numbers) (P2_inT hbm (.of ⟨rfl,rfl⟩))) (fun e=>?_) fun e=>?_
 ·rw [dget_encN,Option.isSome_map] at e
  obtain ⟨i,hi⟩:=Option.isSome_iff_exists.mp e
  exact Exs_ret (Ev_sb (EvIs_at (EvIs_loc g0) (fl_numbers h) P.bank_a_numbers) (EvIs_loc g2) (P2_itemT hbm (by rw [dget_encN,hi];rfl) (q0 i (ag_nums (hnum▸hi)))))
 refine Exs_nil ?_
 rw [dget_encN,Option.isSome_map] at e
 have hi:ag H.nums d=none:=by cases z:ag H.nums d with
  | none=>rfl
  | some i=>rw [z] at e;contradiction
 have hnew:d∉H.nodes:=ag_nums_none.mp (hnum▸hi)
 have q1':=q1 hnew
 clear e q0 q1
 refine Exs_expr (Ev_m (EvIs_loc g0) (can_b h P.bank_require_m) (.cons (EvIs_loc g1) .nil) ((B_require P hop).cc ⟨rfl,?_⟩))
 have len:∀ {n sc Γ p1 p2 p3 p4},sc.names.lookup ("len" : Str)=some .globalImplicit→LocK sc ("self" : Str)→Γ ("self" : Str)=some (bV a loc)→EvIs cx n sc Γ σ (.Call (.Name "len" p1) [.Attribute (.Name "self" p2) "nodes" p3] [] p4) (.int (H.nodes.length:Nat)):=fun hl hk g=>
  Ev_b P.g_len (.cons (EvIs_at (EvIs_loc g hk) (fl_nodes h) P.bank_a_nodes) .nil) (Cl_len hbn rfl (by rw [List.length_map];exact Nat.le_succ_of_le zn) (by rw [List.length_map];exact .rfl)) hl
 refine Exs_cons (Ex_for (fun l i Γ₁ σ₁=>σ₁=σ∧l=vi d.kids∧Γ₁ ("self" : Str)=some (bV a loc)∧Γ₁ ("node" : Str)=some (T d.at)) (EvI_seq ((Ev_kids (EvIs_loc g2) zk).ev ⟨_,rfl,⟨rfl,rfl,g0,g2⟩,?_,?_⟩)))
 ·rintro i Γ₁ σ₁ v hv ⟨rfl,-,k0,k2⟩
  obtain ⟨k,hk,rfl⟩:=mem_vi (List.mem_of_getElem? hv)
  have hlt:=hkid k hk
  refine As_name (.inl (by rfl)) (Exs_if (b:=false) (Te_not (Te_chain (hm:=by with_unfolding_all rfl) (EvIs_int.ev ((EvIs_loc rfl).ev (P2_le ⟨true,?_,fun e=>Bool.noConfusion e,fun o_=>⟨rfl,EvIs.ev (len (by rfl) (.inr (.inl (by rfl))) k0) (P2_lt ⟨true,?_,⟨rfl,rfl⟩⟩)⟩⟩))))) (fun e=>Bool.noConfusion e) fun o_=>Exs_nil (Exs_nil ⟨rfl,rfl,k0,k2⟩))
  ·rw [decide_eq_true (Int.natCast_nonneg k)]
  ·rw [decide_eq_true (Int.ofNat_lt.mpr hlt)]
 ·rintro Γ₁ σ₁ ⟨rfl,-,k0,k2⟩
  refine Exs_cons (Ex_sub (EvIs.ev (len (by rfl) (.inr (.inl (by rfl))) k0) ((EvIs_at (EvIs_loc k0) (fl_numbers h) P.bank_a_numbers).ev ((EvIs_loc k2).ev ⟨_,PS_T hbm (by rw [encN_len,hnum,numsOf,List.length_zipIdx];exact Nat.le_succ_of_le zn),?_⟩))))
  have hkeys:(H.nums.map (·.1)).Nodup:=by rw [hnum,numsOf_keys];exact hnd
  rw [dput_encN hkeys,ap_none hi]
  have m1:=mv_nums h (H.nums++[(d,H.nodes.length)])
  show Exs cx _ _ _ (σ₁.set (loc .bm) (.dT (encN (H.nums++[(d,H.nodes.length)])))) _ _
  generalize σ₁.set (loc .bm) (.dT (encN (H.nums++[(d,H.nodes.length)])))=σ₂ at m1 ⊢
  clear hbm hbn len
  have h1:=m1.at_
  have hbn:lk σ₂ (.ref (loc .bn))=some (.lst (H.nodes.map fun d=>T d.at)):=h1.get (k:=.bn) rfl
  refine Exs_expr (Ev_bm (EvIs_at (EvIs_loc k0) (fl_nodes h1) P.bank_a_nodes) (Mt_append hbn) (.cons (EvIs_loc k2) .nil) (Cl_append hbn (by rw [List.length_map];exact zn) ⟨rfl,?_⟩))
  rw [show (H.nodes.map fun d=>T d.at)++[T d.at]=(H.nodes++[d]).map fun d=>T d.at by rw [List.map_append];rfl]
  have m2:=m1.trans (mv_nodes h1 (H.nodes++[d]))
  generalize σ₂.set (loc .bn) (.lst ((H.nodes++[d]).map fun d=>T d.at))=σ₃ at m2 ⊢
  clear m1 h1 hbn σ₂
  have h2:=m2.at_
  have hbw:lk σ₃ (.ref (loc .bw))=some (.lst H.ws):=h2.get (k:=.bw) rfl
  refine Exs_expr (Ev_bmi (hs:=by rfl) (he:=by intro _;rfl) (EvIs_at (EvIs_loc k0) (fl_weights h2) P.bank_a_weights) (Mt_append hbw) (EvInt_add1 (EvInt_sum (hk:=by rfl) (hs:=by rfl) P (ints_at (by decide +kernel) (by rfl) (EvIs_loc k2) zk fun k hk=>?_))) fun w=>Cl_append hbw (by rw [hw.2];exact zn) ⟨rfl,?_⟩)
  ·obtain ⟨i,hi⟩:=int_at hw.1 (hw.2.symm▸hkid k hk)
   exact ⟨i,Ev_sb (EvIs_at (EvIs_loc k0) (fl_weights h2) P.bank_a_weights) (EvIs_loc rfl) (P2_item (k:=(k:Int)) hbw rfl (Int.natCast_nonneg _) (by rw [hw.2];exact Nat.le_succ_of_le zn) hi .rfl)⟩
  have m3:=m2.trans (mv_ws h2 (H.ws++[.int w]))
  generalize σ₃.set (loc .bw) (.lst (H.ws++[.int w]))=σ₄ at m3 ⊢
  clear m2 h2 hbw σ₃
  have h3:=m3.at_
  have hbd:lk σ₄ (.ref (loc .bd))=some (.lst H.ds):=h3.get (k:=.bd) rfl
  refine Exs_expr (Ev_bmi (hs:=by rfl) (he:=by intro _;rfl) (EvIs_at (EvIs_loc k0) (fl_depths h3) P.bank_a_depths) (Mt_append hbd) (EvInt_add1 (EvInt_max0 (hk:=by rfl) P (ints_at (by decide +kernel) (by rfl) (EvIs_loc k2) zk fun k hk=>?_) zk)) fun e=>Cl_append hbd (by rw [hd.2];exact zn) ⟨rfl,?_⟩)
  ·obtain ⟨i,hi⟩:=int_at hd.1 (hd.2.symm▸hkid k hk)
   exact ⟨i,Ev_sb (EvIs_at (EvIs_loc k0) (fl_depths h3) P.bank_a_depths) (EvIs_loc rfl) (P2_item (k:=(k:Int)) hbd rfl (Int.natCast_nonneg _) (by rw [hd.2];exact Nat.le_succ_of_le zn) hi .rfl)⟩
  have m4:=m3.trans (mv_ds h3 (H.ds++[.int e]))
  generalize σ₄.set (loc .bd) (.lst (H.ds++[.int e]))=σ₅ at m4 ⊢
  clear m3 h3 hbd σ₄
  have h4:=m4.at_
  refine Exs_ret (Ev_bn (Ev_b P.g_len (.cons (EvIs_at (EvIs_loc k0) (fl_nodes h4) P.bank_a_nodes) .nil) (Cl_len (l:=(H.nodes++[d]).map fun d=>T d.at) (h4.get (k:=.bn) rfl) rfl (by rw [List.length_map,List.length_append];exact Nat.succ_le_succ zn) .rfl)) EvIs_int (P2_sub ?_))
  rw [show ((((H.nodes++[d]).map fun d=>T d.at).length:Nat):Int) - 1=(H.nodes.length:Nat) by rw [List.length_map,List.length_append];exact Int.add_sub_cancel (H.nodes.length:Int) 1]
  exact q1' _ _ _ m4
end
noncomputable def abV (loc:Slot→Addr) (l:List (Nat×List Nat)):List (Int×V):=l.map fun p=>((p.1:Int),.ref (loc (.ab p.1)))
theorem dget_ab (loc:Slot→Addr) (k:Nat):∀ l:List (Nat×List Nat),dget (abV loc l) (k:Int)=(ag l k).map fun o_=>.ref (loc (.ab k))
 | []=>rfl
 | (j,u)::r=>by
  have ih:=dget_ab loc k r
  unfold dget at ih ⊢
  by_cases q:j=k
  ·subst q;simp [ag_nil,ag_cons,abV]
  ·have:¬ (j:Int)=k:=fun z=>q (Int.ofNat_inj.mp z)
   simp only [abV,List.map_cons,List.find?_cons,this,decide_false,ag_nil,ag_cons,if_neg q]
   exact ih
theorem ddel_ab (loc:Slot→Addr) (k:Nat) {l:List (Nat×List Nat)} (hn:(l.map (·.1)).Nodup):ddel (abV loc l) (k:Int)=abV loc (ad l k):=by
 skip
 induction l with
 | nil=>rfl
 | cons p r ih=>
  obtain ⟨j,u⟩:=p
  simp only [List.map_cons,List.nodup_cons] at hn
  show List.filter _ (((j:Int),V.ref (loc (.ab j)))::abV loc r)=_
  by_cases q:j=k
  ·subst q
   rw [List.filter_cons_of_neg (by simp),show ad ((j,u)::r) j=r from if_pos rfl]
   refine List.filter_eq_self.mpr fun p hp=>decide_eq_true fun z=>?_
   obtain ⟨⟨i,w⟩,h1,rfl⟩:=List.mem_map.mp hp
   exact hn.1 (by rw [← Int.ofNat_inj.mp z];exact List.mem_map.mpr ⟨_,h1,rfl⟩)
  ·rw [List.filter_cons_of_pos (by exact decide_eq_true fun z=>q (Int.ofNat_inj.mp z)),show ad ((j,u)::r) k=(j,u)::ad r k from if_neg q]
   exact congrArg _ (ih hn.2)
theorem abV_out {loc:Slot→Addr} {k:Nat} {x:Addr} {l:List (Nat×List Nat)} (h:k∉l.map (·.1)):abV (locPut loc (.ab k) x) l=abV loc l:=
 List.map_congr_left fun p hp=>by
  have:p.1≠k:=fun z=>h (z▸List.mem_map.mpr ⟨p,hp,rfl⟩)
  show ((p.1:Int),V.ref (if Slot.ab p.1=Slot.ab k then x else loc (.ab p.1)))=_
  rw [if_neg (fun z=>this (by injection z))]
theorem dput_ab (loc:Slot→Addr) (k:Nat) (x:Addr) (u:List Nat) {l:List (Nat×List Nat)} (hn:(l.map (·.1)).Nodup):dput (abV loc l) (k:Int) (.ref x)=abV (locPut loc (.ab k) x) (ap l k u):=by
 delta dput
 rw [dget_ab]
 have hx:locPut loc (.ab k) x (.ab k)=x:=if_pos rfl
 rcases h:ag l k with _|w
 ·
  rw [ap_none h]
  show abV loc l++[((k:Int),V.ref x)]=abV _ (l++[(k,u)])
  delta abV
  rw [List.map_append]
  refine congr (congrArg _ (abV_out (ag_none.mp h)).symm) ?_
  show _=[((k:Int),V.ref (locPut loc (.ab k) x (.ab k)))]
  rw [hx]
 ·
  simp only [Option.map_some,Option.isSome_some,if_true]
  induction l with
  | nil=>contradiction
  | cons p r ih=>
   obtain ⟨j,v⟩:=p
   simp only [List.map_cons,List.nodup_cons] at hn
   by_cases q:j=k
   ·subst q
    have tl:(abV loc r).map (fun p=>if p.1=(j:Int) then (p.1,V.ref x) else p)=abV (locPut loc (.ab j) x) r:=by
     rw [abV_out hn.1]
     refine (List.map_congr_left fun p hp=>?_).trans (List.map_id _)
     obtain ⟨⟨i,w⟩,h1,rfl⟩:=List.mem_map.mp hp
     have:¬ (i:Int)=j:=fun z=>hn.1 (by rw [← Int.ofNat_inj.mp z];exact List.mem_map.mpr ⟨_,h1,rfl⟩)
     exact if_neg this
    simp only [ap_nil,ap_cons,if_true]
    show (if (j:Int)=j then _ else _)::(abV loc r).map _=((j:Int),V.ref (locPut loc (.ab j) x (.ab j)))::abV _ r
    rw [tl,hx,if_pos rfl]
   ·have z:¬ (j:Int)=k:=fun z=>q (Int.ofNat_inj.mp z)
    simp only [ag_nil,ag_cons,if_neg q] at h
    simp only [ap_nil,ap_cons,if_neg q]
    show (if (j:Int)=k then _ else _)::(abV loc r).map _=((j:Int),V.ref (if Slot.ab j=Slot.ab k then x else loc (.ab j)))::abV _ (ap r k u)
    rw [if_neg z,if_neg (fun e=>q (by injection e)),ih hn.2 h]
noncomputable def cn (par:List Nat) (d:Nd):Nd:=⟨d.op,d.kids.map (rt par)⟩
theorem map_vi (f:Nat→Nat) (l:List Nat):(vi l).map (fun v=>V.int (f (natOf v):Nat))=vi (l.map f):=by
 delta vi;rw [List.map_map,List.map_map];rfl
section
variable {cx:Cx} {a:Ads} {n:Nat} {sc csc:Scope} {Γ:Str→Option V} {σ:Store} {Q:V→Store→Prop} {loc:Slot→Addr} {H:HS}
theorem H_size (P:Px cx a) (h:HeapAt a.c σ loc H) (hz:H.nodes.length≤1000000):CcIs cx (n+2) σ (.ref a.heap_size) [hV a loc] (.int (H.nodes.length:Nat)):=by
 refine P.heap_size.go rfl ?_
 conv=>arg 6;whnf
 exact Exs_ret (Ev_m (EvIs_at (EvIs_loc rfl) (fl_bank h) P.heap_a_bank) (can_b h P.bank_size_m) .nil (B_size P h hz))
theorem H_find (P:Px cx a) (h:HeapAt a.c σ loc H) (hd:Down H.par) (hz:H.par.length≤1000000) {b:Nat} (hb:b<H.par.length):CcIs cx (n+2) σ (.ref a.heap_find) [hV a loc,.int b] (.int (rt H.par b:Nat)):=by
 refine P.heap_find.go rfl ?_
 conv=>arg 6;whnf
 exact Exs_ret (Ev_m (EvIs_at (EvIs_loc rfl) (fl_unions h) P.heap_a_unions) (can_u h P.unions_find_m) (.cons (EvIs_loc rfl) .nil) (U_find P h hd hz hb))
theorem H_classes (P:Px cx a) (h:HeapAt a.c σ loc H) (hz:H.par.length≤1000000):CcIs cx (n+2) σ (.ref a.heap_classes) [hV a loc] (nats (roots H.par)):=by
 refine P.heap_classes.go rfl ?_
 conv=>arg 6;whnf
 exact Exs_ret (Ev_m (EvIs_at (EvIs_loc rfl) (fl_unions h) P.heap_a_unions) (can_u h P.unions_classes_m) .nil (U_classes P h hz))
theorem H_members (P:Px cx a) (h:HeapAt a.c σ loc H) (hd:Down H.par) (hz:H.par.length≤1000000) (hlots:H.lots.length=H.par.length) {b:Nat} (hb:b<H.par.length) {l:List Nat} (hl:H.lots[rt H.par b]? = some l) (h64:l.length<64)
  (q:∀ out:List Nat,out.Perm l→Q (nats out) σ):Cc cx (n+3) σ (.ref a.heap_members) [hV a loc,.int b] Q:=by
 refine P.heap_members.go rfl ?_
 conv=>arg 6;whnf
 exact Exs_ret (Ev_m (EvIs_at (EvIs_loc rfl) (fl_unions h) P.heap_a_unions) (can_u h P.unions_members_m) (.cons (EvIs_loc rfl) .nil) (U_members P h hd hz hlots hb hl h64 q))
theorem EvIs_tups {x:Str} {px p1 pos pos2:Pos} {elt iter:Expr} {l:List Nat} {f:Nat→Nat} (P:Px cx a) (hok:compOk csc sc=true) (hx:csc.names.lookup x=some .local) (h:EvIs cx n sc Γ σ iter (.tup (vi l))) (hz:l.length≤1000000)
  (he:∀ k∈l,EvIs cx n (relabel' csc sc) (upd (capΓ csc Γ) x (.int (k:Nat))) σ elt (.int (f k:Nat))) (hs:∀ env x,foldedSetIterable iter env x=pure x) (hk:sc.names.lookup ("tuple" : Str)=some .globalImplicit) :
  EvIs cx n sc Γ σ (.Call (.Name "tuple" p1) [.ListComp elt [⟨.Name x px,iter,[],0⟩] csc pos] [] pos2) (.tup (vi (l.map f))):=by
 refine Ev_ty P.g_tuple (.cons (v:=.lst (vi (l.map f))) (Ev_comp hok hx (EvI_seq (h.ev ⟨_,rfl,_,Turns_map (fun v=>V.int (f (natOf v):Nat)) (by rw [vi_len];exact hz) (fun v hv=>?_),.inl ?_⟩)) hs) .nil) (Cl_tuple_list rfl (by rw [vi_len,List.length_map];exact hz) .rfl) (keeps_type _) hk
 ·obtain ⟨k,hk,rfl⟩:=mem_vi hv
  exact he k hk
 ·rw [map_vi];exact .rfl
theorem H_node (P:Px cx a) (h:HeapAt a.c σ loc H) (hd:Down H.par) (hz:H.par.length≤1000000) (hz2:H.nodes.length≤1000000) {b:Nat} {d:Nd} (hb:H.nodes[b]? = some d) (hk:∀ k∈d.kids,k<H.par.length) (hkl:d.kids.length≤999999) :
  CcIs cx (n+3) σ (.ref a.heap_node) [hV a loc,.int b] (T (cn H.par d).at):=by
 refine P.heap_node.go rfl ?_
 conv=>arg 6;whnf
 refine Exs_ret (Ev_bn (EvIs_tup (.cons (Ev_m (EvIs_at (EvIs_loc rfl) (fl_bank h) P.heap_a_bank) (can_b h P.bank_op_m) (.cons (EvIs_loc rfl) .nil) (B_op P h hz2 hb hkl)) .nil))
  (EvIs_tups (hs:=by intro _ _;rfl) (hk:=by rfl) P (by decide +kernel) (by rfl) (Ev_m (EvIs_at (EvIs_loc rfl) (fl_bank h) P.heap_a_bank) (can_b h P.bank_kids_m) (.cons (EvIs_loc rfl) .nil) (B_kids P h hz2 hb hkl)) (Nat.le_succ_of_le hkl) fun k hm=>?_) (P2_cons (by rw [List.length_map];exact hkl) .rfl))
 exact Ev_m (EvIs_loc rfl) (can_h h P.heap_find_m) (.cons (EvIs_loc rfl) .nil) (H_find P h hd hz (hk k hm))
end
theorem abV_keys {loc:Slot→Addr} {l l':List (Nat×List Nat)} (h:l.map (·.1)=l'.map (·.1)):abV loc l=abV loc l':=by
 have e:∀ l:List (Nat×List Nat),abV loc l=(l.map (·.1)).map fun (k:Nat)=>((k:Int),V.ref (loc (.ab k))):=fun l=>by rw [List.map_map];rfl
 rw [e,e,h]
section
variable {c:Cs} {σ:Store} {loc:Slot→Addr} {H:HS}
theorem HeapAt.ne (h:HeapAt c σ loc H) {k k':Slot} {v v':V} (e:contH c loc H k=some v) (e':contH c loc H k'=some v') (hk:k≠k'):loc k≠loc k':=fun z=>
 hk (RegAt.inj h k k' (loc k) v v' (by unfold regH;rw [e];rfl) (by unfold regH;rw [e',z];rfl))
theorem HeapAt.fresh (h:HeapAt c σ loc H) {x:Addr} (hx:σ x=none) (v:V):HeapAt c (σ.set x v) loc H:=RegAt.keep h fun a q=>Store.set_ne v fun e=>At_.some h q (e▸hx)
theorem mv_es (h:HeapAt c σ loc H) (p:List V):Mv c σ loc H (σ.set (loc .he) (.lst p)) loc (H.sEs p):=Mv.set h (k:=.he) (v:=.lst H.es) rfl fun k'=>by cases k' <;> rfl
theorem mv_fs (h:HeapAt c σ loc H) (p:List V):Mv c σ loc H (σ.set (loc .hf) (.lst p)) loc (H.sFs p):=Mv.set h (k:=.hf) (v:=.lst H.fs) rfl fun k'=>by cases k' <;> rfl
theorem mv_known (h:HeapAt c σ loc H) (p:List (Nd×Nat)):Mv c σ loc H (σ.set (loc .hk) (.dT (encN p))) loc (H.sKnown p):=Mv.set h (k:=.hk) (v:=.dT (encN H.known)) rfl fun k'=>by cases k' <;> rfl
theorem mv_wait (h:HeapAt c σ loc H) (p:List Nat):Mv c σ loc H (σ.set (loc .hw) (nats p)) loc (H.sWait p):=Mv.set h (k:=.hw) (v:=nats H.wait) rfl fun k'=>by cases k' <;> rfl
theorem ha_at (h:HeapAt c σ loc H):σ (loc .ha)=some (.dI (abV loc H.ab)):=h.get (k:=.ha) rfl
theorem ab_at (h:HeapAt c σ loc H) {k:Nat} {l:List Nat} (e:ag H.ab k=some l):σ (loc (.ab k))=some (nats l):=h.get (k:=.ab k) (by show (ag H.ab k).map nats=_;rw [e];rfl)
set_option tactic.hygienic true in
theorem mv_setab (h:HeapAt c σ loc H) {k:Nat} {l:List Nat} (e:ag H.ab k=some l) (p:List Nat):Mv c σ loc H (σ.set (loc (.ab k)) (nats p)) loc (H.sAb (ap H.ab k p)):=
 Mv.set h (k:=.ab k) (v:=nats l) (by show (ag H.ab k).map nats=_;rw [e];rfl) fun k'=>by
  cases k' <;> (try rfl)
  ·show some (V.dI (abV loc (ap H.ab k p)))=some (V.dI (abV loc H.ab))
   rw [abV_keys (ap_keys e)]
  ·rename_i j
   show (ag (ap H.ab k p) j).map nats=if Slot.ab j=Slot.ab k then _ else (ag H.ab j).map nats
   rw [ag_ap]
   by_cases z:j=k
   ·rw [if_pos z,if_pos (congrArg Slot.ab z)];rfl
   ·rw [if_neg z,if_neg (fun y=>z (by injection y))]
set_option tactic.hygienic true in
theorem mv_newab (h:HeapAt c σ loc H) (hn:(H.ab.map (·.1)).Nodup) {x:Addr} (hx:σ x=none) (k:Nat) (p:List Nat) :
  Mv c σ loc H ((σ.set x (nats p)).set (loc .ha) (.dI (dput (abV loc H.ab) (k:Int) (.ref x)))) (locPut loc (.ab k) x) (H.sAb (ap H.ab k p)):=by
 rw [dput_ab loc k x p hn]
 refine Mv.grow h (k:=.ab k) (k2:=.ha) hx (v2:=.dI (abV loc H.ab)) rfl (fun e=>by contradiction) (fun k'=>?_) ⟨(fun e=>by contradiction),(fun e=>by contradiction),(fun e=>by contradiction)⟩
 cases k' <;> (try rfl)
 rename_i j
 show (ag (ap H.ab k p) j).map nats=if Slot.ab j=Slot.ab k then _ else if Slot.ab j=Slot.ha then _ else (ag H.ab j).map nats
 rw [ag_ap]
 by_cases z:j=k
 ·rw [if_pos z,if_pos (congrArg Slot.ab z)];rfl
 ·rw [if_neg z,if_neg (fun y=>z (by injection y)),if_neg (fun e=>by contradiction)]
set_option tactic.hygienic true in
theorem mv_pop (h:HeapAt c σ loc H) (hn:(H.ab.map (·.1)).Nodup) (k:Nat):Mv c σ loc H (σ.set (loc .ha) (.dI (ddel (abV loc H.ab) (k:Int)))) loc (H.sAb (ad H.ab k)):=by
 rw [ddel_ab loc k hn]
 have ha:regH c loc H .ha=some (loc .ha,.dI (abV loc H.ab)):=rfl
 have ext:∀ k',regH c loc (H.sAb (ad H.ab k)) k'=((regH c loc H).put .ha (some (loc .ha,.dI (abV loc (ad H.ab k))))).put (.ab k) none k':=fun k'=>by
  cases k' <;> (try rfl)
  rename_i j
  show ((ag (ad H.ab k) j).map nats).map _=if Slot.ab j=Slot.ab k then none else ((ag H.ab j).map nats).map _
  rw [ag_ad k j hn]
  by_cases z:j=k
  ·rw [if_pos z,if_pos (congrArg Slot.ab z)];rfl
  ·rw [if_neg z,if_neg (fun y=>z (by injection y))]
 refine ⟨((RegAt.set h ha).drop (.ab k)).ext ext,Within.set (.inl (HeapAt.self (k:=.ha) rfl)),fun a q=>.inl ?_,rfl,rfl,rfl⟩
 obtain ⟨k',v,e⟩:=q
 rw [ext k'] at e
 by_cases z:k'=.ab k
 ·subst z;rw [Reg.put_self] at e;contradiction
 rw [Reg.put_ne _ _ z] at e
 by_cases y:k'=.ha
 ·subst y;rw [Reg.put_self] at e;cases e;exact ⟨.ha,_,ha⟩
 ·rw [Reg.put_ne _ _ y] at e;exact ⟨k',v,e⟩
end
theorem dget_some {loc:Slot→Addr} {l:List (Nat×List Nat)} {k:Nat} {u:List Nat} (e:ag l k=some u):dget (abV loc l) (k:Int)=some (.ref (loc (.ab k))):=by rw [dget_ab,e];rfl
noncomputable def HS.joined (H:HS) (x:V) (lo hi:Nat) (l1 l2:List Nat):HS:=
 ((((H.sEs (H.es++[x])).merged lo hi).sFs (H.fs++[.int (((H.es++[x]).length:Nat) - 1:Int)])).sWait (H.wait++l2)).sAb (ap (ad H.ab hi) lo (l1++l2))
section
variable {cx:Cx} {a:Ads} {n:Nat} {sc csc:Scope} {Γ:Str→Option V} {σ:Store} {Q:V→Store→Prop} {loc:Slot→Addr} {H:HS}
theorem P2_ab {value slice:Expr} (h:HeapAt a.c σ loc H) {k:Nat} {l:List Nat} (e:ag H.ab k=some l) (q:Q (.ref (loc (.ab k))) σ)
  (hs:∀ (a:Addr) (t:Tok),subscripted slice false (.ref a) (.int (k:Nat) t)=operate [.ref a,.int (k:Nat) t] (getItem (.ref a) (.int (k:Nat) t))) (hg:NoGo value) :
  P2 cx n σ (subscriptTail value slice) (.ref (loc .ha)) (.int (k:Nat)) Q:=P2_itemI (ha_at h) (by rw [dget_ab,e];rfl) q hs hg
structure JoinOk (H:HS):Prop where
 down:Down H.par
 zp:H.par.length≤9999
 zl:H.lots.length=H.par.length
 zms:H.ms.length≤9999
 zes:H.es.length≤9999
 zfs:H.fs.length≤9999
 zw:H.wait.length≤99999
 zab:H.ab.length≤9999
 lots:∀ (r:Nat) (l:List Nat),H.par[r]? = some r→H.lots[r]? = some l→l.length≤9999
 rt:∀ b<H.par.length,H.par[rt H.par b]? = some (rt H.par b)
 keys:(H.ab.map (·.1)).Nodup
 ab:∀ r:Nat,H.par[r]? = some r→∃ l,ag H.ab r=some l∧l.length≤9999
theorem H_join (P:Px cx a) (h:HeapAt a.c σ loc H) (J:JoinOk H) {b c:Nat} {re:V} (hb:b<H.par.length) (hc:c<H.par.length)
  (q0:rt H.par b=rt H.par c→∀ σ',Mv a.c σ loc H σ' loc (H.sEs (H.es++[.tup [.int b,.int c,re]]))→Q (.bool false) σ')
  (q1:∀ lo hi l1 l2,lo<hi→(lo=rt H.par b∧hi=rt H.par c∨lo=rt H.par c∧hi=rt H.par b)→ag H.ab lo=some l1→ag H.ab hi=some l2→∀ σ' loc',Mv a.c σ loc H σ' loc' (H.joined (.tup [.int b,.int c,re]) lo hi l1 l2)→Q (.bool true) σ') :
  Cc cx (n+3) σ (.ref a.heap_join) [hV a loc,.int b,.int c,re] Q:=by
 refine P.heap_join.go rfl ?_
 conv=>arg 6;whnf
 generalize hΓ:argsOf ["self", "a", "b", "reason"] [hV a loc,V.int b,V.int c,re]=Γ
 have g0:Γ ("self" : Str)=some (hV a loc):=by subst hΓ;rfl
 have g1:Γ ("a" : Str)=some (.int b):=by subst hΓ;rfl
 have g2:Γ ("b" : Str)=some (.int c):=by subst hΓ;rfl
 have g3:Γ ("reason" : Str)=some re:=by subst hΓ;rfl
 clear hΓ
 have hes:lk σ (.ref (loc .he))=some (.lst H.es):=h.get (k:=.he) rfl
 refine Exs_expr (Ev_bm (EvIs_at (EvIs_loc g0) (fl_edges h) P.heap_a_edges) (Mt_append hes) (.cons (EvIs_tup (.cons (EvIs_loc g1) (.cons (EvIs_loc g2) (.cons (EvIs_loc g3) .nil)))) .nil) (Cl_append hes (Nat.le_trans J.zes (by decide)) ⟨rfl,?_⟩))
 have m1:=mv_es h (H.es++[.tup [.int b,.int c,re]])
 generalize σ.set (loc .he) (.lst (H.es++[.tup [.int b,.int c,re]]))=σ₁ at m1 ⊢
 clear hes
 have h1:=m1.at_
 refine Exs_name (Ev_m (EvIs_at (EvIs_loc g0) (fl_unions h1) P.heap_a_unions) (can_u h1 P.unions_merge_m) (.cons (EvIs_loc g1) (.cons (EvIs_loc g2) .nil)) (U_merge P h1 J.down J.zp J.zl J.zms J.lots hb hc J.rt (fun e=>?_) fun lo hi hlt hor σ₂ m2a=>?_))
 ·exact Exs_if (Te_cm (EvIs_loc rfl) EvIs_none (P2_isnone (b:=true) (.inl ⟨rfl,rfl⟩) (.of ⟨rfl,rfl⟩))) (fun o_=>Exs_ret (EvIs_bool.ev (q0 e _ m1))) fun e=>Bool.noConfusion e
 refine Exs_if (Te_cm (EvIs_loc rfl) EvIs_none (P2_isnone (b:=false) (.inr ⟨⟨_,rfl⟩,rfl⟩) (.of ⟨rfl,rfl⟩))) (fun e=>Bool.noConfusion e) fun o_=>Exs_nil ?_
 have hlo:H.par[lo]? = some lo:=by
  rcases hor with ⟨e,_⟩|⟨e,_⟩ <;> subst e
  ·exact J.rt b hb
  ·exact J.rt c hc
 have hhi:H.par[hi]? = some hi:=by
  rcases hor with ⟨_,e⟩|⟨_,e⟩ <;> subst e
  ·exact J.rt c hc
  ·exact J.rt b hb
 obtain ⟨l1,e1,z1⟩:=J.ab lo hlo
 obtain ⟨l2,e2,z2⟩:=J.ab hi hhi
 have q1':=q1 lo hi l1 l2 hlt hor e1 e2
 clear q0 q1 hlo hhi hor
 have m2:=m1.trans m2a
 clear m2a m1 h1 σ₁
 refine Exs_cons (Ex_tuple ((EvIs_loc rfl).ev (As_tuple (l:=[.int (lo:Nat),.int (hi:Nat)]) rfl rfl rfl ⟨rfl,As_name (.inl (by rfl)) ⟨rfl,As_name (.inl (by rfl)) ?_⟩⟩)) (hw:=by intro _ _;rfl))
 generalize hΓ:upd (upd (upd Γ _ _) "kept" (V.int lo)) "gone" (V.int hi)=Γ'
 have k0:Γ' ("self" : Str)=some (hV a loc):=by subst hΓ;exact g0
 have k1:Γ' ("kept" : Str)=some (.int lo):=by subst hΓ;rfl
 have k2:Γ' ("gone" : Str)=some (.int hi):=by subst hΓ;rfl
 clear hΓ g0 g1 g2 g3 Γ
 have h2:=m2.at_
 have hfs:lk σ₂ (.ref (loc .hf))=some (.lst H.fs):=h2.get (k:=.hf) rfl
 refine Exs_expr (Ev_bm (EvIs_at (EvIs_loc k0) (fl_forest h2) P.heap_a_forest) (Mt_append hfs) (.cons (Ev_bn (Ev_b P.g_len (.cons (EvIs_at (EvIs_loc k0) (fl_edges h2) P.heap_a_edges) .nil) (Cl_len (l:=H.es++[.tup [.int b,.int c,re]]) (h2.get (k:=.he) rfl) rfl (by rw [List.length_append];exact Nat.succ_le_succ (Nat.le_trans J.zes (by decide))) .rfl)) EvIs_int (P2_sub .rfl)) .nil)
  (Cl_append hfs (Nat.le_trans J.zfs (by decide)) ⟨rfl,?_⟩))
 have m3:=m2.trans (mv_fs h2 (H.fs++[.int (((H.es++[V.tup [.int b,.int c,re]]).length:Nat) - 1:Int)]))
 generalize σ₂.set (loc .hf) (.lst (H.fs++[.int (((H.es++[V.tup [.int b,.int c,re]]).length:Nat) - 1:Int)]))=σ₃ at m3 ⊢
 clear m2 h2 hfs σ₂
 have h3:=m3.at_
 have hw:lk σ₃ (.ref (loc .hw))=some (nats H.wait):=h3.get (k:=.hw) rfl
 refine Exs_expr (Ev_bm (EvIs_at (EvIs_loc k0) (fl_waiting h3) P.heap_a_waiting) (Mt_extend hw) (.cons (Ev_sb (EvIs_at (EvIs_loc k0) (fl_above h3) P.heap_a_above) (EvIs_loc k2) (P2_ab (hs:=by intro _ _;with_unfolding_all rfl) (hg:=by exact trivial) h3 e2 .rfl)) .nil) (Cl_extendN hw (ab_at h3 e2) (Nat.le_trans (Nat.add_le_add J.zw z2) (by decide)) ⟨rfl,?_⟩))
 have m4:=m3.trans (mv_wait h3 (H.wait++l2))
 generalize σ₃.set (loc .hw) (nats (H.wait++l2))=σ₄ at m4 ⊢
 clear m3 h3 hw σ₃
 have h4:=m4.at_
 have zab:(abV loc H.ab).length≤1000000:=by rw [abV,List.length_map];exact Nat.le_trans J.zab (by decide)
 have hne:lo≠hi:=Nat.ne_of_lt hlt
 have n1:loc (.ab hi)≠loc .ha:=h4.ne (k:=.ab hi) (k':=.ha) (v:=nats l2) (by show (ag H.ab hi).map nats=_;rw [e2];rfl) rfl (fun e=>by contradiction)
 have m5:=m4.trans (mv_pop h4 J.keys hi)
 have e1':ag (ad H.ab hi) lo=some l1:=by rw [ag_ad _ _ J.keys,if_neg hne];exact e1
 refine Exs_cons (Ex_sub (Ev_bin (EvIs.ev (Ev_sb (EvIs_at (EvIs_loc k0) (fl_above h4) P.heap_a_above) (EvIs_loc k1) (P2_ab (hs:=by intro _ _;with_unfolding_all rfl) (hg:=by exact trivial) h4 e1 .rfl)) (Ev_bm (EvIs_at (EvIs_loc k0) (fl_above h4) P.heap_a_above) (Mt_popI (ha_at h4)) (.cons (EvIs_loc k2) .nil) (Cl_popI (u:=.ref (loc (.ab hi))) (ha_at h4) zab (dget_some e2) (P2_addL (l:=vi l1) (l':=vi l2) (ab_at m5.at_ e1') ((Store.set_ne _ n1).trans (ab_at h4 e2)) ?_ (.inr fun x hx=>?_)))))))
 ·rw [vi_len,vi_len];exact Nat.le_trans (Nat.add_le_add z1 z2) (by decide)
 rw [show V.lst (vi l1++vi l2)=nats (l1++l2) from nats_app l1 l2]
 revert m5
 show Mv a.c σ loc H (σ₄.set (loc .ha) (.dI (ddel (abV loc H.ab) (hi:Int)))) loc _→Ev cx _ _ _ ((σ₄.set (loc .ha) (.dI (ddel (abV loc H.ab) (hi:Int)))).set x (nats (l1++l2))) _ _
 replace hx:(σ₄.set (loc .ha) (.dI (ddel (abV loc H.ab) (hi:Int)))) x=none:=hx
 revert hx
 generalize σ₄.set (loc .ha) (.dI (ddel (abV loc H.ab) (hi:Int)))=σ₅
 intro hx m5
 clear m4 h4 n1 σ₄
 have h5:=m5.at_
 have h6:=h5.fresh hx (nats (l1++l2))
 have m7:=m5.trans (mv_newab h5 (ad_nodup J.keys) hx lo (l1++l2))
 refine (EvIs_at (EvIs_loc k0) (fl_above h6) P.heap_a_above).ev ((EvIs_loc k1).ev ⟨_,PS_I (ha_at h6) ?_,Exs_ret (EvIs_bool.ev (q1' _ _ m7))⟩)
 have z:∀ {l:List (Nat×List Nat)} {k:Nat},(ad l k).length≤l.length:=fun {l k}=>by
  induction l with
  | nil=>exact Nat.le_refl _
  | cons p r ih=>
   obtain ⟨j,u⟩:=p
   by_cases q:j=k
   ·rw [show ad ((j,u)::r) k=r from if_pos q];exact Nat.le_succ _
   ·rw [show ad ((j,u)::r) k=(j,u)::ad r k from if_neg q];exact Nat.succ_le_succ ih
 rw [abV,List.length_map]
 exact Nat.le_trans z (Nat.le_trans J.zab (by decide))
end
section
variable {par:List Nat}
noncomputable abbrev IsRoot (par:List Nat) (r:Nat):Prop:=par[r]? = some r
theorem isRoot_lt {r:Nat} (h:IsRoot par r):r<par.length:=(List.getElem?_eq_some_iff.mp h).1
theorem isRoot_getD {r:Nat} (h:IsRoot par r):par.getD r r=r:=by unfold List.getD;rw [h];rfl
theorem isRoot_of {r:Nat} (h:r<par.length) (e:par.getD r r=r):IsRoot par r:=by rw [IsRoot,getD_at r h,e]
theorem rt_root (hd:Down par):∀ b,b<par.length→IsRoot par (rt par b):=by
 intro b
 induction b using Nat.strongRecOn with
 | _ b ih=>
  intro hb
  rw [rt_step hd]
  by_cases q:par.getD b b=b
  ·rw [if_pos q];exact isRoot_of hb q
  ·rw [if_neg q]
   have h1:par.getD b b<b:=Nat.lt_of_le_of_ne (hd.at b) q
   exact ih _ h1 (Nat.lt_trans h1 hb)
theorem rt_of_root (hd:Down par) {r:Nat} (h:IsRoot par r):rt par r=r:=by rw [rt_step hd,if_pos (isRoot_getD h)]
theorem rt_rt (hd:Down par) {b:Nat} (hb:b<par.length):rt par (rt par b)=rt par b:=rt_of_root hd (rt_root hd b hb)
theorem rt_lt (hd:Down par) {b:Nat} (hb:b<par.length):rt par b<par.length:=Nat.lt_of_le_of_lt (rt_le hd b) hb
theorem getD_set (par:List Nat) (hi lo b:Nat) (hh:hi<par.length):(par.set hi lo).getD b b=if b=hi then lo else par.getD b b:=by
 unfold List.getD
 by_cases q:b=hi
 ·subst q;rw [List.getElem?_set_self hh,if_pos rfl];rfl
 ·rw [List.getElem?_set_ne (Ne.symm q),if_neg q]
theorem down_set (hd:Down par) {lo hi:Nat} (h:lo<hi):Down (par.set hi lo):=fun i p e=>by
 by_cases q:hi=i
 ·subst q
  have hl:hi<par.length:=by
   have:=(List.getElem?_eq_some_iff.mp e).1
   rwa [List.length_set] at this
  rw [List.getElem?_set_self hl] at e
  (injection e with e;subst e);exact Nat.le_of_lt h
 ·rw [List.getElem?_set_ne q] at e;exact hd i p e
theorem rt_set (hd:Down par) {lo hi:Nat} (h:lo<hi) (hl:IsRoot par lo) (hh:IsRoot par hi):∀ b,rt (par.set hi lo) b=if rt par b=hi then lo else rt par b:=by
 have hd':=down_set hd h
 have hhl:=isRoot_lt hh
 have e0:rt (par.set hi lo) lo=lo:=by
  rw [rt_step hd',getD_set _ _ _ _ hhl,if_neg (Nat.ne_of_lt h),isRoot_getD hl,if_pos rfl]
 intro b
 induction b using Nat.strongRecOn with
 | _ b ih=>
  by_cases q:b=hi
  ·subst q
   rw [rt_step hd',getD_set _ _ _ _ hhl,if_pos rfl,if_neg (Nat.ne_of_lt h),e0,rt_of_root hd hh,if_pos rfl]
  ·rw [rt_step hd',getD_set _ _ _ _ hhl,if_neg q,rt_step hd b]
   by_cases z:par.getD b b=b
   ·rw [if_pos z,if_pos z,if_neg q]
   ·rw [if_neg z,if_neg z]
    exact ih _ (Nat.lt_of_le_of_ne (hd.at b) z)
theorem mem_roots {r:Nat}:r∈roots par↔IsRoot par r:=by
 unfold roots
 rw [List.mem_filter,List.mem_range]
 constructor
 ·rintro ⟨h,e⟩;exact isRoot_of h (of_decide_eq_true e)
 ·intro h;exact ⟨isRoot_lt h,decide_eq_true (isRoot_getD h)⟩
theorem roots_nodup:(roots par).Nodup:=List.Nodup.sublist List.filter_sublist List.nodup_range
theorem roots_le:(roots par).length≤par.length:=by
 have:=List.length_filter_le (fun i=>decide (par.getD i i=i)) (List.range par.length)
 rwa [List.length_range] at this
theorem roots_set (hd:Down par) {lo hi:Nat} (h:lo<hi) (hl:IsRoot par lo) (hh:IsRoot par hi):(roots (par.set hi lo)).length+1=(roots par).length:=by
 have hhl:=isRoot_lt hh
 have e:roots (par.set hi lo)=(roots par).erase hi:=by
  rw [List.Nodup.erase_eq_filter roots_nodup]
  unfold roots
  rw [List.filter_filter,List.length_set]
  refine List.filter_congr fun i hi'=>?_
  rw [getD_set _ _ _ _ hhl]
  by_cases q:i=hi
  ·subst q;simp [Nat.ne_of_lt h]
  ·simp [q]
 have hm:hi∈roots par:=mem_roots.mpr hh
 rw [e,List.length_erase_of_mem hm]
 exact Nat.succ_pred_eq_of_pos (List.length_pos_of_mem hm)
theorem getD_snoc (n b:Nat) (h:par.length=n):(par++[n]).getD b b=if b<n then par.getD b b else b:=by
 unfold List.getD
 by_cases q:b<n
 ·rw [if_pos q,List.getElem?_append_left (h▸q)]
 ·rw [if_neg q]
  by_cases z:b=n
  ·subst z;subst h;rw [List.getElem?_append_right (Nat.le_refl _),Nat.sub_self];rfl
  ·rw [List.getElem?_eq_none (by rw [List.length_append,h];exact Nat.lt_of_le_of_ne (Nat.le_of_not_lt q) (Ne.symm z))];rfl
theorem down_snoc (hd:Down par):Down (par++[par.length]):=fun i p e=>by
 rcases Nat.lt_or_ge i par.length with q|q
 ·rw [List.getElem?_append_left q] at e;exact hd i p e
 ·rw [List.getElem?_append_right q] at e
  obtain ⟨h1,h2⟩:=List.getElem?_eq_some_iff.mp e
  rw [List.getElem_singleton] at h2
  exact h2▸q
theorem rt_out (hd:Down par) {b:Nat} (h:par.length≤b):rt par b=b:=by
 rw [rt_step hd,if_pos]
 unfold List.getD
 rw [List.getElem?_eq_none h];rfl
theorem rt_snoc (hd:Down par):∀ b,rt (par++[par.length]) b=rt par b:=by
 have hd':=down_snoc hd
 intro b
 induction b using Nat.strongRecOn with
 | _ b ih=>
  rw [rt_step hd',getD_snoc _ _ rfl]
  by_cases q:b<par.length
  ·rw [if_pos q,rt_step hd b]
   by_cases z:par.getD b b=b
   ·rw [if_pos z,if_pos z]
   ·rw [if_neg z,if_neg z];exact ih _ (Nat.lt_of_le_of_ne (hd.at b) z)
  ·rw [if_neg q,if_pos rfl,rt_out hd (Nat.le_of_not_lt q)]
theorem roots_snoc:(roots (par++[par.length])).length=(roots par).length+1:=by
 have:roots (par++[par.length])=roots par++[par.length]:=by
  unfold roots
  rw [List.length_append,List.length_singleton,List.range_succ,List.filter_append]
  congr 1
  ·refine List.filter_congr fun i hi=>?_
   rw [getD_snoc _ _ rfl,if_pos (List.mem_range.mp hi)]
  ·rw [List.filter_cons_of_pos (by rw [getD_snoc _ _ rfl,if_neg (Nat.lt_irrefl _)];exact decide_eq_true rfl)];rfl
 rw [this,List.length_append];rfl
theorem root_snoc {r:Nat}:IsRoot (par++[par.length]) r↔IsRoot par r∨r=par.length:=by
 unfold IsRoot
 rcases Nat.lt_or_ge r par.length with q|q
 ·rw [List.getElem?_append_left q]
  exact ⟨.inl,fun h=>h.elim id fun e=>absurd e (Nat.ne_of_lt q)⟩
 ·rw [List.getElem?_append_right q]
  constructor
  ·intro h
   obtain ⟨h1,h2⟩:=List.getElem?_eq_some_iff.mp h
   rw [List.getElem_singleton] at h2
   exact .inr h2.symm
  ·rintro (h|h)
   ·rw [List.getElem?_eq_none q] at h;contradiction
   ·subst h;rw [Nat.sub_self];rfl
end
noncomputable def tot (l:List (Nat×List Nat)):Nat:=(l.map fun p=>p.2.length).sum
theorem tot_ap {k:Nat} {u v:List Nat}:∀ {l:List (Nat×List Nat)},ag l k=some u→tot (ap l k v)+u.length=tot l+v.length
 | (j,w)::r,h=>by
  by_cases q:j=k
  ·rw [show ag ((j,w)::r) k=some w from if_pos q] at h
   cases h
   rw [show ap ((j,u)::r) k v=(j,v)::r from if_pos q]
   show v.length+tot r+u.length=u.length+tot r+v.length
   rw [Nat.add_right_comm,Nat.add_comm v.length,Nat.add_right_comm]
  ·rw [show ag ((j,w)::r) k=ag r k from if_neg q] at h
   rw [show ap ((j,w)::r) k v=(j,w)::ap r k v from if_neg q]
   show w.length+tot (ap r k v)+u.length=w.length+tot r+v.length
   rw [Nat.add_assoc,tot_ap h,Nat.add_assoc]
theorem tot_new {k:Nat} {v:List Nat} {l:List (Nat×List Nat)} (h:ag l k=none):tot (ap l k v)=tot l+v.length:=by
 rw [ap_none h];simp [tot]
theorem tot_ad {k:Nat} {u:List Nat}:∀ {l:List (Nat×List Nat)},ag l k=some u→tot (ad l k)+u.length=tot l
 | (j,w)::r,h=>by
  by_cases q:j=k
  ·rw [show ag ((j,w)::r) k=some w from if_pos q] at h
   cases h
   rw [show ad ((j,u)::r) k=r from if_pos q]
   exact Nat.add_comm _ _
  ·rw [show ag ((j,w)::r) k=ag r k from if_neg q] at h
   rw [show ad ((j,w)::r) k=(j,w)::ad r k from if_neg q]
   show w.length+tot (ad r k)+u.length=w.length+tot r
   rw [Nat.add_assoc,tot_ad h]
theorem tot_le {k:Nat} {u:List Nat} {l:List (Nat×List Nat)} (h:ag l k=some u):u.length≤tot l:=by rw [← tot_ad h];exact Nat.le_add_left _ _
noncomputable def arity (op:Str):Nat:=if op = "f" then 1 else if op = "g" then 2 else 0
noncomputable def arOk (d:Nd):Prop:=opOk d.op∧d.kids.length=arity d.op
theorem arity_le (op:Str):arity op≤2:=by
 unfold arity
 split
 ·exact Nat.le_succ _
 ·split
  ·exact Nat.le_refl _
  ·exact Nat.zero_le _
noncomputable def All2 (E:Nat→Nat→Prop) (l l':List Nat):Prop:=l.length=l'.length∧∀ (i x y:Nat),l[i]? = some x→l'[i]? = some y→E x y
noncomputable def Cong (E:Nat→Nat→Prop) (nodes:List Nd):Prop:=∀ (i j:Nat) d d',nodes[i]? = some d→nodes[j]? = some d'→d.op=d'.op→All2 E d.kids d'.kids→E i j
theorem All2.of_map {E:Nat→Nat→Prop} (hE:Equivalence E) {f:Nat→Nat} (hf:∀ i,E i (f i)) {l l':List Nat} (h:l.map f=l'.map f):All2 E l l':=by
 refine ⟨by have:=congrArg List.length h;rwa [List.length_map,List.length_map] at this,fun i x y hx hy=>?_⟩
 have e:(l.map f)[i]? = (l'.map f)[i]?:=by rw [h]
 rw [List.getElem?_map,List.getElem?_map,hx,hy] at e
 have e:f x=f y:=Option.some.inj e
 exact hE.trans (hf x) (e▸hE.symm (hf y))
structure HInv (X:List Nat) (B:Nat) (H:HS):Prop where
 lp:H.par.length=H.nodes.length
 ll:H.lots.length=H.nodes.length
 nums:H.nums=numsOf H.nodes
 nd:H.nodes.Nodup
 kids:∀ (i:Nat) d,H.nodes[i]? = some d→∀ k∈d.kids,k<i
 ar:∀ d∈H.nodes,arOk d
 ws:(∀ u∈H.ws,isInt u)∧H.ws.length=H.nodes.length
 ds:(∀ u∈H.ds,isInt u)∧H.ds.length=H.nodes.length
 down:Down H.par
 lots:∀ (r:Nat) l,IsRoot H.par r→H.lots[r]? = some l→l.Perm ((List.range H.nodes.length).filter fun i=>decide (rt H.par i=r))
 keys:(H.ab.map (·.1)).Nodup
 ab:∀ r:Nat,IsRoot H.par r↔∃ l,ag H.ab r=some l
 abk:∀ (i:Nat) d k,H.nodes[i]? = some d→k∈d.kids→∃ l,ag H.ab (rt H.par k)=some l∧i∈l
 abr:∀ r l,ag H.ab r=some l→∀ i∈l,i<H.nodes.length
 wait:∀ i∈H.wait,i<H.nodes.length
 kk:(H.known.map (·.1)).Nodup
 known:∀ e m,ag H.known e=some m→∃ d,H.nodes[m]? = some d∧e.op=d.op∧e.kids.map (rt H.par)=d.kids.map (rt H.par)
 full:∀ (i:Nat) d,H.nodes[i]? = some d→i∈X∨i∈H.wait∨∃ m,ag H.known (cn H.par d)=some m∧rt H.par m=rt H.par i
 size:H.known.length+H.wait.length+X.length+tot H.ab*(roots H.par).length≤(tot H.ab+1)*H.nodes.length
 tot:tot H.ab≤2*H.nodes.length
 pot:H.es.length+(roots H.par).length≤B
 fs:H.fs.length≤H.es.length
 ms:H.ms.length≤H.es.length
noncomputable def HS.mu (H:HS):Nat:=H.wait.length+Mine.tot H.ab*(roots H.par).length
structure Evo (H H':HS):Prop where
 nodes:H'.nodes=H.nodes
 mono:∀ i j,rt H.par i=rt H.par j→rt H'.par i=rt H'.par j
 snd:∀ E,Equivalence E→Cong E H.nodes→(∀ i,E i (rt H.par i))→∀ i,E i (rt H'.par i)
theorem Evo.refl (H:HS):Evo H H:=⟨rfl,fun o_ o_ e=>e,fun o_ o_ o_ h=>h⟩
theorem Evo.trans {H H₁ H₂:HS} (a:Evo H H₁) (b:Evo H₁ H₂):Evo H H₂:=⟨b.nodes.trans a.nodes,fun i j e=>b.mono i j (a.mono i j e),fun E hE hc h=>b.snd E hE (by rw [a.nodes];exact hc) (a.snd E hE hc h)⟩
theorem filter_or {α:Type} (p q:α→Bool):∀ (l:List α),(∀ x∈l,¬ (p x=true∧q x=true))→(l.filter p++l.filter q).Perm (l.filter fun x=>p x || q x)
 | [],_=>.nil
 | x::l,h=>by
  have ih:=filter_or p q l fun y hy=>h y (.tail _ hy)
  have hx:=h x (.head _)
  rw [List.filter_cons,List.filter_cons,List.filter_cons]
  cases hp:p x <;> cases hq:q x
  ·exact ih
  ·exact List.perm_middle.trans (ih.cons x)
  ·exact ih.cons x
  ·exact absurd ⟨hp,hq⟩ hx
section
variable {X:List Nat} {B:Nat} {H:HS}
theorem HInv.joinOk (I:HInv X B H) (hn:H.nodes.length≤64) (hB:B≤9999):JoinOk H:=by
 have ht:Mine.tot H.ab≤128:=Nat.le_trans I.tot (by omega)
 have hes:H.es.length≤9999:=by have:=I.pot;omega
 have hw:H.known.length+H.wait.length≤129*64:=by
  have h1:=I.size
  have h2:(Mine.tot H.ab+1)*H.nodes.length≤129*64:=Nat.mul_le_mul (by exact Nat.succ_le_succ (by assumption)) hn
  omega
 have hab:H.ab.length≤H.nodes.length:=by
  have h1:(H.ab.map (·.1)) ⊆ List.range H.nodes.length:=fun r hr=>by
   rcases e:ag H.ab r with _|l
   ·exact absurd hr (ag_none.mp e)
   ·exact List.mem_range.mpr (I.lp▸isRoot_lt ((I.ab r).mpr ⟨l,e⟩))
  have h2:=I.keys.length_le_of_subset h1
  rwa [List.length_map,List.length_range] at h2
 refine ⟨I.down,by rw [I.lp];exact Nat.le_trans (by assumption) (by decide),I.ll.trans I.lp.symm,Nat.le_trans I.ms hes,hes,Nat.le_trans I.fs hes,by omega,by exact Nat.le_trans (by assumption) (Nat.le_trans (by assumption) (by decide)),fun r l hr hl=>?_,fun b hb=>rt_root I.down b hb,I.keys,fun r hr=>?_⟩
 ·have:=(I.lots r l hr hl).length_eq
  have h2:=List.length_filter_le (fun i=>decide (rt H.par i=r)) (List.range H.nodes.length)
  rw [List.length_range] at h2
  omega
 ·obtain ⟨l,hl⟩:=(I.ab r).mp hr
  have:=tot_le hl
  exact ⟨l,hl,by exact Nat.le_trans (by assumption) (Nat.le_trans (by assumption) (by decide))⟩
theorem joined_rt (I:HInv X B H) {lo hi:Nat} (h:lo<hi) (hl:IsRoot H.par lo) (hh:IsRoot H.par hi) (b:Nat):rt (H.par.set hi lo) b=if rt H.par b=hi then lo else rt H.par b:=rt_set I.down h hl hh b
theorem joined_mono (I:HInv X B H) {lo hi:Nat} (h:lo<hi) (hl:IsRoot H.par lo) (hh:IsRoot H.par hi) (i j:Nat) (e:rt H.par i=rt H.par j):rt (H.par.set hi lo) i=rt (H.par.set hi lo) j:=by
 rw [joined_rt I h hl hh,joined_rt I h hl hh,e]
theorem joined_snd (I:HInv X B H) {lo hi:Nat} (h:lo<hi) (hl:IsRoot H.par lo) (hh:IsRoot H.par hi) {E:Nat→Nat→Prop} (hE:Equivalence E) (he:E lo hi) (hs:∀ i,E i (rt H.par i)) (i:Nat):E i (rt (H.par.set hi lo) i):=by
 rw [joined_rt I h hl hh]
 split
 ·rename_i q;exact hE.trans (hs i) (q▸hE.symm he)
 ·exact hs i
set_option maxHeartbeats 1000000 in
theorem joined_inv (I:HInv X B H) {x:V} {lo hi:Nat} {l1 l2:List Nat} (h:lo<hi) (hl:IsRoot H.par lo) (hh:IsRoot H.par hi) (e1:ag H.ab lo=some l1) (e2:ag H.ab hi=some l2) :
  HInv X B (H.joined x lo hi l1 l2)∧(H.joined x lo hi l1 l2).mu≤H.mu:=by
 have hrt:=joined_rt I h hl hh
 have hne:lo≠hi:=Nat.ne_of_lt h
 have hr:=roots_set I.down h hl hh
 have e1':ag (ad H.ab hi) lo=some l1:=by rw [ag_ad _ _ I.keys,if_neg hne];exact e1
 have htot:Mine.tot (ap (ad H.ab hi) lo (l1++l2))=Mine.tot H.ab:=by
  have h1:=tot_ap (v:=l1++l2) e1'
  have h2:=tot_ad e2
  rw [List.length_append] at h1
  omega
 have hag:∀ r,ag (ap (ad H.ab hi) lo (l1++l2)) r=if r=lo then some (l1++l2) else if r=hi then none else ag H.ab r:=fun r=>by rw [ag_ap,ag_ad _ _ I.keys]
 have hroot:∀ r:Nat,IsRoot (H.par.set hi lo) r↔r≠hi∧IsRoot H.par r:=fun r=>by
  by_cases q:r=hi
  ·subst q
   refine ⟨fun z=>?_,fun z=>absurd rfl z.1⟩
   have:=isRoot_getD z
   rw [getD_set _ _ _ _ (isRoot_lt hh),if_pos rfl] at this
   exact absurd this hne
  ·rw [IsRoot,List.getElem?_set_ne (Ne.symm q)]
   exact ⟨fun z=>⟨q,z⟩,fun z=>z.2⟩
 have hl2:=tot_le e2
 have mono:=joined_mono I h hl hh
 refine ⟨{ lp:=(List.length_set ..).trans I.lp,ll:=(List.length_set ..).trans I.ll,nums:=I.nums,nd:=I.nd,kids:=I.kids,ar:=I.ar,ws:=I.ws,ds:=I.ds,down:=down_set I.down h,lots:=?_,keys:=ap_nodup (ad_nodup I.keys),ab:=?_,abk:=?_,abr:=?_,wait:=?_,kk:=I.kk,known:=?_,full:=?_,size:=?_,tot:=?_,pot:=?_,fs:=?_,ms:=?_ },?_⟩
 ·intro r l hr hl'
  have hr':=(hroot r).mp hr
  show l.Perm ((List.range H.nodes.length).filter fun i=>decide (rt (H.par.set hi lo) i=r))
  have hl':(H.lots.set lo (H.lots.getD lo []++H.lots.getD hi []))[r]? = some l:=hl'
  by_cases q:r=lo
  ·subst q
   have z1:r<H.lots.length:=I.ll▸I.lp▸isRoot_lt hl
   have z2:hi<H.lots.length:=I.ll▸I.lp▸isRoot_lt hh
   rw [List.getElem?_set_self z1] at hl'
   (injection hl' with hl';subst hl')
   refine ((I.lots r _ hl (getD_at [] z1)).append (I.lots hi _ hh (getD_at [] z2))).trans ((filter_or _ _ _ fun i o_ z=>?_).trans (.of_eq (List.filter_congr fun i o_=>?_)))
   ·have a1:=of_decide_eq_true z.1
    have a2:=of_decide_eq_true z.2
    exact hne (a1.symm.trans a2)
   ·rw [hrt]
    by_cases w:rt H.par i=hi
    ·simp [w,Ne.symm hne]
    ·simp [w]
  ·rw [List.getElem?_set_ne (Ne.symm q)] at hl'
   refine (I.lots r l hr'.2 hl').trans (.of_eq (List.filter_congr fun i o_=>?_))
   rw [hrt]
   by_cases w:rt H.par i=hi
   ·simp [w,Ne.symm hr'.1,Ne.symm q]
   ·simp [w]
 ·intro r
  rw [show IsRoot (H.joined x lo hi l1 l2).par r↔_ from hroot r]
  show _↔∃ l,ag (ap (ad H.ab hi) lo (l1++l2)) r=some l
  rw [hag]
  by_cases q:r=lo
  ·subst q;rw [if_pos rfl];exact ⟨fun o_=>⟨_,rfl⟩,fun o_=>⟨hne,hl⟩⟩
  ·rw [if_neg q]
   by_cases w:r=hi
   ·subst w;rw [if_pos rfl];exact ⟨fun z=>absurd rfl z.1,fun z=>nomatch z⟩
   ·rw [if_neg w,← I.ab r];exact ⟨fun z=>z.2,fun z=>⟨w,z⟩⟩
 ·intro i d k hi' hk
  show ∃ l,ag (ap (ad H.ab hi) lo (l1++l2)) (rt (H.par.set hi lo) k)=some l∧i∈l
  obtain ⟨l,h1,h2⟩:=I.abk i d k hi' hk
  rw [hag,hrt]
  by_cases w:rt H.par k=hi
  ·rw [if_pos w,if_pos rfl]
   rw [w,e2] at h1;(injection h1 with h1;subst h1)
   exact ⟨_,rfl,List.mem_append_right _ h2⟩
  ·rw [if_neg w]
   by_cases q:rt H.par k=lo
   ·rw [if_pos q]
    rw [q,e1] at h1;(injection h1 with h1;subst h1)
    exact ⟨_,rfl,List.mem_append_left _ h2⟩
   ·rw [if_neg q,if_neg w];exact ⟨l,h1,h2⟩
 ·intro r l hr i hi'
  have hr:ag (ap (ad H.ab hi) lo (l1++l2)) r=some l:=hr
  rw [hag] at hr
  by_cases q:r=lo
  ·rw [if_pos q] at hr
   (injection hr with hr;subst hr)
   rcases List.mem_append.mp hi' with z|z
   ·exact I.abr _ _ e1 i z
   ·exact I.abr _ _ e2 i z
  ·rw [if_neg q] at hr
   by_cases w:r=hi
   ·rw [if_pos w] at hr;contradiction
   ·rw [if_neg w] at hr;exact I.abr _ _ hr i hi'
 ·intro i hi'
  rcases List.mem_append.mp hi' with z|z
  ·exact I.wait i z
  ·exact I.abr _ _ e2 i z
 ·intro e m hm
  obtain ⟨d,h1,h2,h3⟩:=I.known e m hm
  refine ⟨d,h1,h2,?_⟩
  have:∀ l:List Nat,l.map (rt (H.par.set hi lo))=(l.map (rt H.par)).map fun r=>if r=hi then lo else r:=fun l=>by
   rw [List.map_map];exact List.map_congr_left fun b o_=>hrt b
  show e.kids.map (rt (H.par.set hi lo))=d.kids.map (rt (H.par.set hi lo))
  rw [this,this,h3]
 ·intro i d hd
  show i∈X∨i∈H.wait++l2∨∃ m,ag H.known (cn (H.par.set hi lo) d)=some m∧rt (H.par.set hi lo) m=rt (H.par.set hi lo) i
  rcases I.full i d hd with z|z|⟨m,z1,z2⟩
  ·exact .inl z
  ·exact .inr (.inl (List.mem_append_left _ z))
  ·by_cases w:∃ k∈d.kids,rt H.par k=hi
   ·obtain ⟨k,hk,hk'⟩:=w
    obtain ⟨l,a1,a2⟩:=I.abk i d k hd hk
    rw [hk',e2] at a1;(injection a1 with a1;subst a1)
    exact .inr (.inl (List.mem_append_right _ a2))
   ·have:cn (H.par.set hi lo) d=cn H.par d:=by
     unfold cn
     rw [List.map_congr_left fun k hk=>(hrt k).trans (if_neg fun e=>w ⟨k,hk,e⟩)]
    rw [this]
    exact .inr (.inr ⟨m,z1,mono m i z2⟩)
 ·show H.known.length+(H.wait++l2).length+X.length+Mine.tot (ap (ad H.ab hi) lo (l1++l2))*(roots (H.par.set hi lo)).length≤(Mine.tot (ap (ad H.ab hi) lo (l1++l2))+1)*H.nodes.length
  rw [htot,List.length_append]
  have:=I.size
  rw [← hr,Nat.mul_succ] at this
  omega
 ·show Mine.tot (ap (ad H.ab hi) lo (l1++l2))≤_
  rw [htot];exact I.tot
 ·show (H.es++[x]).length+(roots (H.par.set hi lo)).length≤B
  have:=I.pot
  rw [List.length_append,List.length_singleton]
  omega
 ·show (H.fs++[_]).length≤(H.es++[x]).length
  rw [List.length_append,List.length_append];exact Nat.succ_le_succ I.fs
 ·show (H.ms++[_]).length≤(H.es++[x]).length
  rw [List.length_append,List.length_append];exact Nat.succ_le_succ I.ms
 ·show (H.wait++l2).length+Mine.tot (ap (ad H.ab hi) lo (l1++l2))*(roots (H.par.set hi lo)).length≤H.wait.length+Mine.tot H.ab*(roots H.par).length
  rw [htot,List.length_append,← hr,Nat.mul_succ]
  omega
end
section
variable {X:List Nat} {B:Nat} {H:HS}
theorem HInv.lt (I:HInv X B H) {i:Nat} {d:Nd} (h:H.nodes[i]? = some d):i<H.par.length:=I.lp▸(List.getElem?_eq_some_iff.mp h).1
theorem HInv.kid_lt (I:HInv X B H) {i:Nat} {d:Nd} (h:H.nodes[i]? = some d):∀ k∈d.kids,k<H.par.length:=fun k hk=>Nat.lt_trans (I.kids i d h k hk) (I.lt h)
theorem HInv.kid_len (I:HInv X B H) {i:Nat} {d:Nd} (h:H.nodes[i]? = some d):d.kids.length≤2:=by
 rw [(I.ar d (List.mem_of_getElem? h)).2];exact arity_le _
theorem HInv.alike (I:HInv X B H) {b m:Nat} {d:Nd} (hb:H.nodes[b]? = some d) (hm:ag H.known (cn H.par d)=some m):m<H.par.length∧∀ E,Equivalence E→Cong E H.nodes→(∀ i,E i (rt H.par i))→E m b:=by
 obtain ⟨e,h1,h2,h3⟩:=I.known _ _ hm
 refine ⟨I.lt h1,fun E hE hc hs=>hc m b e d h1 hb h2.symm (All2.of_map hE hs ?_)⟩
 rw [← h3]
 show (d.kids.map (rt H.par)).map (rt H.par)=_
 rw [List.map_map]
 exact List.map_congr_left fun k hk=>rt_rt I.down (I.kid_lt hb k hk)
theorem HInv.drop {b:Nat} (I:HInv [b] B H) {d:Nd} (hb:H.nodes[b]? = some d) (hf:b∈H.wait∨∃ m,ag H.known (cn H.par d)=some m∧rt H.par m=rt H.par b):HInv [] B H:=
 { I with
  full:=fun i e he=>by
   rcases I.full i e he with z|z
   ·rw [List.mem_singleton.mp z] at he ⊢
    rw [hb] at he;(injection he with he;subst he)
    exact .inr hf
   ·exact .inr z
  size:=by have:=I.size;rw [List.length_singleton] at this;show _+0+_≤_;omega }
theorem HInv.learn {b:Nat} (I:HInv [b] B H) {d:Nd} (hb:H.nodes[b]? = some d) (hk:ag H.known (cn H.par d)=none):HInv [] B (H.sKnown (ap H.known (cn H.par d) b)):=
 { I with
  kk:=ap_nodup I.kk
  known:=fun e m hm=>by
   have hm:ag (ap H.known (cn H.par d) b) e=some m:=hm
   rw [ag_ap] at hm
   by_cases q:e=cn H.par d
   ·rw [if_pos q] at hm;(injection hm with hm;subst hm)
    refine ⟨d,hb,by rw [q];rfl,?_⟩
    rw [q]
    show (d.kids.map (rt H.par)).map (rt H.par)=d.kids.map (rt H.par)
    rw [List.map_map]
    exact List.map_congr_left fun k hk=>rt_rt I.down (I.kid_lt hb k hk)
   ·rw [if_neg q] at hm;exact I.known e m hm
  full:=fun i e he=>by
   show i∈[]∨i∈H.wait∨∃ m,ag (ap H.known (cn H.par d) b) (cn H.par e)=some m∧rt H.par m=rt H.par i
   rw [ag_ap]
   rcases I.full i e he with z|z|⟨m,z1,z2⟩
   ·rw [List.mem_singleton.mp z] at he ⊢
    cases hb.symm.trans he
    rw [if_pos rfl];exact .inr (.inr ⟨b,rfl,rfl⟩)
   ·exact .inr (.inl z)
   ·by_cases q:cn H.par e=cn H.par d
    ·rw [q,hk] at z1;contradiction
    ·rw [if_neg q];exact .inr (.inr ⟨m,z1,z2⟩)
  size:=by
   have:=I.size
   rw [List.length_singleton] at this
   show (ap H.known (cn H.par d) b).length+H.wait.length+0+_≤_
   rw [ap_none hk,List.length_append]
   show _+1+_+0+Mine.tot H.ab*(roots H.par).length≤(Mine.tot H.ab+1)*H.nodes.length
   omega }
theorem joined_full {b m:Nat} (I:HInv [b] B H) {x:V} {lo hi:Nat} {l1 l2:List Nat} (h:lo<hi) (hl:IsRoot H.par lo) (hh:IsRoot H.par hi) (e2:ag H.ab hi=some l2) {d:Nd} (hb:H.nodes[b]? = some d) (hk:ag H.known (cn H.par d)=some m)
  (hor:lo=rt H.par m∧hi=rt H.par b∨lo=rt H.par b∧hi=rt H.par m):b∈H.wait++l2∨∃ m,ag H.known (cn (H.par.set hi lo) d)=some m∧rt (H.par.set hi lo) m=rt (H.par.set hi lo) b:=by
 have hrt:=joined_rt I h hl hh
 by_cases w:∃ k∈d.kids,rt H.par k=hi
 ·obtain ⟨k,hk,hk'⟩:=w
  obtain ⟨l,a1,a2⟩:=I.abk b d k hb hk
  rw [hk',e2] at a1;(injection a1 with a1;subst a1)
  exact .inl (List.mem_append_right _ a2)
 ·have:cn (H.par.set hi lo) d=cn H.par d:=by
   unfold cn
   rw [List.map_congr_left fun k hk=>(hrt k).trans (if_neg fun e=>w ⟨k,hk,e⟩)]
  rw [this]
  refine .inr ⟨m,hk,?_⟩
  rw [hrt,hrt]
  rcases hor with ⟨z1,z2⟩|⟨z1,z2⟩
  ·rw [← z1,← z2,if_pos rfl,if_neg (Nat.ne_of_lt h)]
  ·rw [← z1,← z2,if_pos rfl,if_neg (Nat.ne_of_lt h)]
theorem HInv.more (I:HInv X B H) {B':Nat} (h:B≤B'):HInv X B' H:={ I with pot:=Nat.le_trans I.pot h }
theorem HInv.edge (I:HInv X B H) (x:V):HInv X (B+1) (H.sEs (H.es++[x])):=
 { I with
  pot:=by have:=I.pot;show (H.es++[x]).length+_≤_;rw [List.length_append];show _+1+(roots H.par).length≤_;omega
  fs:=by show _≤(H.es++[x]).length;rw [List.length_append];exact Nat.le_succ_of_le I.fs
  ms:=by show _≤(H.es++[x]).length;rw [List.length_append];exact Nat.le_succ_of_le I.ms }
end
structure Evo1 (b c:Nat) (H H':HS):Prop where
 nodes:H'.nodes=H.nodes
 mono:∀ i j,rt H.par i=rt H.par j→rt H'.par i=rt H'.par j
 eq:rt H'.par b=rt H'.par c
 snd:∀ E,Equivalence E→E b c→(∀ i,E i (rt H.par i))→∀ i,E i (rt H'.par i)
section
variable {cx:Cx} {a:Ads} {n:Nat} {sc csc:Scope} {Γ:Str→Option V} {σ:Store} {Q:V→Store→Prop} {loc:Slot→Addr} {H:HS} {B:Nat}
theorem H_joinI (P:Px cx a) (h:HeapAt a.c σ loc H) {X:List Nat} (I:HInv X B H) (hn:H.nodes.length≤64) (hB:B≤9999) {b c:Nat} {re:V} (hb:b<H.par.length) (hc:c<H.par.length)
  (q:∀ r σ' loc' H',Mv a.c σ loc H σ' loc' H'→HInv X (B+1) H'→Evo1 b c H H'→Q (.bool r) σ'):Cc cx (n+3) σ (.ref a.heap_join) [hV a loc,.int b,.int c,re] Q:=by
 refine H_join P h (I.joinOk hn hB) hb hc (fun e σ' m=>q _ _ _ _ m (I.edge _) ⟨rfl,fun o_ o_ z=>z,e,fun o_ o_ o_ z=>z⟩) fun lo hi l1 l2 hlt hor e1 e2 σ' loc' m=>?_
 have hl:=(I.ab lo).mpr ⟨_,e1⟩
 have hh:=(I.ab hi).mpr ⟨_,e2⟩
 refine q _ _ _ _ m ((joined_inv I hlt hl hh e1 e2).1.more (Nat.le_succ _)) ⟨rfl,joined_mono I hlt hl hh,?_,fun E hE he hs=>joined_snd I hlt hl hh hE ?_ hs⟩
 ·have hrt:=joined_rt I hlt hl hh
  show rt (H.par.set hi lo) b=rt (H.par.set hi lo) c
  rw [hrt,hrt]
  rcases hor with ⟨z1,z2⟩|⟨z1,z2⟩
  ·rw [← z1,← z2,if_pos rfl,if_neg (Nat.ne_of_lt hlt)]
  ·rw [← z1,← z2,if_pos rfl,if_neg (Nat.ne_of_lt hlt)]
 ·have:E (rt H.par b) (rt H.par c):=hE.trans (hE.symm (hs b)) (hE.trans he (hs c))
  rcases hor with ⟨z1,z2⟩|⟨z1,z2⟩
  ·rw [z1,z2];exact this
  ·rw [z1,z2];exact hE.symm this
theorem H_merge (P:Px cx a) (h:HeapAt a.c σ loc H) {X:List Nat} (I:HInv X B H) (hn:H.nodes.length≤64) (hB:B≤9999) {b c:Nat} {re:V} (hb:b<H.par.length) (hc:c<H.par.length)
  (q:∀ r σ' loc' H',Mv a.c σ loc H σ' loc' H'→HInv X (B+1) H'→Evo1 b c H H'→Q (.bool r) σ'):Cc cx (n+4) σ (.ref a.heap_merge) [hV a loc,.int b,.int c,re] Q:=by
 refine P.heap_merge.go rfl ?_
 conv=>arg 6;whnf
 exact Exs_ret (Ev_m (EvIs_loc rfl) (can_h h P.heap_join_m) (.cons (EvIs_loc rfl) (.cons (EvIs_loc rfl) (.cons (EvIs_loc rfl) .nil))) (H_joinI P h I hn hB hb hc q))
theorem H_look (P:Px cx a) (h:HeapAt a.c σ loc H) {b:Nat} (I:HInv [b] B H) (hn:H.nodes.length≤64) (hB:B≤9999) {d:Nd} (hb:H.nodes[b]? = some d)
  (q:∀ σ' loc' H',Mv a.c σ loc H σ' loc' H'→HInv [] B H'→Evo H H'→H'.mu≤H.mu→Q .none σ'):Cc cx (n+4) σ (.ref a.heap_look_at) [hV a loc,.int b] Q:=by
 refine P.heap_look_at.go rfl ?_
 conv=>arg 6;whnf
 have J:=I.joinOk hn hB
 have zp:H.par.length≤1000000:=Nat.le_trans J.zp (by decide)
 have zn:H.nodes.length≤1000000:=Nat.le_trans hn (by decide)
 have zk:(encN H.known).length≤1000000:=by
  rw [encN_len]
  have h1:=I.size
  have h2:(tot H.ab+1)*H.nodes.length≤129*64:=Nat.mul_le_mul (by have:=I.tot;omega) hn
  omega
 have hkn:lk σ (.ref (loc .hk))=some (.dT (encN H.known)):=h.get (k:=.hk) rfl
 refine Exs_name (Ev_bm (EvIs_at (EvIs_loc rfl) (fl_known h) P.heap_a_known) (Mt_setdefT hkn) (.cons (Ev_m (EvIs_loc rfl) (can_h h P.heap_node_m) (.cons (EvIs_loc rfl) .nil) (H_node P h I.down zp zn hb (I.kid_lt hb) (Nat.le_trans (I.kid_len hb) (by decide)))) (.cons (EvIs_loc rfl) .nil)) (Cl_setdefT hkn zk (fun v hv=>?_) fun hv=>?_))
 ·rw [dget_encN,Option.map_eq_some_iff] at hv
  obtain ⟨m,hm,rfl⟩:=hv
  obtain ⟨hml,hal⟩:=I.alike hb hm
  refine Exs_if (Te_cm (Ev_m (EvIs_loc rfl) (can_h h P.heap_find_m) (.cons (EvIs_loc rfl) .nil) (H_find P h I.down zp hml)) (Ev_m (EvIs_loc rfl) (can_h h P.heap_find_m) (.cons (EvIs_loc rfl) .nil) (H_find P h I.down zp (I.lt hb))) (P2_nei (.of ⟨rfl,rfl⟩))) (fun e=>?_) fun e=>?_
  ·have hne:rt H.par m≠rt H.par b:=fun z=>by rw [z,decide_eq_true rfl] at e;contradiction
   refine Exs_expr (Ev_m (EvIs_loc rfl) (can_h h P.heap_join_m) (.cons (EvIs_loc rfl) (.cons (EvIs_loc rfl) (.cons (EvIs_tup (.cons EvIs_str .nil)) .nil))) (H_join P h J hml (I.lt hb) (fun z=>absurd z hne) fun lo hi l1 l2 hlt hor e1 e2 σ' loc' mv=>⟨rfl,Exs_nil (Exs_nil ?_)⟩))
   have hl:=(I.ab lo).mpr ⟨_,e1⟩
   have hh:=(I.ab hi).mpr ⟨_,e2⟩
   have hj:=joined_inv (x:=.tup [.int m,.int b,.tup [.str "like"]]) I hlt hl hh e1 e2
   refine q _ _ _ mv (hj.1.drop hb (joined_full (x:=.none) (l1:=[]) I hlt hl hh e2 hb hm hor)) ⟨rfl,joined_mono I hlt hl hh,fun E hE hc hs=>joined_snd I hlt hl hh hE ?_ hs⟩ hj.2
   have:=hE.trans (hE.symm (hs m)) (hE.trans (hal E hE hc hs) (hs b))
   rcases hor with ⟨z1,z2⟩|⟨z1,z2⟩
   ·rw [z1,z2];exact this
   ·rw [z1,z2];exact hE.symm this
  ·have he:rt H.par m=rt H.par b:=Int.ofNat_inj.mp (by simpa using e)
   exact Exs_nil (Exs_nil (q _ _ _ (Mv.refl h) (I.drop hb (.inr ⟨m,hm,he⟩)) (Evo.refl H) (Nat.le_refl _)))
 ·rw [dget_encN,Option.map_eq_none_iff] at hv
  rw [dput_encN I.kk]
  have mv:=mv_known h (ap H.known (cn H.par d) b)
  skip
  generalize σ.set (loc .hk) (.dT (encN (ap H.known (cn H.par d) b)))=σ₁ at mv ⊢
  have I':=I.learn hb hv
  refine Exs_if (b:=false) (Te_cm (Ev_m (EvIs_loc rfl) (can_h mv.at_ P.heap_find_m) (.cons (EvIs_loc rfl) .nil) (H_find P mv.at_ I'.down zp (I.lt hb))) (Ev_m (EvIs_loc rfl) (can_h mv.at_ P.heap_find_m) (.cons (EvIs_loc rfl) .nil) (H_find P mv.at_ I'.down zp (I.lt hb))) (P2_nei (.of ⟨by rw [decide_eq_true rfl];rfl,rfl⟩))) (fun e=>Bool.noConfusion e) fun e=>?_
  exact Exs_nil (Exs_nil (q _ _ _ mv I' ⟨rfl,fun o_ o_ z=>z,fun o_ o_ o_ z=>z⟩ (Nat.le_refl _)))
end
section
variable {X:List Nat} {B:Nat} {H:HS}
theorem HInv.pop {w:List Nat} {b:Nat} (I:HInv [] B H) (hw:H.wait=w++[b]):HInv [b] B (H.sWait w)∧(H.sWait w).mu+1=H.mu:=by
 have hl:H.wait.length=w.length+1:=by rw [hw,List.length_append];rfl
 refine ⟨{ I with
  wait:=fun i hi=>I.wait i (hw▸List.mem_append_left _ hi)
  full:=fun i e he=>by
   rcases I.full i e he with z|z|z
   ·contradiction
   ·rw [hw] at z
    rcases List.mem_append.mp z with z|z
    ·exact .inr (.inl z)
    ·exact .inl z
   ·exact .inr (.inr z)
  size:=by
   have:=I.size
   rw [hl] at this
   show H.known.length+w.length+1+Mine.tot H.ab*(roots H.par).length≤(Mine.tot H.ab+1)*H.nodes.length
   exact Nat.le_trans (Nat.le_of_eq (by simp only [List.length_nil];omega)) this },?_⟩
 unfold HS.mu
 rw [hl]
 show w.length+Mine.tot H.ab*(roots H.par).length+1=_
 exact Nat.add_right_comm _ _ _
end
section
variable {cx:Cx} {a:Ads} {n:Nat} {sc csc:Scope} {Γ:Str→Option V} {σ:Store} {Q:V→Store→Prop} {loc:Slot→Addr} {H:HS} {B:Nat}
theorem Mv.hv {loc':Slot→Addr} {H':HS} {σ':Store} (m:Mv a.c σ loc H σ' loc' H'):hV a loc'=hV a loc:=by unfold hV;rw [m.hd]
theorem H_settle (P:Px cx a) (h:HeapAt a.c σ loc H) (I:HInv [] B H) (hn:H.nodes.length≤64) (hB:B≤9999)
  (q:∀ σ' loc' H',Mv a.c σ loc H σ' loc' H'→HInv [] B H'→Evo H H'→H'.wait=[]→Q .none σ'):Cc cx (n+5) σ (.ref a.heap_settle) [hV a loc] Q:=by
 refine P.heap_settle.go rfl ?_
 conv=>arg 6;whnf
 refine Exs_cons (Ex_while (fun m Γ₁ σ₁=>Γ₁ ("self" : Str)=some (hV a loc)∧∃ loc₁ H₁,Mv a.c σ loc H σ₁ loc₁ H₁∧HInv [] B H₁∧Evo H H₁∧H₁.mu=m) H.mu ⟨rfl,loc,H,Mv.refl h,I,Evo.refl H,rfl⟩ ?_)
 rintro m Γ₁ σ₁ ⟨g0,loc₁,H₁,mv,I₁,ev,rfl⟩
 rw [← mv.hv] at g0
 have h₁:=mv.at_
 have hn₁:H₁.nodes.length≤64:=by rw [ev.nodes];exact hn
 have zw:=(I₁.joinOk hn₁ hB).zw
 have hw:lk σ₁ (.ref (loc₁ .hw))=some (nats H₁.wait):=h₁.get (k:=.hw) rfl
 refine Te_cm (Ev_b P.g_len (.cons (EvIs_at (EvIs_loc g0) (fl_waiting h₁) P.heap_a_waiting) .nil) (Cl_lenN hw (Nat.le_trans zw (by decide)) .rfl)) EvIs_int (P2_gt (.of ⟨fun e=>?_,fun e=>?_⟩))
 ·have hpos:H₁.wait≠[]:=fun z=>by rw [z] at e;exact absurd (of_decide_eq_true e) (by decide)
  obtain ⟨w,x,hwx⟩:∃ w x,H₁.wait=w++[x]:=⟨_,_,(List.dropLast_concat_getLast hpos).symm⟩
  obtain ⟨I₂,hmu⟩:=I₁.pop hwx
  have hx:x<H₁.nodes.length:=I₁.wait x (hwx▸List.mem_append_right _ (List.mem_singleton.mpr rfl))
  have hd:=List.getElem?_eq_getElem hx
  have m2:=mv.trans (mv_wait h₁ w)
  refine Exs_expr (Ev_meth ((EvIs_loc g0).ev ⟨_,(can_h h₁ P.heap_look_at_m).1,keeps_ref P.heap_look_at_m.keep,⟨rfl,Ev_bm (EvIs_at (EvIs_loc g0) (fl_waiting h₁) P.heap_a_waiting) (Mt_pop hw) .nil (Cl_pop (l:=vi w) (u:=.int (x:Nat)) ?_ ?_ (Cc.cl ?_))⟩⟩))
  ·rw [show V.lst (vi w++[V.int (x:Nat)])=nats (w++[x]) from nats_snoc w x,← hwx];exact hw
  ·rw [vi_len]
   rw [hwx,List.length_append] at zw
   exact Nat.le_trans (Nat.le_trans (Nat.le_add_right _ _) zw) (by decide)
  refine H_look P m2.at_ I₂ hn₁ hB hd fun σ₃ loc₃ H₃ m3 I₃ ev₃ hmu₃=>⟨rfl,Exs_nil ⟨H₃.mu,?_,m2.hv▸mv.hv▸g0,loc₃,H₃,m2.trans m3,I₃,ev.trans ⟨ev₃.nodes,ev₃.mono,ev₃.snd⟩,rfl⟩⟩
  exact Nat.lt_of_le_of_lt hmu₃ (by rw [← hmu];exact Nat.lt_succ_self _)
 ·have:H₁.wait=[]:=by
   rcases z:H₁.wait with _|⟨x,r⟩
   ·rfl
   ·rw [z] at e;exact absurd (of_decide_eq_false e) (by simp)
  exact Exs_nil (q _ _ _ mv I₁ ev this)
end
noncomputable def abApp (n:Nat):List Nat→List (Nat×List Nat)→List (Nat×List Nat)
 | [],ab=>ab
 | c::cs,ab=>abApp n cs (ap ab c ((ag ab c).getD []++[n]))
theorem abApp_snoc (n c:Nat):∀ (cs:List Nat) (ab:List (Nat×List Nat)),abApp n (cs++[c]) ab=ap (abApp n cs ab) c ((ag (abApp n cs ab) c).getD []++[n])
 | [],_=>rfl
 | _::cs,_=>abApp_snoc n c cs _
structure AppOk (n:Nat) (cs:List Nat) (ab ab':List (Nat×List Nat)):Prop where
 keys:ab'.map (·.1)=ab.map (·.1)
 to:∀ r l,ag ab r=some l→∃ l',ag ab' r=some l'∧(∀ i∈l,i∈l')∧(r∈cs→n∈l')∧∀ i∈l',i∈l∨i=n
 tot:tot ab'=tot ab+cs.length
theorem ag_keys {l l':List (Nat×List Nat)} (h:l'.map (·.1)=l.map (·.1)) (r:Nat):(∃ u,ag l' r=some u)↔∃ u,ag l r=some u:=by
 have:∀ l:List (Nat×List Nat),(∃ u,ag l r=some u)↔r∈l.map (·.1):=fun l=>by
  rcases e:ag l r with _|u
  ·exact ⟨(fun z=>nomatch z),fun z=>absurd z (ag_none.mp e)⟩
  ·exact ⟨fun o_=>List.mem_map.mpr ⟨_,ag_mem e,rfl⟩,fun o_=>⟨u,rfl⟩⟩
 rw [this,this,h]
theorem abApp_ok (n:Nat):∀ (cs:List Nat) (ab:List (Nat×List Nat)),(∀ c∈cs,∃ l,ag ab c=some l)→AppOk n cs ab (abApp n cs ab)
 | [],ab,_=>⟨rfl,fun r l h=>⟨l,h,fun o_ z=>z,(fun z=>by contradiction),fun o_ z=>.inl z⟩,rfl⟩
 | c::cs,ab,h=>by
  obtain ⟨l0,h0⟩:=h c (.head _)
  have hk:(ap ab c ((ag ab c).getD []++[n])).map (·.1)=ab.map (·.1):=ap_keys h0
  have ih:=abApp_ok n cs (ap ab c ((ag ab c).getD []++[n])) fun c' hc'=>(ag_keys hk c').mpr (h c' (.tail _ hc'))
  refine ⟨ih.keys.trans hk,fun r l hl=>?_,?_⟩
  ·by_cases q:r=c
   ·subst q
    rw [h0] at hl;(injection hl with hl;subst hl)
    obtain ⟨l',a1,a2,a3,a4⟩:=ih.to r (l0++[n]) (by rw [ag_ap,if_pos rfl,h0];rfl)
    refine ⟨l',a1,fun i hi=>a2 i (List.mem_append_left _ hi),fun o_=>a2 n (List.mem_append_right _ (List.mem_singleton.mpr rfl)),fun i hi=>?_⟩
    rcases a4 i hi with z|z
    ·rcases List.mem_append.mp z with z|z
     ·exact .inl z
     ·exact .inr (List.mem_singleton.mp z)
    ·exact .inr z
   ·obtain ⟨l',a1,a2,a3,a4⟩:=ih.to r l (by rw [ag_ap,if_neg q];exact hl)
    exact ⟨l',a1,a2,fun z=>a3 ((List.mem_cons.mp z).resolve_left q),a4⟩
  ·have h1:=tot_ap (v:=(ag ab c).getD []++[n]) h0
   have h2:((ag ab c).getD []++[n]).length=l0.length+1:=by rw [h0,List.length_append];rfl
   rw [h2] at h1
   show tot (abApp n cs _)=tot ab+(cs.length+1)
   rw [ih.tot]
   omega
noncomputable def HS.grown (H:HS) (d:Nd) (w e:Int) (out:List Nat):HS:=(H.taken d w e).made.sAb (abApp H.nodes.length out (ap H.ab H.nodes.length []))
section
variable {B:Nat} {H:HS}
set_option maxHeartbeats 1000000 in
theorem grown_inv (I:HInv [] B H) {d:Nd} (hd:d∉H.nodes) (har:arOk d) (hk:∀ k∈d.kids,k<H.nodes.length) {out:List Nat} (ho:∀ r,r∈out↔r∈d.kids.map (rt H.par)) (ho2:out.length≤2) (w e:Int) :
  HInv [H.nodes.length] (B+1) (H.grown d w e out):=by
 have hlp:=I.lp
 have hpar:(H.grown d w e out).par=H.par++[H.par.length]:=rfl
 have hrt:∀ b,rt (H.par++[H.par.length]) b=rt H.par b:=rt_snoc I.down
 have ab0:ag H.ab H.nodes.length=none:=by
  rcases z:ag H.ab H.nodes.length with _|l
  ·rfl
  ·exact absurd (isRoot_lt ((I.ab _).mpr ⟨l,z⟩)) (by rw [hlp];exact Nat.lt_irrefl _)
 have hroot:∀ k∈d.kids,IsRoot H.par (rt H.par k):=fun k hk'=>rt_root I.down k (hlp▸hk k hk')
 have hne:∀ {r:Nat},IsRoot H.par r→r≠H.nodes.length:=fun hr z=>absurd (isRoot_lt hr) (by rw [hlp,z];exact Nat.lt_irrefl _)
 have A:=abApp_ok H.nodes.length out (ap H.ab H.nodes.length []) fun c hc=>by
  obtain ⟨k,hk',rfl⟩:=List.mem_map.mp ((ho c).mp hc)
  rw [ag_ap,if_neg (hne (hroot k hk'))]
  exact (I.ab _).mp (hroot k hk')
 have hnodes:∀ {i:Nat} {e:Nd},(H.nodes++[d])[i]? = some e→H.nodes[i]? = some e∨i=H.nodes.length∧e=d:=fun {i e} h=>by
  rcases Nat.lt_or_ge i H.nodes.length with q|q
  ·rw [List.getElem?_append_left q] at h;exact .inl h
  ·rw [List.getElem?_append_right q] at h
   obtain ⟨h1,h2⟩:=List.getElem?_eq_some_iff.mp h
   rw [List.getElem_singleton] at h2
   have:i - H.nodes.length<1:=h1
   exact .inr ⟨by omega,h2.symm⟩
 have hag:∀ {r:Nat} {l},ag H.ab r=some l→∃ l',ag (H.grown d w e out).ab r=some l'∧(∀ i∈l,i∈l')∧(r∈out→H.nodes.length∈l'):=fun {r l} h=>by
  obtain ⟨l',a1,a2,a3,a4⟩:=A.to r l (by rw [ag_ap,if_neg (hne ((I.ab r).mpr ⟨l,h⟩))];exact h)
  exact ⟨l',a1,a2,a3⟩
 have hlen:(H.nodes++[d]).length=H.nodes.length+1:=List.length_append
 have hcn:∀ e:Nd,cn (H.par++[H.par.length]) e=cn H.par e:=fun e=>by unfold cn;rw [List.map_congr_left fun k o_=>hrt k]
 refine { lp:=?_,ll:=?_,nums:=?_,nd:=?_,kids:=?_,ar:=?_,ws:=?_,ds:=?_,down:=down_snoc I.down,lots:=?_,keys:=?_,ab:=?_,abk:=?_,abr:=?_,wait:=?_,kk:=I.kk,known:=?_,full:=?_,size:=?_,tot:=?_,pot:=?_,fs:=I.fs,ms:=I.ms }
 ·show (H.par++[_]).length=_;rw [List.length_append,hlp];exact hlen.symm
 ·show (H.lots++[_]).length=_;rw [List.length_append,I.ll];exact hlen.symm
 ·show H.nums++_=numsOf (H.nodes++[d]);rw [nums_snoc,I.nums]
 ·refine List.nodup_append.mpr ⟨I.nd,(by simp),fun a ha b hb z=>?_⟩
  rw [List.mem_singleton.mp hb] at z
  exact hd (z▸ha)
 ·intro i e' he k hk'
  rcases hnodes he with z|⟨z1,z2⟩
  ·exact I.kids i e' z k hk'
  ·rw [z1];rw [z2] at hk';exact hk k hk'
 ·intro e' he
  rcases List.mem_append.mp he with z|z
  ·exact I.ar e' z
  ·rw [List.mem_singleton.mp z];exact har
 ·refine ⟨fun u hu=>?_,?_⟩
  ·rcases List.mem_append.mp hu with z|z
   ·exact I.ws.1 u z
   ·rw [List.mem_singleton.mp z];trivial
  ·show (H.ws++[_]).length=_;rw [List.length_append,I.ws.2];exact hlen.symm
 ·refine ⟨fun u hu=>?_,?_⟩
  ·rcases List.mem_append.mp hu with z|z
   ·exact I.ds.1 u z
   ·rw [List.mem_singleton.mp z];trivial
  ·show (H.ds++[_]).length=_;rw [List.length_append,I.ds.2];exact hlen.symm
 ·intro r l hr hl
  replace hr:IsRoot (H.par++[H.par.length]) r:=hr
  show l.Perm ((List.range (H.nodes++[d]).length).filter fun i=>decide (rt (H.par++[H.par.length]) i=r))
  rw [hlen,List.range_succ,List.filter_append,List.filter_congr fun i o_=>by rw [hrt]]
  have hl:(H.lots++[[H.lots.length]])[r]? = some l:=hl
  rcases root_snoc.mp hr with hr|hr
  ·have hlt:r<H.lots.length:=by rw [I.ll,← hlp];exact isRoot_lt hr
   rw [List.getElem?_append_left hlt] at hl
   rw [List.filter_cons_of_neg (by rw [hrt,rt_out I.down (Nat.le_of_eq hlp)];exact fun z=>hne hr (of_decide_eq_true z).symm),List.filter_nil,List.append_nil]
   exact I.lots r l hr hl
  ·subst hr
   rw [hlp,← I.ll,List.getElem?_append_right (Nat.le_refl _),Nat.sub_self] at hl
   (injection hl with hl;subst hl)
   rw [List.filter_cons_of_pos (by rw [hrt,rt_out I.down (Nat.le_of_eq hlp),hlp];exact decide_eq_true rfl),List.filter_nil,List.filter_eq_nil_iff.mpr (fun i hi=>?_),I.ll]
   ·exact .refl _
   ·have:=rt_le I.down i
    have hi:=List.mem_range.mp hi
    exact fun z=>absurd (of_decide_eq_true z) (by rw [hlp];omega)
 ·skip
  rw [show (H.grown d w e out).ab.map (·.1)=_ from A.keys]
  exact ap_nodup I.keys
 ·intro r
  rw [show IsRoot (H.grown d w e out).par r↔(IsRoot H.par r∨r=H.par.length) from root_snoc]
  rw [show (∃ l,ag (H.grown d w e out).ab r=some l)↔_ from ag_keys A.keys r,ag_ap,hlp]
  by_cases q:r=H.nodes.length
  ·rw [if_pos q];exact ⟨fun o_=>⟨_,rfl⟩,fun o_=>.inr q⟩
  ·rw [if_neg q,← I.ab r];exact ⟨fun z=>z.resolve_right q,.inl⟩
 ·intro i e' k he hk'
  show ∃ l,ag (H.grown d w e out).ab (rt (H.par++[H.par.length]) k)=some l∧i∈l
  rw [hrt]
  rcases hnodes he with z|⟨z1,z2⟩
  ·obtain ⟨l,h1,h2⟩:=I.abk i e' k z hk'
   obtain ⟨l',a1,a2,_⟩:=hag h1
   exact ⟨l',a1,a2 i h2⟩
  ·rw [z2] at hk'
   obtain ⟨l,h1⟩:=(I.ab _).mp (hroot k hk')
   obtain ⟨l',a1,_,a3⟩:=hag h1
   exact ⟨l',a1,z1▸a3 ((ho _).mpr (List.mem_map.mpr ⟨k,hk',rfl⟩))⟩
 ·intro r l hr i hi
  show i<(H.nodes++[d]).length
  rw [hlen]
  obtain ⟨l0,h0⟩:=(ag_keys A.keys r).mp ⟨l,hr⟩
  obtain ⟨l',a1,_,_,a4⟩:=A.to r l0 h0
  rw [show ag (H.grown d w e out).ab r=some l' from a1] at hr
  (injection hr with hr;subst hr)
  rcases a4 i hi with z|z
  ·rw [ag_ap] at h0
   by_cases q:r=H.nodes.length
   ·rw [if_pos q] at h0;cases h0;cases z
   ·rw [if_neg q] at h0;exact Nat.lt_succ_of_lt (I.abr r l0 h0 i z)
  ·rw [z];exact Nat.lt_succ_self _
 ·intro i hi
  show i<(H.nodes++[d]).length
  rw [hlen];exact Nat.lt_succ_of_lt (I.wait i hi)
 ·intro k m hm
  obtain ⟨e',h1,h2,h3⟩:=I.known k m hm
  refine ⟨e',(List.getElem?_append_left (List.getElem?_eq_some_iff.mp h1).1).trans h1,h2,?_⟩
  show k.kids.map (rt (H.par++[H.par.length]))=e'.kids.map (rt (H.par++[H.par.length]))
  rw [List.map_congr_left fun b o_=>hrt b,List.map_congr_left fun b o_=>hrt b]
  exact h3
 ·intro i e' he
  rcases hnodes he with z|⟨z1,z2⟩
  ·refine .inr ?_
   rcases I.full i e' z with y|y|⟨m,y1,y2⟩
   ·contradiction
   ·exact .inl y
   ·refine .inr ⟨m,?_,?_⟩
    ·show ag H.known (cn (H.par++[H.par.length]) e')=some m
     rw [hcn];exact y1
    ·show rt (H.par++[H.par.length]) m=rt (H.par++[H.par.length]) i
     rw [hrt,hrt];exact y2
  ·exact .inl (List.mem_singleton.mpr z1)
 ·have h1:=I.size
  have h2:(roots H.par).length≤H.nodes.length:=hlp▸roots_le
  have h3:out.length*(roots H.par).length≤out.length*H.nodes.length:=Nat.mul_le_mul_left _ h2
  show H.known.length+H.wait.length+1+tot (abApp H.nodes.length out (ap H.ab H.nodes.length []))*(roots (H.par++[H.par.length])).length≤(tot (abApp H.nodes.length out (ap H.ab H.nodes.length []))+1)*(H.nodes++[d]).length
  rw [hlen,roots_snoc,A.tot,tot_new ab0,List.length_nil,Nat.add_zero]
  rw [List.length_nil] at h1
  simp only [Nat.add_mul,Nat.mul_add,Nat.mul_one,Nat.one_mul] at h1 ⊢
  omega
 ·have:=I.tot
  show tot (abApp H.nodes.length out (ap H.ab H.nodes.length []))≤2*(H.nodes++[d]).length
  rw [hlen,A.tot,tot_new ab0,List.length_nil]
  omega
 ·have:=I.pot
  show H.es.length+(roots (H.par++[H.par.length])).length≤B+1
  rw [roots_snoc];exact Nat.succ_le_succ (by assumption)
end
structure EvoN (d:Nd) (H H':HS):Prop where
 nodes:H'.nodes=H.nodes++[d]
 mono:∀ i j,rt H.par i=rt H.par j→rt H'.par i=rt H'.par j
 snd:∀ E,Equivalence E→Cong E (H.nodes++[d])→(∀ i,E i (rt H.par i))→∀ i,E i (rt H'.par i)
theorem nats_of {out:List Int} {l:List Nat} (h:∀ k,k∈out↔k∈l.map fun (k:Nat)=>(k:Int)):∃ o:List Nat,out=o.map (fun (k:Nat)=>(k:Int))∧∀ k,k∈o↔k∈l:=by
 have e:out=(out.map Int.toNat).map fun (k:Nat)=>(k:Int):=by
  rw [List.map_map]
  refine (List.map_id out).symm.trans (List.map_congr_left fun x hx=>?_)
  obtain ⟨k,_,rfl⟩:=List.mem_map.mp ((h x).mp hx)
  exact (congrArg (fun (k:Nat)=>(k:Int)) (Int.toNat_natCast k)).symm
 refine ⟨_,e,fun k=>⟨fun hk=>?_,fun hk=>?_⟩⟩
 ·obtain ⟨x,hx,rfl⟩:=List.mem_map.mp hk
  obtain ⟨j,hj,rfl⟩:=List.mem_map.mp ((h x).mp hx)
  rw [Int.toNat_natCast];exact hj
 ·exact List.mem_map.mpr ⟨(k:Int),(h _).mpr (List.mem_map.mpr ⟨k,hk,rfl⟩),Int.toNat_natCast k⟩
section
variable {cx:Cx} {a:Ads} {n:Nat} {sc csc:Scope} {Γ:Str→Option V} {σ:Store} {Q:V→Store→Prop} {loc:Slot→Addr} {H:HS} {B:Nat}
theorem Ev_ssetN {e:Expr} {fp pos fp2 pos2:Pos} (P:Px cx a) {l:List Nat} (h:EvIs cx n sc Γ σ e (nats l)) (hz:l.length≤4) (q:∀ out:List Nat,(∀ k,k∈out↔k∈l)→out.length≤l.length→Q (nats out) σ)
  (hk:sc.names.lookup ("set" : Str)=some .globalImplicit) (hk2:sc.names.lookup ("sorted" : Str)=some .globalImplicit) (hp:notStar e=true) :
  Ev cx n sc Γ σ (.Call (.Name ("sorted" : Str) fp2) [.Call (.Name ("set" : Str) fp) [e] [] pos] [] pos2) Q:=by
 refine Ev_ssetI hk P.g_set hk2 P.g_sorted hp (h.ev ⟨l.map fun (k:Nat)=>(k:Int),congrArg some (nats_int l),by rw [List.length_map];exact hz,fun out ho hl=>?_⟩)
 obtain ⟨o,rfl,ho'⟩:=nats_of ho
 rw [← nats_int]
 rw [List.length_map,List.length_map] at hl
 exact q o ho' hl
theorem EvIs_listN {x:Str} {px pos:Pos} {elt iter:Expr} {l:List Nat} {f:Nat→Nat} (hok:compOk csc sc=true) (hx:csc.names.lookup x=some .local) {v:V} (h:EvIs cx n sc Γ σ iter v) (hv:seqOf v=some (vi l)) (hz:l.length≤1000000)
  (he:∀ k∈l,EvIs cx n (relabel' csc sc) (upd (capΓ csc Γ) x (.int (k:Nat))) σ elt (.int (f k:Nat))) (hs:∀ env x,foldedSetIterable iter env x=pure x) :
  EvIs cx n sc Γ σ (.ListComp elt [⟨.Name x px,iter,[],0⟩] csc pos) (nats (l.map f)):=by
 refine Ev_comp hok hx (EvI_seq (h.ev ⟨_,hv,_,Turns_map (fun v=>V.int (f (natOf v):Nat)) (by rw [vi_len];exact hz) (fun v hv=>?_),.inl ?_⟩)) hs
 ·obtain ⟨k,hk,rfl⟩:=mem_vi hv
  exact he k hk
 ·rw [map_vi];exact .rfl
theorem mv_cong {c:Cs} {loc':Slot→Addr} {H₁ H₂:HS} {σ':Store} (m:Mv c σ loc H σ' loc' H₁) (e:H₁=H₂):Mv c σ loc H σ' loc' H₂:=e▸m
theorem H_add (P:Px cx a) (h:HeapAt a.c σ loc H) (I:HInv [] B H) (hn:H.nodes.length<64) (hB:B<9999) {d:Nd} (har:arOk d) (hk:∀ k∈d.kids,k<H.nodes.length)
  (q0:∀ i:Nat,H.nodes[i]? = some d→Q (.int i) σ) (q1:d∉H.nodes→∀ σ' loc' H',Mv a.c σ loc H σ' loc' H'→HInv [] (B+1) H'→EvoN d H H'→Q (.int (H.nodes.length:Nat)) σ') :
  Cc cx (n+5) σ (.ref a.heap_add) [hV a loc,.str d.op,.tup (vi d.kids)] Q:=by
 refine P.heap_add.go rfl ?_
 conv=>arg 6;whnf
 have zk:d.kids.length≤2:=by rw [har.2];exact arity_le _
 have J:=I.joinOk (Nat.le_of_lt hn) (Nat.le_of_lt hB)
 have zp:H.par.length≤1000000:=Nat.le_trans J.zp (by decide)
 refine Exs_name (Ev_m (EvIs_at (EvIs_loc rfl) (fl_bank h) P.heap_a_bank) (can_b h P.bank_take_m) (.cons (EvIs_loc rfl) (.cons (EvIs_loc rfl) .nil)) (B_take P h (Nat.le_trans (Nat.le_of_lt hn) (by decide)) I.nums I.nd I.ws I.ds har.1 (Nat.le_trans zk (by decide)) hk (fun i hi=>?_) fun hnew σ₁ w e m1=>?_))
 ·refine Exs_if (b:=true) (Te_cm (EvIs_loc rfl) (Ev_m (EvIs_at (EvIs_loc rfl) (fl_unions h) P.heap_a_unions) (can_u h P.unions_size_m) .nil (U_size P h zp)) (P2_lt (.of ⟨?_,rfl⟩))) (fun o_=>Exs_ret ((EvIs_loc rfl).ev (q0 i hi))) fun e=>Bool.noConfusion e
  exact decide_eq_true (Int.ofNat_lt.mpr (I.lt hi))
 have q1':=q1 hnew
 clear q0 q1
 generalize hΓ:upd (argsOf ["self", "op", "numbers"] [hV a loc,V.str d.op,V.tup (vi d.kids)]) "n" (V.int (H.nodes.length:Nat))=Γ
 show Exs cx _ _ (upd (argsOf ["self", "op", "numbers"] [hV a loc,V.str d.op,V.tup (vi d.kids)]) "n" (V.int (H.nodes.length:Nat))) _ _ _
 rw [hΓ]
 have g0:Γ ("self" : Str)=some (hV a loc):=by subst hΓ;rfl
 have g1:Γ ("numbers" : Str)=some (.tup (vi d.kids)):=by subst hΓ;rfl
 have g2:Γ ("n" : Str)=some (.int (H.nodes.length:Nat)):=by subst hΓ;rfl
 clear hΓ
 have h1:=m1.at_
 refine Exs_if (b:=false) (Te_cm (EvIs_loc g2) (Ev_m (EvIs_at (EvIs_loc g0) (fl_unions h1) P.heap_a_unions) (can_u h1 P.unions_size_m) .nil (U_size P h1 zp)) (P2_lt (.of ⟨?_,rfl⟩))) (fun e=>Bool.noConfusion e) fun o_=>Exs_nil ?_
 ·exact decide_eq_false (by show ¬ ((H.nodes.length:Nat):Int)<(H.par.length:Nat);rw [I.lp];exact Int.lt_irrefl _)
 refine Exs_expr (Ev_m (EvIs_at (EvIs_loc g0) (fl_unions h1) P.heap_a_unions) (can_u h1 P.unions_make_m) .nil (U_make P h1 J.zp (by show H.lots.length≤_;rw [J.zl];exact J.zp) fun σ₂ loc₂ m2a=>⟨rfl,?_⟩))
 have m2:=m1.trans m2a
 clear m2a m1 h1 zp J
 have h2:=m2.at_
 have e0:=m2.hv
 rw [← e0] at g0
 have hk2:((H.taken d w e).made.ab.map (·.1)).Nodup:=I.keys
 refine Exs_cons (Ex_sub (Ev_list ⟨Nat.le_of_ble_eq_true rfl,fun x hx=>?_⟩))
 have h3:=h2.fresh hx (nats [])
 refine (EvIs_at (EvIs_loc g0) (fl_above h3) P.heap_a_above).ev ((EvIs_loc g2).ev ⟨_,PS_I (ha_at h3) ?_,?_⟩)
 ·rw [abV,List.length_map];exact Nat.le_trans (I.joinOk (Nat.le_of_lt hn) (Nat.le_of_lt hB)).zab (by decide)
 have m4:=m2.trans (mv_newab h2 hk2 hx H.nodes.length [])
 show Exs cx _ _ _ ((σ₂.set x (nats [])).set (loc₂ .ha) (.dI (dput (abV loc₂ H.ab) ((H.nodes.length:Nat):Int) (.ref x)))) _ _
 revert m4
 show Mv a.c σ loc H ((σ₂.set x (nats [])).set (loc₂ .ha) (.dI (dput (abV loc₂ H.ab) ((H.nodes.length:Nat):Int) (.ref x)))) (locPut loc₂ (.ab H.nodes.length) x) _→_
 generalize (σ₂.set x (nats [])).set (loc₂ .ha) (.dI (dput (abV loc₂ H.ab) ((H.nodes.length:Nat):Int) (.ref x)))=σ₄
 intro m4
 have e4:hV a loc₂=hV a (locPut loc₂ (.ab H.nodes.length) x):=e0.trans m4.hv.symm
 rw [e4] at g0
 revert m4 g0
 generalize locPut loc₂ (.ab H.nodes.length) x=loc₄
 intro g0 m4
 clear e4 h3 m2 h2 e0 hx hk2 σ₂ loc₂
 have h4:=m4.at_
 have hd4:Down (H.par++[H.par.length]):=down_snoc I.down
 have hlen4:(H.par++[H.par.length]).length=H.nodes.length+1:=by rw [List.length_append,I.lp];rfl
 have z4:(H.par++[H.par.length]).length≤1000000:=by rw [hlen4];exact Nat.le_trans hn (by decide)
 refine Exs_cons (Ex_for (fun l i Γ₁ σ₁=>Γ₁ ("self" : Str)=some (hV a loc₄)∧Γ₁ ("n" : Str)=some (.int (H.nodes.length:Nat))∧∃ out:List Nat,l=vi out∧(∀ r,r∈out↔r∈d.kids.map (rt H.par))∧out.length≤2∧Mv a.c σ loc H σ₁ loc₄ ((H.taken d w e).made.sAb (abApp H.nodes.length (out.take i) (ap H.ab H.nodes.length []))))
  (EvI_seq (Ev_ssetN (hk:=by rfl) (hk2:=by rfl) (hp:=by rfl) P (EvIs_listN (hs:=by intro _ _;rfl) (f:=rt (H.par++[H.par.length])) (by decide +kernel) (by rfl) (EvIs_loc g1) rfl (Nat.le_trans zk (by decide)) fun k hk'=>Ev_m (EvIs_loc g0) (can_h h4 P.heap_find_m) (.cons (EvIs_loc rfl) .nil) (H_find P h4 hd4 z4 (by show k<(H.par++[H.par.length]).length;rw [hlen4];exact Nat.lt_succ_of_lt (hk k hk')))) (by rw [List.length_map];exact Nat.le_trans zk (by decide)) fun out ho hol=>⟨vi out,rfl,⟨g0,g2,out,rfl,fun r=>?_,?_,m4⟩,?_,?_⟩)))
 ·rw [ho,List.map_congr_left fun k o_=>rt_snoc I.down k]
 ·rw [List.length_map] at hol;exact Nat.le_trans hol zk
 ·rintro i Γ₁ σ₁ v hv ⟨k0,k2,out',heq,hr,hl,m5⟩
  have:out'=out:=by
   have:=congrArg (fun l=>l.map natOf) heq
   simp only [vi,List.map_map] at this
   rw [show natOf ∘ (fun (k:Nat)=>V.int k)=id from funext fun k=>Int.toNat_natCast k,List.map_id,List.map_id] at this
   exact this.symm
  subst this
  have hv:=hv
  unfold vi at hv
  rw [List.getElem?_map,Option.map_eq_some_iff] at hv
  obtain ⟨c,hc,rfl⟩:=hv
  have hcm:=List.mem_of_getElem? hc
  obtain ⟨k,hk',hkc⟩:=List.mem_map.mp ((hr c).mp hcm)
  have hroot:IsRoot H.par c:=hkc▸rt_root I.down k (I.lp▸hk k hk')
  have hab0:∀ c'∈out'.take i,∃ l,ag (ap H.ab H.nodes.length []) c'=some l:=fun c' hc'=>by
   obtain ⟨k',hk1,hk2⟩:=List.mem_map.mp ((hr c').mp (List.mem_of_mem_take hc'))
   have hroot':IsRoot H.par c':=hk2▸rt_root I.down k' (I.lp▸hk k' hk1)
   rw [ag_ap,if_neg (fun z=>absurd (isRoot_lt hroot') (by rw [I.lp,z];exact Nat.lt_irrefl _))]
   exact (I.ab c').mp hroot'
  have A:=abApp_ok H.nodes.length (out'.take i) (ap H.ab H.nodes.length []) hab0
  obtain ⟨l,hl'⟩:∃ l,ag (abApp H.nodes.length (out'.take i) (ap H.ab H.nodes.length [])) c=some l:=by
   refine (ag_keys A.keys c).mpr ?_
   rw [ag_ap,if_neg (fun z=>absurd (isRoot_lt hroot) (by rw [I.lp,z];exact Nat.lt_irrefl _))]
   exact (I.ab c).mp hroot
  have h5:=m5.at_
  refine As_name (.inl (by rfl)) (Exs_expr (Ev_bm (Ev_sb (EvIs_at (EvIs_loc k0) (fl_above h5) P.heap_a_above) (EvIs_loc rfl) (P2_ab (hs:=by intro _ _;with_unfolding_all rfl) (hg:=by exact trivial) h5 hl' .rfl)) (Mt_append (ab_at h5 hl')) (.cons (EvIs_loc k2) .nil) (Cl_appendN (ab_at h5 hl') ?_ ⟨rfl,Exs_nil ⟨k0,k2,out',rfl,hr,hl,mv_cong (m5.trans (mv_setab h5 hl' (l++[H.nodes.length]))) ?_⟩⟩)))
  ·have h1:=tot_le hl'
   rw [A.tot] at h1
   have h2:tot (ap H.ab H.nodes.length [])≤128:=by
    have ab0:ag H.ab H.nodes.length=none:=by
     rcases z:ag H.ab H.nodes.length with _|l
     ·rfl
     ·exact absurd (isRoot_lt ((I.ab _).mpr ⟨l,z⟩)) (by rw [I.lp];exact Nat.lt_irrefl _)
    rw [tot_new ab0]
    have:=I.tot
    show _+0≤_
    omega
   have h3:=List.length_take_le' i out'
   omega
  ·skip
   rw [List.take_add_one,hc,show (some c).toList=[c] from rfl,abApp_snoc,hl']
   rfl
 ·rintro Γ₁ σ₁ ⟨k0,k2,out',heq,hr,hl,m5⟩
  rw [show (vi out).length=out'.length by rw [heq,vi_len],List.take_length] at m5
  have I5:=grown_inv I hnew har hk hr hl w e
  have hd5:(H.grown d w e out').nodes[H.nodes.length]? = some d:=by
   show (H.nodes++[d])[H.nodes.length]? = some d
   rw [List.getElem?_append_right (Nat.le_refl _),Nat.sub_self];rfl
  refine Exs_expr (Ev_m (EvIs_loc k0) (can_h m5.at_ P.heap_look_at_m) (.cons (EvIs_loc k2) .nil) (H_look P m5.at_ I5 (by show (H.nodes++[d]).length≤64;rw [List.length_append];exact hn) hB hd5 fun σ₆ loc₆ H₆ m6 I6 ev o_=>⟨rfl,Exs_ret ((EvIs_loc k2).ev (q1' _ _ _ (m5.trans m6) I6 ⟨ev.nodes,fun i j z=>ev.mono i j ?_,fun E hE hc hs=>ev.snd E hE hc fun i=>?_⟩))⟩))
  ·show rt (H.par++[H.par.length]) i=rt (H.par++[H.par.length]) j
   rw [rt_snoc I.down,rt_snoc I.down];exact z
  ·show E i (rt (H.par++[H.par.length]) i)
   rw [rt_snoc I.down];exact hs i
end
theorem nds_of {out:List (List At)} {l:List Nd} (h:∀ k,k∈out↔k∈l.map Nd.at):∃ o:List Nd,out=o.map Nd.at∧(∀ k,k∈o↔k∈l)∧o.length=out.length:=by
 haveI:Nonempty Nd:=⟨⟨"",[]⟩⟩
 let f:List At→Nd:=fun k=>Classical.epsilon fun d=>Nd.at d=k
 have hf:∀ d,f d.at=d:=fun d=>Nd.at_inj (Classical.epsilon_spec (p:=fun d'=>Nd.at d'=Nd.at d) ⟨d,rfl⟩)
 have e:out=(out.map f).map Nd.at:=by
  rw [List.map_map]
  refine (List.map_id out).symm.trans (List.map_congr_left fun x hx=>?_)
  obtain ⟨d,_,rfl⟩:=List.mem_map.mp ((h x).mp hx)
  exact (congrArg Nd.at (hf d)).symm
 refine ⟨_,e,fun k=>⟨fun hk=>?_,fun hk=>?_⟩,List.length_map _⟩
 ·obtain ⟨x,hx,rfl⟩:=List.mem_map.mp hk
  obtain ⟨d,hd,rfl⟩:=List.mem_map.mp ((h x).mp hx)
  rw [hf];exact hd
 ·exact List.mem_map.mpr ⟨k.at,(h _).mpr (List.mem_map.mpr ⟨k,hk,rfl⟩),hf k⟩
noncomputable def nds (l:List Nd):V:=.lst (l.map fun d=>T d.at)
theorem nds_map (l:List Nd):nds l=.lst ((l.map Nd.at).map T):=by skip;rw [List.map_map];rfl
section
variable {X:List Nat} {B:Nat} {H:HS}
theorem HInv.seek (I:HInv [] B H) (hw:H.wait=[]) {e:Nd} (he:e.kids.map (rt H.par)=e.kids) :
  (∀ m,ag H.known e=some m→∃ d,H.nodes[m]? = some d∧cn H.par d=e)∧(ag H.known e=none→∀ (i:Nat) d,H.nodes[i]? = some d→cn H.par d≠e):=by
 refine ⟨fun m hm=>?_,fun hn i d hd z=>?_⟩
 ·obtain ⟨d,h1,h2,h3⟩:=I.known e m hm
  refine ⟨d,h1,?_⟩
  show (⟨d.op,d.kids.map (rt H.par)⟩:Nd)=e
  rw [← h3,he,← h2]
 ·rcases I.full i d hd with y|y|⟨m,y1,_⟩
  ·contradiction
  ·rw [hw] at y;contradiction
  ·rw [z,hn] at y1;contradiction
theorem HInv.alike_eq (I:HInv [] B H) (hw:H.wait=[]) {i j:Nat} {d d':Nd} (hd:H.nodes[i]? = some d) (hd':H.nodes[j]? = some d') (e:cn H.par d=cn H.par d'):rt H.par i=rt H.par j:=by
 rcases I.full i d hd with y|y|⟨m,y1,y2⟩
 ·contradiction
 ·rw [hw] at y;contradiction
 rcases I.full j d' hd' with y|y|⟨m',z1,z2⟩
 ·contradiction
 ·rw [hw] at y;contradiction
 rw [← e,y1] at z1
 (injection z1 with z1;subst z1)
 exact y2.symm.trans z2
end
noncomputable def seekV (H:HS) (op:Str) (ks:List Nat):Int:=match ag H.known (cn H.par ⟨op,ks⟩) with
 | some m=>(rt H.par m:Nat)
 | none=>-1
section
variable {cx:Cx} {a:Ads} {n:Nat} {sc csc:Scope} {Γ:Str→Option V} {σ:Store} {Q:V→Store→Prop} {loc:Slot→Addr} {H:HS} {B:Nat}
theorem EvIs_neg {i:Int} {k:Nat} {p pos:Pos}:EvIs cx n sc Γ σ (.UnaryOp .USub (.Constant (.int i) k p) pos) (.int (-i)):=Ev_un (EvIs_int.ev (P1_neg .rfl))
theorem H_nodes_of (P:Px cx a) (h:HeapAt a.c σ loc H) {X:List Nat} (I:HInv X B H) (hn:H.nodes.length≤16) (hB:B≤9999) {c:Nat} (hc:c<H.nodes.length)
  (q:∀ out:List Nd,(∀ e,e∈out↔∃ (i:Nat) (d:Nd),H.nodes[i]? = some d∧rt H.par i=rt H.par c∧e=cn H.par d)→out.length≤16→Q (nds out) σ):Cc cx (n+4) σ (.ref a.heap_nodes_of) [hV a loc,.int c] Q:=by
 refine P.heap_nodes_of.go rfl ?_
 conv=>arg 6;whnf
 have J:=I.joinOk (Nat.le_trans hn (by decide)) hB
 have zp:H.par.length≤1000000:=Nat.le_trans J.zp (by decide)
 have hc':c<H.par.length:=I.lp▸hc
 have hr:=rt_root I.down c hc'
 have hl:=getD_at [] (show rt H.par c<H.lots.length by rw [I.ll,← I.lp];exact isRoot_lt hr)
 have hp:=I.lots _ _ hr hl
 generalize H.lots.getD (rt H.par c) []=l at hl hp
 have zl:l.length≤16:=by
  rw [hp.length_eq]
  refine Nat.le_trans (List.length_filter_le _ _) ?_
  rw [List.length_range];exact hn
 have hmem:∀ i,i∈l↔i<H.nodes.length∧rt H.par i=rt H.par c:=fun i=>by
  rw [hp.mem_iff,List.mem_filter,List.mem_range,decide_eq_true_iff]
 refine Exs_ret (Ev_ssetT (by rfl) P.g_set (by rfl) P.g_sorted rfl (Ev_comp (by decide +kernel) (by rfl) (EvI_seq (Ev_m (EvIs_loc rfl) (can_h h P.heap_members_m) (.cons (EvIs_loc rfl) .nil) (H_members P h I.down zp J.zl hc' hl (Nat.lt_of_le_of_lt zl (by decide)) fun out ho=>⟨vi out,rfl,_,Turns_map (fun v=>T (cn H.par (H.nodes.getD (natOf v) ⟨"",[]⟩)).at) (by rw [vi_len,ho.length_eq];exact Nat.le_trans zl (by decide)) (fun v hv=>?_),.inl ?_⟩)))))
 ·obtain ⟨i,hi,rfl⟩:=mem_vi hv
  have hlt:=((hmem i).mp (ho.mem_iff.mp hi)).1
  have hd:=getD_at (⟨"",[]⟩:Nd) hlt
  exact Ev_m (EvIs_loc rfl) (can_h h P.heap_node_m) (.cons (EvIs_loc rfl) .nil) (H_node P h I.down zp (Nat.le_trans hn (by decide)) hd (I.kid_lt hd) (Nat.le_trans (I.kid_len hd) (by decide)))
 ·refine ⟨(out.map fun i=>cn H.par (H.nodes.getD i ⟨"",[]⟩)).map Nd.at,?_,?_,?_,fun o ho2 hol=>?_⟩
  ·skip
   delta vi
   rw [List.map_map,List.map_map,List.map_map];rfl
  ·rw [List.length_map,List.length_map,ho.length_eq];exact zl
  ·intro k hk
   obtain ⟨d,_,rfl⟩:=List.mem_map.mp hk
   exact d.nodeK
  ·obtain ⟨o,rfl,h1,h2⟩:=nds_of ho2
   rw [← nds_map]
   rw [List.length_map,List.length_map,List.length_map,ho.length_eq] at hol
   refine q o (fun e=>?_) (Nat.le_trans hol zl)
   rw [h1,List.mem_map]
   constructor
   ·rintro ⟨i,hi,rfl⟩
    have:=(hmem i).mp (ho.mem_iff.mp hi)
    exact ⟨i,_,getD_at _ this.1,this.2,rfl⟩
   ·rintro ⟨i,d,hd,hr,rfl⟩
    have hlt:i<H.nodes.length:=(List.getElem?_eq_some_iff.mp hd).1
    refine ⟨i,ho.mem_iff.mpr ((hmem i).mpr ⟨hlt,hr⟩),?_⟩
    rw [getD_at (⟨"",[]⟩:Nd) hlt] at hd
    rw [Option.some.inj hd]
theorem H_seek (P:Px cx a) (h:HeapAt a.c σ loc H) (I:HInv [] B H) (hn:H.nodes.length≤64) (hB:B≤9999) {op:Str} {ks:List Nat} {v:V} (hv:seqOf v=some (vi ks)) (hk:∀ k∈ks,k<H.nodes.length) (hks:ks.length≤9999) :
  CcIs cx (n+3) σ (.ref a.heap_seek) [hV a loc,.str op,v] (.int (seekV H op ks)):=by
 refine P.heap_seek.go rfl ?_
 conv=>arg 6;whnf
 have J:=I.joinOk hn hB
 have zp:H.par.length≤1000000:=Nat.le_trans J.zp (by decide)
 have zk:ks.length≤999999:=Nat.le_trans hks (by decide)
 have hkn:lk σ (.ref (loc .hk))=some (.dT (encN H.known)):=h.get (k:=.hk) rfl
 refine Exs_name (Ev_bm (EvIs_at (EvIs_loc rfl) (fl_known h) P.heap_a_known) (Mt_getT hkn) (.cons (Ev_bn (EvIs_tup (.cons (EvIs_loc rfl) .nil)) (Ev_ty P.g_tuple (.cons (EvIs_listN (hs:=by intro _ _;rfl) (f:=rt H.par) (by decide +kernel) (by rfl) (EvIs_loc rfl) hv (Nat.le_succ_of_le zk) fun k hk'=>Ev_m (EvIs_loc rfl) (can_h h P.heap_find_m) (.cons (EvIs_loc rfl) .nil) (H_find P h I.down zp (I.lp▸hk k hk'))) .nil)
  (Cl_tuple_list (l:=vi (ks.map (rt H.par))) rfl (by rw [vi_len,List.length_map];exact Nat.le_succ_of_le zk) .rfl) (keeps_type _)) (P2_cons (by rw [List.length_map];exact zk) .rfl)) (.cons EvIs_neg .nil)) (Cl_getT hkn ?_))
 rw [dget_encN]
 have hs:seekV H op ks=match ag H.known ⟨op,ks.map (rt H.par)⟩ with
  | some m=>((rt H.par m:Nat):Int)
  | none=>-1:=rfl
 rw [hs]
 rcases e:ag H.known ⟨op,ks.map (rt H.par)⟩ with _|m
 ·exact Exs_ret (Ev_if (Te_cm (EvIs_loc rfl) EvIs_int (P2_lt (.of ⟨fun o_=>EvIs_neg,fun z=>by contradiction⟩))))
 ·
  obtain ⟨d,hd,_⟩:=I.known _ _ e
  refine Exs_ret (Ev_if (Te_cm (EvIs_loc rfl) EvIs_int (P2_lt (.of ⟨fun z=>?_,fun o_=>Ev_m (EvIs_loc rfl) (can_h h P.heap_find_m) (.cons (EvIs_loc rfl) .nil) (H_find P h I.down zp (I.lt hd))⟩))))
  exact absurd (of_decide_eq_true z) (Int.not_lt.mpr (Int.natCast_nonneg m))
end
structure NewI (σ₀ σ:Store) (d:Addr) (fs:List (Str×V)) (l:List (Addr×V)):Prop where
 nodup:(d::l.map (·.1)).Nodup
 new:σ₀ d=none∧∀ p∈l,σ₀ p.1=none
 at_:σ d=some (.fld fs)∧∀ p∈l,σ p.1=some p.2
 rest:∀ x,x≠d→x∉l.map (·.1)→σ x=σ₀ x
theorem Store.set_self {σ:Store} (x:Addr) (v:V):(σ.set x v) x=some v:=by simp [Store.set]
section
variable {σ₀ σ σ₁:Store} {d:Addr} {fs:List (Str×V)} {l:List (Addr×V)}
theorem NewI.first {σ:Store} {d:Addr} (h:σ d=none):NewI σ (σ.set d (.fld [])) d [] []:=⟨by simp,⟨h,fun o_ q=>by contradiction⟩,⟨Store.set_self _ _,fun o_ q=>by contradiction⟩,fun x hx o_=>Store.set_ne _ hx⟩
theorem NewI.some (N:NewI σ₀ σ d fs l) {x:Addr} (h:x=d∨x∈l.map (·.1)):σ x≠none:=by
 rcases h with rfl|h
 ·rw [N.at_.1];exact fun e=>by contradiction
 ·obtain ⟨p,hp,rfl⟩:=List.mem_map.mp h
  rw [N.at_.2 p hp];exact fun e=>by contradiction
theorem NewI.old (N:NewI σ₀ σ d fs l) {x:Addr} (h:σ x=none):σ₀ x=none∧x≠d∧x∉l.map (·.1):=by
 have h1:x≠d:=fun z=>N.some (.inl z) h
 have h2:x∉l.map (·.1):=fun z=>N.some (.inr z) h
 exact ⟨(N.rest x h1 h2).symm.trans h,h1,h2⟩
theorem NewI.allNew (N:NewI σ₀ σ d fs l):∀ x∈d::l.map (·.1),σ₀ x=none:=fun x hx=>by
 rcases List.mem_cons.mp hx with e|hx
 ·rw [e];exact N.new.1
 ·obtain ⟨p,hp,rfl⟩:=List.mem_map.mp hx;exact N.new.2 p hp
theorem NewI.setD (N:NewI σ₀ σ d fs l) (fs':List (Str×V)):NewI σ₀ (σ.set d (.fld fs')) d fs' l:=
 ⟨N.nodup,N.new,⟨Store.set_self _ _,fun p hp=>(Store.set_ne _ fun (z:p.1=d)=>(List.nodup_cons.mp N.nodup).1 (z▸List.mem_map.mpr ⟨p,hp,rfl⟩)).trans (N.at_.2 p hp)⟩,fun x h1 h2=>(Store.set_ne _ h1).trans (N.rest x h1 h2)⟩
theorem NewI.push (N:NewI σ₀ σ d fs l) {x:Addr} (h:σ x=none) (v:V):NewI σ₀ (σ.set x v) d fs ((x,v)::l):=by
 obtain ⟨h0,h1,h2⟩:=N.old h
 refine ⟨?_,⟨N.new.1,fun p hp=>?_⟩,⟨(Store.set_ne _ (Ne.symm h1)).trans N.at_.1,fun p hp=>?_⟩,fun y y1 y2=>?_⟩
 ·have:=List.nodup_cons.mp N.nodup
  refine List.nodup_cons.mpr ⟨fun z=>?_,List.nodup_cons.mpr ⟨h2,this.2⟩⟩
  rcases List.mem_cons.mp z with z|z
  ·exact h1 z.symm
  ·exact this.1 z
 ·rcases List.mem_cons.mp hp with e|hp
  ·rw [e];exact h0
  ·exact N.new.2 p hp
 ·rcases List.mem_cons.mp hp with e|hp
  ·rw [e];exact Store.set_self _ _
  ·exact (Store.set_ne _ fun (z:p.1=x)=>h2 (z▸List.mem_map.mpr ⟨p,hp,rfl⟩)).trans (N.at_.2 p hp)
 ·have:y≠x∧y∉l.map (·.1):=⟨fun z=>y2 (z▸.head _),fun z=>y2 (.tail _ z)⟩
  exact (Store.set_ne _ this.1).trans (N.rest y y1 this.2)
theorem NewI.join (N:NewI σ₀ σ d fs l) {d1:Addr} {fs1:List (Str×V)} {l1:List (Addr×V)} (M:NewI σ σ₁ d1 fs1 l1):NewI σ₀ σ₁ d fs ((d1,.fld fs1)::(l1++l)):=by
 have o1:=N.old M.new.1
 have o2:∀ p∈l1,σ₀ p.1=none∧p.1≠d∧p.1∉l.map (·.1):=fun p hp=>N.old (M.new.2 p hp)
 have n1:=List.nodup_cons.mp N.nodup
 have n2:=List.nodup_cons.mp M.nodup
 have keep:∀ x,σ x≠none→σ₁ x=σ x:=fun x hx=>M.rest x (fun z=>hx (z▸M.new.1)) fun z=>by
  obtain ⟨p,hp,rfl⟩:=List.mem_map.mp z
  exact hx (M.new.2 p hp)
 refine ⟨?_,⟨N.new.1,fun p hp=>?_⟩,⟨(keep d (N.some (.inl rfl))).trans N.at_.1,fun p hp=>?_⟩,fun x h1 h2=>?_⟩
 ·rw [List.map_cons,List.map_append]
  refine List.nodup_cons.mpr ⟨fun z=>?_,List.nodup_cons.mpr ⟨fun z=>?_,List.nodup_append.mpr ⟨n2.2,n1.2,fun x hx y hy z=>?_⟩⟩⟩
  ·rcases List.mem_cons.mp z with z|z
   ·exact o1.2.1 z.symm
   ·rcases List.mem_append.mp z with z|z
    ·obtain ⟨p,hp,e⟩:=List.mem_map.mp z
     exact (o2 p hp).2.1 e
    ·exact n1.1 z
  ·rcases List.mem_append.mp z with z|z
   ·exact n2.1 z
   ·exact o1.2.2 z
  ·obtain ⟨p,hp,rfl⟩:=List.mem_map.mp hx
   exact (o2 p hp).2.2 (z▸hy)
 ·rcases List.mem_cons.mp hp with e|hp
  ·rw [e];exact o1.1
  ·rcases List.mem_append.mp hp with hp|hp
   ·exact (o2 p hp).1
   ·exact N.new.2 p hp
 ·rcases List.mem_cons.mp hp with e|hp
  ·rw [e];exact M.at_.1
  ·rcases List.mem_append.mp hp with hp|hp
   ·exact M.at_.2 p hp
   ·exact (keep p.1 (N.some (.inr (List.mem_map.mpr ⟨p,hp,rfl⟩)))).trans (N.at_.2 p hp)
 ·rw [List.map_cons,List.map_append] at h2
  have a1:x≠d1:=fun z=>h2 (z▸.head _)
  have a2:x∉l1.map (·.1):=fun z=>h2 (.tail _ (List.mem_append_left _ z))
  have a3:x∉l.map (·.1):=fun z=>h2 (.tail _ (List.mem_append_right _ z))
  exact (M.rest x a1 a2).trans (N.rest x h1 a3)
end
section
variable {cx:Cx} {a:Ads} {n:Nat} {sc:Scope} {Γ:Str→Option V} {σ σ₀:Store} {d:Addr} {fs:List (Str×V)} {l:List (Addr×V)} {Q:Fl→(Str→Option V)→Store→Prop} {r:List Stmt}
theorem Exs_new {o e:Expr} {attr:Str} {ap pos:Pos} {c:Addr} {v:V} (ho:∀ σ,EvIs cx n sc Γ σ o (.inst c (.ref d))) (hE:∀ {Q:V→Store→Prop},(∀ x,σ x=none→Q (.ref x) (σ.set x v))→Ev cx n sc Γ σ e Q) (N:NewI σ₀ σ d fs l) (hz:fs.length<1000) (ha:AttrIs cx c attr)
  (q:∀ x σ',NewI σ₀ σ' d (fput fs attr (.ref x)) ((x,v)::l)→Exs cx n sc Γ σ' r Q) (hs:∀ env,swapsWith e (some (.Attribute o attr ap)) pos.line env=pure false:=by intro _;rfl):Exs cx n sc Γ σ (.Assign [.Attribute o attr ap] e pos::r) Q:=
 Exs_cons (Ex_attr (hE fun x hx=>(ho _).ev ⟨c,d,fs,rfl,(N.push hx v).at_.1,hz,ha.cls,ha.take,q x _ ((N.push hx v).setD _)⟩) hs)
theorem Exs_newI {o e:Expr} {attr:Str} {ap pos:Pos} {c c1:Addr} (ho:∀ σ,EvIs cx n sc Γ σ o (.inst c (.ref d))) (fs1:List Addr→List (Str×V)) (l1:List Addr→List (Addr×V)) (hE:∀ {Q:V→Store→Prop},(∀ σ' d1 xs,NewI σ σ' d1 (fs1 xs) (l1 xs)→Q (.inst c1 (.ref d1)) σ')→Ev cx n sc Γ σ e Q) (N:NewI σ₀ σ d fs l) (hz:fs.length<1000) (ha:AttrIs cx c attr)
  (q:∀ d1 xs σ',NewI σ₀ σ' d (fput fs attr (.inst c1 (.ref d1))) ((d1,.fld (fs1 xs))::(l1 xs++l))→Exs cx n sc Γ σ' r Q) (hs:∀ env,swapsWith e (some (.Attribute o attr ap)) pos.line env=pure false:=by intro _;rfl):Exs cx n sc Γ σ (.Assign [.Attribute o attr ap] e pos::r) Q:=
 Exs_cons (Ex_attr (hE fun σ' d1 xs M=>(ho _).ev ⟨c,d,fs,rfl,(N.join M).at_.1,hz,ha.cls,ha.take,q d1 xs _ ((N.join M).setD _)⟩) hs)
end
section
variable {cx:Cx} {a:Ads} {n:Nat} {sc csc:Scope} {Γ:Str→Option V} {σ:Store} {Q:V→Store→Prop}
noncomputable def g4 (xs:List Addr) (i:Nat):V:=.ref (xs.getD i 0)
noncomputable def bankFs (xs:List Addr):List (Str×V):=[("nodes",g4 xs 0),("numbers",g4 xs 1),("weights",g4 xs 2),("depths",g4 xs 3)]
noncomputable def bankL (xs:List Addr):List (Addr×V):=[(xs.getD 3 0,.lst []),(xs.getD 2 0,.lst []),(xs.getD 1 0,.dT []),(xs.getD 0 0,.lst [])]
noncomputable def unFs (xs:List Addr):List (Str×V):=[("above",g4 xs 0),("lots",g4 xs 1),("merged",g4 xs 2)]
noncomputable def unL (xs:List Addr):List (Addr×V):=[(xs.getD 2 0,.lst []),(xs.getD 1 0,.lst []),(xs.getD 0 0,.lst [])]
theorem lst0 {pos:Pos} {Q:V→Store→Prop} (q:∀ x,σ x=none→Q (.ref x) (σ.set x (.lst []))):Ev cx n sc Γ σ (.List [] pos) Q:=Ev_list ⟨Nat.zero_le _,q⟩
theorem new_bank (P:Px cx a) (q:∀ σ' d xs,NewI σ σ' d (bankFs xs) (bankL xs)→Q (.inst a.c.bank (.ref d)) σ'):Cc cx (n+2) σ (.ref a.c.bank) [] Q:=by
 refine Cc_cls P.bank_init_m.cls P.bank_init_m.find P.bank_init_m.fn fun d hd=>?_
 have N:=NewI.first hd
 generalize σ.set d (.fld [])=σ₁ at N ⊢
 refine P.bank_init.go rfl ?_
 conv=>arg 6;whnf
 exact Exs_new (fun o_=>EvIs_loc rfl) lst0 N (by decide) P.bank_a_nodes fun x1 o_ N=>Exs_new (fun o_=>EvIs_loc rfl) (fun q=>Ev_dict0T q) N (Nat.le_of_ble_eq_true rfl) P.bank_a_numbers fun x2 o_ N=>Exs_new (fun o_=>EvIs_loc rfl) lst0 N (Nat.le_of_ble_eq_true rfl) P.bank_a_weights fun x3 o_ N=>
  Exs_new (fun o_=>EvIs_loc rfl) lst0 N (Nat.le_of_ble_eq_true rfl) P.bank_a_depths fun x4 o_ N=>Exs_nil ⟨rfl,q _ d [x1,x2,x3,x4] N⟩
theorem new_unions (P:Px cx a) (q:∀ σ' d xs,NewI σ σ' d (unFs xs) (unL xs)→Q (.inst a.c.unions (.ref d)) σ'):Cc cx (n+2) σ (.ref a.c.unions) [] Q:=by
 refine Cc_cls P.unions_init_m.cls P.unions_init_m.find P.unions_init_m.fn fun d hd=>?_
 have N:=NewI.first hd
 generalize σ.set d (.fld [])=σ₁ at N ⊢
 refine P.unions_init.go rfl ?_
 conv=>arg 6;whnf
 exact Exs_new (fun o_=>EvIs_loc rfl) lst0 N (by decide) P.unions_a_above fun x1 o_ N=>Exs_new (fun o_=>EvIs_loc rfl) lst0 N (Nat.le_of_ble_eq_true rfl) P.unions_a_lots fun x2 o_ N=>Exs_new (fun o_=>EvIs_loc rfl) lst0 N (Nat.le_of_ble_eq_true rfl) P.unions_a_merged fun x3 o_ N=>Exs_nil ⟨rfl,q _ d [x1,x2,x3] N⟩
end
noncomputable def HS.empty:HS:=⟨[],[],[],[],[],[],[],[],[],[],[],[]⟩
theorem inj_of_nodup {α β:Type} {f:α→β} {x y:α}:∀ {l:List α},(l.map f).Nodup→x∈l→y∈l→f x=f y→x=y
 | z::l,h,hx,hy,e=>by
  rw [List.map_cons,List.nodup_cons] at h
  rcases List.mem_cons.mp hx with hx|hx <;> rcases List.mem_cons.mp hy with hy|hy
  ·rw [hx,hy]
  ·rw [hx] at e;exact absurd (List.mem_map.mpr ⟨y,hy,e.symm⟩) h.1
  ·rw [hy] at e;exact absurd (List.mem_map.mpr ⟨x,hx,e⟩) h.1
  ·exact inj_of_nodup h.2 hx hy e
noncomputable def slots:List Slot:=[.h,.hw,.ha,.hk,.hf,.he,.u,.um,.ul,.ua,.b,.bd,.bw,.bm,.bn]
theorem empty_inv:HInv [] 0 HS.empty where
 lp:=rfl
 ll:=rfl
 nums:=rfl
 nd:=.nil
 kids i d h:=by contradiction
 ar d h:=by contradiction
 ws:=⟨(fun u h=>by contradiction),rfl⟩
 ds:=⟨(fun u h=>by contradiction),rfl⟩
 down i p h:=by contradiction
 lots r l h:=by contradiction
 keys:=.nil
 ab r:=⟨(fun h=>by contradiction),fun x_=>by obtain ⟨_,h⟩:=x_;contradiction⟩
 abk i d k h:=by contradiction
 abr r l h:=by contradiction
 wait i h:=by contradiction
 kk:=.nil
 known e m h:=by contradiction
 full i d h:=by contradiction
 size:=Nat.le_refl _
 tot:=Nat.le_refl _
 pot:=Nat.le_refl _
 fs:=Nat.le_refl _
 ms:=Nat.le_refl _
section
variable {cx:Cx} {a:Ads} {n:Nat} {sc csc:Scope} {Γ:Str→Option V} {σ:Store} {Q:V→Store→Prop}
theorem new_heap (P:Px cx a) (q:∀ σ' loc,HeapAt a.c σ' loc HS.empty→(∀ x,At_ a.c loc HS.empty x→σ x=none)→(∀ x,σ x≠none→σ' x=σ x)→Q (hV a loc) σ'):Cc cx (n+4) σ (.ref a.c.heap) [] Q:=by
 refine Cc_cls P.heap_init_m.cls P.heap_init_m.find P.heap_init_m.fn fun d hd=>?_
 have N:=NewI.first hd
 generalize σ.set d (.fld [])=σ₁ at N ⊢
 refine P.heap_init.go rfl ?_
 conv=>arg 6;whnf
 refine Exs_newI (fun o_=>EvIs_loc rfl) bankFs bankL (fun q=>Ev_c P.bank_g P.bank_keep .nil (new_bank P q)) N (by decide) P.heap_a_bank fun d1 xs o_ N=>Exs_newI (fun o_=>EvIs_loc rfl) unFs unL (fun q=>Ev_c P.unions_g P.unions_keep .nil (new_unions P q)) N (Nat.le_of_ble_eq_true rfl) P.heap_a_unions fun d2 ys o_ N=>?_
 refine Exs_new (fun o_=>EvIs_loc rfl) lst0 N (Nat.le_of_ble_eq_true rfl) P.heap_a_edges fun z1 o_ N=>Exs_new (fun o_=>EvIs_loc rfl) lst0 N (Nat.le_of_ble_eq_true rfl) P.heap_a_forest fun z2 o_ N=>Exs_new (fun o_=>EvIs_loc rfl) (fun q=>Ev_dict0T q) N (Nat.le_of_ble_eq_true rfl) P.heap_a_known fun z3 o_ N=>
  Exs_new (fun o_=>EvIs_loc rfl) (fun q=>Ev_dict0I q) N (Nat.le_of_ble_eq_true rfl) P.heap_a_above fun z4 o_ N=>Exs_new (fun o_=>EvIs_loc rfl) lst0 N (Nat.le_of_ble_eq_true rfl) P.heap_a_waiting fun z5 σ' N=>Exs_nil ⟨rfl,?_⟩
 let loc:Slot→Addr:=fun k=>match k with
  | .h=>d | .b=>d1 | .u=>d2
  | .bn=>xs.getD 0 0 | .bm=>xs.getD 1 0 | .bw=>xs.getD 2 0 | .bd=>xs.getD 3 0
  | .ua=>ys.getD 0 0 | .ul=>ys.getD 1 0 | .um=>ys.getD 2 0
  | .he=>z1 | .hf=>z2 | .hk=>z3 | .ha=>z4 | .hw=>z5
  | _=>0
 have nd:(slots.map loc).Nodup:=N.nodup
 have key:∀ x∈slots.map loc,σ x=none:=N.allNew
 have mem:∀ k v,contH a.c loc HS.empty k=some v→k∈slots:=fun k v e=>by
  cases k <;> first | (contradiction;done) | exact List.mem_of_elem_eq_true rfl
 have get:∀ k v,contH a.c loc HS.empty k=some v→σ' (loc k)=some v:=fun k v e=>by
  cases k <;> first | (cases e;done) | (cases e;first | exact N.at_.1 | exact N.at_.2 (_,_) (by repeat (first | exact .head _ | apply List.Mem.tail)))
 refine q σ' loc ⟨fun k x v e=>?_,fun k k' x v v' e e'=>?_⟩ (fun x hx=>?_) fun x hx=>?_
 ·obtain ⟨w,h1,h2⟩:=Option.map_eq_some_iff.mp e
  cases h2
  exact get k _ h1
 ·obtain ⟨w,h1,h2⟩:=Option.map_eq_some_iff.mp e
  obtain ⟨w',h1',h2'⟩:=Option.map_eq_some_iff.mp e'
  (injection h2 with h2;subst h2)
  exact inj_of_nodup nd (mem _ _ h1) (mem _ _ h1') (congrArg Prod.fst h2').symm
 ·obtain ⟨k,v,e⟩:=hx
  obtain ⟨w,h1,h2⟩:=Option.map_eq_some_iff.mp e
  (injection h2 with h2;subst h2)
  exact key _ (List.mem_map.mpr ⟨k,mem _ _ h1,rfl⟩)
 ·exact N.rest x (fun z=>hx (z▸N.new.1)) fun z=>by
   obtain ⟨p,hp,e⟩:=List.mem_map.mp z
   exact hx (e▸N.new.2 p hp)
end
noncomputable def Refz (σ:Store):List (List At×V)→List (List At×V)→Prop
 | [],[]=>True
 | (k,v)::l,(k',v')::l'=>k=k'∧(∃ x,v=.ref x∧σ x=some v')∧Refz σ l l'
 | _,_=>False
open Classical in
noncomputable def deepS (σ:Store) (f:Addr) (L L':List (List At×V)):Store:=fun b=>if b=f then some (.dT L') else if ∃ k,(k,V.ref b)∈L then none else σ b
theorem deep_at {σ:Store} {f:Addr} {L L':List (List At×V)}:deepS σ f L L' f=some (.dT L'):=by simp [deepS]
theorem deep_keep {σ:Store} {f:Addr} {L L':List (List At×V)} {b:Addr} (h1:b≠f) (h2:∀ k,(k,V.ref b)∉L):deepS σ f L L' b=σ b:=by
 unfold deepS
 rw [if_neg h1,if_neg (fun x_=>by obtain ⟨k,z⟩:=x_;exact h2 k z)]
theorem Refz.keys {σ:Store}:∀ {L L':List (List At×V)},Refz σ L L'→L'.map (·.1)=L.map (·.1)
 | [],[],_=>rfl
 | (k,v)::l,(k',v')::l',h=>by rw [List.map_cons,List.map_cons,h.1,Refz.keys h.2.2]
 | [],_::_,h=>h.elim
 | _::_,[],h=>h.elim
section
variable {cx:Cx} {B:Addr→Prop} {σ:Store} {s:Shared} {n:Nat} {sc:Scope} {Γ:Str→Option V}
theorem deep_step {f:Addr} {L L':List (List At×V)} {v:V} (e:σ f=some v) (h:Heap):Step σ h (deepS σ f L L') h:=by
 refine ⟨fun b o o_ z=>z,fun b hb=>.inl fun z=>?_,fun b o z=>⟨o,z⟩⟩
 unfold deepS at hb
 by_cases q:b=f
 ·subst q;rw [e] at z;contradiction
 ·rw [if_neg q] at hb
  by_cases w:∃ k,(k,V.ref b)∈L
  ·rw [if_pos w] at hb;exact hb rfl
  ·rw [if_neg w] at hb;exact hb z
theorem St.deep (X:St cx B σ s) {f:Addr} {L L':List (List At×V)} (e:σ f=some (.dT L)) (hr:Refz σ L L') (hf:∀ k,(k,V.ref f)∉L):St cx B (deepS σ f L L') s:=by
 have S:Step σ s.heap (deepS σ f L L') s.heap:=deep_step e s.heap
 have kept:=S.kept (cx:=cx) (B:=B)
 have inner:∀ {x:Addr} {v':V},σ x=some v'→(∃ k,(k,V.ref x)∈L)→Rp (cf cx B (deepS σ f L L') s.heap) v' (.ref x):=fun {x v'} hx hk=>by
  obtain ⟨h1,h2,h3,h4⟩:=X.own x v' hx
  have hxf:x≠f:=fun z=>by obtain ⟨k,hk⟩:=hk;exact hf k (z▸hk)
  refine G_fz (own_mono (s':=s) S h4 fun o_ z=>z) (fun z=>?_)
  rcases z with z|z
  ·exact h1 z
  ·refine z ?_
   unfold deepS
   rw [if_neg hxf,if_pos hk]
 have go:∀ {M M':List (List At×V)} {es:List DictEntry},Refz σ M M'→(∀ p∈M,p∈L)→GT (cf cx B σ s.heap) M es→GT (cf cx B (deepS σ f L L') s.heap) M' es:=by
  intro M
  induction M with
  | nil=>intro M' es hr _ h;cases M' with
   | nil=>exact h
   | cons=>exact hr.elim
  | cons p M ih=>
   intro M' es hr hm h
   obtain ⟨k,v⟩:=p
   rcases M' with _|⟨p',M'⟩
   ·exact hr.elim
   ·
    obtain ⟨k',v'⟩:=p'
    obtain ⟨rfl,⟨x,rfl,hx⟩,hr⟩:=hr
    obtain ⟨a,y,r,rfl,hk,hy,ht⟩:=h
    rw [of_ref hy]
    exact ⟨a,_,r,rfl,IsT.mono (C:=cf cx B σ s.heap) (C':=cf cx B (deepS σ f L L') s.heap) rfl kept hk,inner hx ⟨k,hm _ (.head _)⟩,ih hr (fun q hq=>hm q (.tail _ hq)) ht⟩
 refine ⟨X.keep,X.gens,X.os,fun b u hb=>?_,X.alive⟩
 unfold deepS at hb
 by_cases q:b=f
 ·subst q
  rw [if_pos rfl] at hb
  (injection hb with hb;subst hb)
  obtain ⟨h1,h2,_,h4⟩:=X.own b _ e
  refine ⟨h1,h2,rfl,?_⟩
  obtain ⟨a,es,m,z,_,ho,hl,hn,hs⟩:=h4
  (injection z with z;subst z)
  exact ⟨b,es,m,rfl,(fun z=>by contradiction),ho,go hr (fun o_ z=>z) hl,by rw [hr.keys];exact hn,hs⟩
 ·rw [if_neg q] at hb
  by_cases w:∃ k,(k,V.ref b)∈L
  ·rw [if_pos w] at hb;contradiction
  ·rw [if_neg w] at hb
   obtain ⟨h1,h2,h3,h4⟩:=X.own b u hb
   exact ⟨h1,h2,h3,own_mono (s':=s) S h4 fun o_ z=>z⟩
theorem Exs.deep {ss:List Stmt} {R:Fl→(Str→Option V)→Store→Prop} {f:Addr} {L L':List (List At×V)} (e:σ f=some (.dT L)) (hr:Refz σ L L') (hf:∀ k,(k,V.ref f)∉L)
  (h:Exs cx n sc Γ (deepS σ f L L') ss R):Exs cx n sc Γ σ ss R:=fun B env A s rd X E=>by
 have S:Step σ s.heap (deepS σ f L L') s.heap:=deep_step e s.heap
 exact wpAny_mono (h B env A s rd (X.deep e hr hf) (E.step X.shut S)) (fun o_ o_ o=>o.pre (S.toX (E.shutOwn X))) fun o_ o_ x=>x
end
noncomputable abbrev OK:=Str×Nat
noncomputable abbrev OM:=List (OK×List (Nat×Nd))
noncomputable def keyAt (k:OK):List At:=[.s k.1,.i (k.2:Int)]
theorem keyAt_inj (k k':OK) (h:keyAt k=keyAt k'):k=k':=by
 simp only [keyAt,List.cons.injEq,At.s.injEq,At.i.injEq,and_true] at h
 exact Prod.ext h.1 (Int.ofNat_inj.mp h.2)
noncomputable def ent (p:Nat×Nd):V:=.tup [.int (p.1:Nat),T p.2.at]
noncomputable def encO (M:OM):List (List At×V):=M.map fun p=>(keyAt p.1,V.lst (p.2.map ent))
noncomputable def refO (adr:OK→Addr) (M:OM):List (List At×V):=M.map fun p=>(keyAt p.1,V.ref (adr p.1))
noncomputable def Nd.key (e:Nd):OK:=(e.op,e.kids.length)
theorem dget_encK {K J β:Type} [DecidableEq K] [DecidableEq J] (e:K→J) (he:∀ a b,e a=e b→a=b) (g:K→V) (k:K):∀ l:List (K×β),dget (l.map fun p=>(e p.1,g p.1)) (e k)=(ag l k).map fun o_=>g k
 | []=>rfl
 | (a,u)::r=>by
  have ih:=dget_encK e he g k r
  unfold dget at ih ⊢
  by_cases q:a=k
  ·subst q;simp [ag_nil,ag_cons]
  ·have:e a≠e k:=fun z=>q (he _ _ z)
   simp only [List.map_cons,List.find?_cons,this,decide_false,ag_nil,ag_cons,if_neg q]
   exact ih
theorem dput_none {J:Type} [DecidableEq J] {l:List (J×V)} {k:J} (h:dget l k=none) (v:V):dput l k v=l++[(k,v)]:=by unfold dput;rw [h];rfl
structure AccO (M:OM) (done:List (Nat×Nd)):Prop where
 keys:(M.map (·.1)).Nodup
 mem:∀ k x,(∃ l,ag M k=some l∧x∈l)↔x∈done∧x.2.key=k
 len:∀ k l,ag M k=some l→l.length≤done.length
 ok:∀ x∈done,arOk x.2
 has:∀ k l,ag M k=some l→l≠[]
noncomputable def allK:List OK:=[(⟨#[97]⟩,0),(⟨#[98]⟩,0),(⟨#[99]⟩,0),(⟨#[102]⟩,1),(⟨#[103]⟩,2)]
theorem arOk_key {e:Nd} (h:arOk e):e.key∈allK:=by
 obtain ⟨⟨c,hc,h1⟩,h2⟩:=h
 unfold Nd.key
 rw [h2,h1]
 clear h1 h2
 revert c;decide +kernel
theorem AccO.size {M:OM} {done:List (Nat×Nd)} (A:AccO M done):M.length≤5:=by
 have:M.map (·.1) ⊆ allK:=fun k hk=>by
  obtain ⟨⟨k,l⟩,hp,rfl⟩:=List.mem_map.mp hk
  have h1:=ag_of_mem A.keys hp
  rcases l with _|⟨x,r⟩
  ·exact absurd rfl (A.has _ _ h1)
  ·
   obtain ⟨h2,h3⟩:=(A.mem k x).mp ⟨_,h1,.head _⟩
   exact h3▸arOk_key (A.ok x h2)
 have:=A.keys.length_le_of_subset this
 rwa [List.length_map] at this
theorem AccO.nil:AccO [] []:=⟨.nil,fun k x=>⟨fun x_=>by obtain ⟨_,h,_⟩:=x_;exact (by contradiction),fun h=>(nomatch h.1)⟩,fun o_ o_ h=>(by contradiction),fun o_ h=>(by contradiction),fun o_ o_ h=>(by contradiction)⟩
theorem AccO.add {M:OM} {done:List (Nat×Nd)} (A:AccO M done) {x:Nat×Nd} (hx:arOk x.2):AccO (ap M x.2.key ((ag M x.2.key).getD []++[x])) (done++[x]):=by
 have old:∀ y,y∈(ag M x.2.key).getD []↔y∈done∧y.2.key=x.2.key:=fun y=>by
  rw [← A.mem]
  rcases ag M x.2.key with _|l
  ·exact ⟨fun h=>(by contradiction),fun x_=>by obtain ⟨_,h,_⟩:=x_;exact (by contradiction)⟩
  ·exact ⟨fun h=>⟨l,rfl,h⟩,fun x_=>by obtain ⟨l',h,h'⟩:=x_;(injection h with h;subst h);exact h'⟩
 refine ⟨ap_nodup A.keys,fun k y=>?_,fun k l hl=>?_,fun y hy=>?_,fun k l hl=>?_⟩
 ·rw [List.mem_append,List.mem_singleton,ag_ap]
  by_cases q:k=x.2.key
  ·rw [if_pos q]
   constructor
   ·rintro ⟨l,h1,h2⟩
    (injection h1 with h1;subst h1)
    rcases List.mem_append.mp h2 with z|z
    ·have:=(old y).mp z;exact ⟨.inl this.1,this.2.trans q.symm⟩
    ·rw [List.mem_singleton.mp z];exact ⟨.inr rfl,q.symm⟩
   ·rintro ⟨h1,h2⟩
    refine ⟨_,rfl,?_⟩
    rcases h1 with h1|h1
    ·exact List.mem_append_left _ ((old y).mpr ⟨h1,h2.trans q⟩)
    ·exact List.mem_append_right _ (List.mem_singleton.mpr h1)
  ·rw [if_neg q,A.mem]
   refine ⟨fun h=>⟨.inl h.1,h.2⟩,fun h=>⟨h.1.resolve_right fun z=>q ?_,h.2⟩⟩
   rw [← h.2,z]
 ·rw [List.length_append]
  rw [ag_ap] at hl
  by_cases q:k=x.2.key
  ·rw [if_pos q] at hl
   (injection hl with hl;subst hl)
   rw [List.length_append]
   refine Nat.succ_le_succ ?_
   rcases e:ag M x.2.key with _|l
   ·exact Nat.zero_le _
   ·exact A.len _ _ e
  ·rw [if_neg q] at hl
   exact Nat.le_succ_of_le (A.len _ _ hl)
 ·rcases List.mem_append.mp hy with z|z
  ·exact A.ok y z
  ·rw [List.mem_singleton.mp z];exact hx
 ·rw [ag_ap] at hl
  by_cases q:k=x.2.key
  ·rw [if_pos q] at hl;(injection hl with hl;subst hl);exact fun z=>nomatch (List.append_eq_nil_iff.mp z).2
  ·rw [if_neg q] at hl;exact A.has _ _ hl
structure FoundAt (σ₀ σ:Store) (f:Addr) (adr:OK→Addr) (M:OM):Prop where
 new:σ₀ f=none
 at_:σ f=some (.dT (refO adr M))
 ls:∀ k l,ag M k=some l→σ (adr k)=some (.lst (l.map ent))∧σ₀ (adr k)=none∧adr k≠f
 inj:∀ k k' l l',ag M k=some l→ag M k'=some l'→adr k=adr k'→k=k'
 rest:∀ x,σ₀ x≠none→σ x=σ₀ x
theorem refO_keys {adr:OK→Addr} {M M':OM} (h:M.map (·.1)=M'.map (·.1)):refO adr M=refO adr M':=by
 have e:∀ M:OM,refO adr M=(M.map (·.1)).map fun k=>(keyAt k,V.ref (adr k)):=fun M=>by rw [List.map_map];rfl
 rw [e,e,h]
section
variable {σ₀ σ:Store} {f:Addr} {adr:OK→Addr} {M:OM}
theorem FoundAt.old (F:FoundAt σ₀ σ f adr M) {k:OK} {l:List (Nat×Nd)} (h:ag M k=some l) (x:Nat×Nd):FoundAt σ₀ (σ.set (adr k) (.lst ((l++[x]).map ent))) f adr (ap M k (l++[x])):=by
 have ha:=F.ls k l h
 refine ⟨F.new,?_,fun k' l' h'=>?_,fun k1 k2 l1 l2 h1 h2=>?_,fun y hy=>?_⟩
 ·rw [refO_keys (ap_keys h)];exact (Store.set_ne _ (Ne.symm ha.2.2)).trans F.at_
 ·rw [ag_ap] at h'
  by_cases q:k'=k
  ·rw [if_pos q] at h';(injection h' with h';subst h');subst q
   exact ⟨Store.set_self _ _,ha.2⟩
  ·rw [if_neg q] at h'
   have hb:=F.ls k' l' h'
   exact ⟨(Store.set_ne _ fun z=>q (F.inj _ _ _ _ h' h z)).trans hb.1,hb.2⟩
 ·have hk:∀ {k' l'},ag (ap M k (l++[x])) k'=some l'→∃ l'',ag M k'=some l'':=fun {k' l'} h'=>by
   rw [ag_ap] at h'
   by_cases q:k'=k
   ·exact ⟨l,q▸h⟩
   ·rw [if_neg q] at h';exact ⟨l',h'⟩
  obtain ⟨_,a1⟩:=hk h1
  obtain ⟨_,a2⟩:=hk h2
  exact F.inj _ _ _ _ a1 a2
 ·exact (Store.set_ne _ fun z=>hy (by rw [z];exact ha.2.1)).trans (F.rest y hy)
theorem FoundAt.fresh (F:FoundAt σ₀ σ f adr M) {k:OK} (h:ag M k=none) {x0:Addr} (hx:σ x0=none) (x:Nat×Nd) {w:V} :
  FoundAt σ₀ (((σ.set x0 w).set f (.dT (dput (refO adr M) (keyAt k) (.ref x0)))).set x0 (.lst ([x].map ent))) f (fun k'=>if k'=k then x0 else adr k') (ap M k [x]):=by
 have hxf:x0≠f:=fun z=>by rw [z,F.at_] at hx;contradiction
 have hx0:σ₀ x0=none:=by
  rcases e:σ₀ x0 with _|v
  ·rfl
  ·have:=F.rest x0 (by rw [e];exact fun z=>by contradiction);rw [hx,e] at this;contradiction
 have hne:∀ {k' l'},ag M k'=some l'→k'≠k∧adr k'≠x0:=fun {k' l'} h'=>⟨fun z=>(by rw [z,h] at h';contradiction),fun z=>(by have:=(F.ls k' l' h').1;rw [z,hx] at this;contradiction)⟩
 refine ⟨F.new,?_,fun k' l' h'=>?_,fun k1 k2 l1 l2 h1 h2=>?_,fun y hy=>?_⟩
 ·refine (Store.set_ne _ (Ne.symm hxf)).trans ((Store.set_self _ _).trans ?_)
  rw [dput_none (by unfold refO;rw [dget_encK keyAt keyAt_inj (fun k=>V.ref (adr k)),h];rfl),ap_none h]
  unfold refO
  rw [List.map_append]
  refine congrArg some (congrArg V.dT (congr (congrArg _ (List.map_congr_left fun p hp=>?_)) ?_))
  ·have:p.1≠k:=fun z=>ag_none.mp h (z▸List.mem_map.mpr ⟨p,hp,rfl⟩)
   show _=(keyAt p.1,V.ref (if p.1=k then x0 else adr p.1))
   rw [if_neg this]
  ·show _=[(keyAt k,V.ref (if k=k then x0 else _))]
   rw [if_pos rfl]
 ·rw [ag_ap] at h'
  by_cases q:k'=k
  ·rw [if_pos q] at h';(injection h' with h';subst h')
   simp only [if_pos q]
   exact ⟨Store.set_self _ _,hx0,hxf⟩
  ·rw [if_neg q] at h'
   simp only [if_neg q]
   have hb:=F.ls k' l' h'
   have hn:=(hne h').2
   exact ⟨(Store.set_ne _ hn).trans ((Store.set_ne _ hb.2.2).trans ((Store.set_ne _ hn).trans hb.1)),hb.2⟩
 ·rw [ag_ap] at h1 h2
  by_cases q1:k1=k <;> by_cases q2:k2=k
  ·exact fun o_=>q1.trans q2.symm
  ·rw [if_neg q2] at h2
   simp only [if_pos q1,if_neg q2]
   exact fun z=>absurd z.symm (hne h2).2
  ·rw [if_neg q1] at h1
   simp only [if_pos q2,if_neg q1]
   exact fun z=>absurd z (hne h1).2
  ·rw [if_neg q1] at h1;rw [if_neg q2] at h2
   simp only [if_neg q1,if_neg q2]
   exact F.inj _ _ _ _ h1 h2
 ·have n1:y≠x0:=fun z=>hy (z▸hx0)
  have n2:y≠f:=fun z=>hy (z▸F.new)
  exact (Store.set_ne _ n1).trans ((Store.set_ne _ n2).trans ((Store.set_ne _ n1).trans (F.rest y hy)))
theorem FoundAt.refz (F:FoundAt σ₀ σ f adr M):∀ {M':OM},(∀ p∈M',ag M p.1=some p.2)→Refz σ (refO adr M') (encO M')
 | [],_=>trivial
 | (k,l)::r,h=>⟨rfl,⟨_,rfl,(F.ls k l (h _ (.head _))).1⟩,F.refz (M':=r) fun p hp=>h p (.tail _ hp)⟩
end
theorem HeapAt.keepR {c:Cs} {σ σ':Store} {loc:Slot→Addr} {H:HS} (h:HeapAt c σ loc H) (r:∀ x,σ x≠none→σ' x=σ x):HeapAt c σ' loc H:=RegAt.keep h fun a q=>r a (At_.some h q)
theorem vi_inj {l l':List Nat} (h:vi l=vi l'):l=l':=by
 have e:∀ l:List Nat,(vi l).map natOf=l:=fun l=>by
  delta vi
  rw [List.map_map,show natOf ∘ (fun (k:Nat)=>V.int k)=id from funext fun k=>Int.toNat_natCast k,List.map_id]
 rw [← e l,h,e]
theorem At_map {α:Type} {l:List α} {f:α→V} {i:Nat} {v:V} (h:(l.map f)[i]? = some v):∃ x,l[i]? = some x∧f x=v:=by rwa [List.getElem?_map,Option.map_eq_some_iff] at h
section
variable {cx:Cx} {a:Ads} {n:Nat} {sc csc:Scope} {Γ:Str→Option V} {σ:Store} {Q:V→Store→Prop} {loc:Slot→Addr} {H:HS} {B:Nat}
theorem EvIs_key {x:Str} {k0 k1 kt:Nat} {p1 p2 p3 p4 p5 p6 p7 p8 pt:Pos} (P:Px cx a) {e:Nd} (g:Γ x=some (T e.at)) (hz:e.kids.length≤9999) (hk:sc.names.lookup ("len" : Str)=some .globalImplicit) (hl:LocK sc x)
  (hd:(x==("__debug__" : Str))=false) (hc:(x==("__classdict__" : Str))=false) :
  EvIs cx n sc Γ σ (.Tuple [.Subscript (.Name x p1) (.Constant (.int 0) k0 p2) p3,.BinOp (.Call (.Name "len" p4) [.Name x p5] [] p6) .Sub (.Constant (.int 1) k1 p7) p8] kt pt) (T (keyAt e.key)):=by
 have zk:e.kids.length≤999999:=Nat.le_trans hz (by decide)
 refine EvIs_tup (.cons (Ev_sb (EvIs_loc g hl hd hc) EvIs_int (P2_op zk .rfl)) (.cons (Ev_bn (Ev_b P.g_len (.cons (EvIs_loc g hl hd hc) .nil) (Cl_len (c:=.tup (.str e.op::vi e.kids)) (l:=.str e.op::vi e.kids) (congrArg some (T_nd e)) rfl (by rw [List.length_cons,vi_len];exact Nat.succ_le_succ zk) .rfl) hk) EvIs_int (P2_sub ?_)) .nil))
 rw [List.length_cons,vi_len]
 rw [show (((e.kids.length+1:Nat)):Int) - 1=(e.kids.length:Nat) from Int.add_sub_cancel (e.kids.length:Int) 1]
 exact .rfl
structure NB (H:HS) (M:OM):Prop where
 keys:(M.map (·.1)).Nodup
 size:M.length≤5
 len:∀ k l,ag M k=some l→l.length≤999
 mem:∀ k c e,(∃ l,ag M k=some l∧(c,e)∈l)↔e.key=k∧∃ (i:Nat) (d:Nd),H.nodes[i]? = some d∧rt H.par i=c∧e=cn H.par d
theorem cn_ok {X:List Nat} (I:HInv X B H) {i:Nat} {d:Nd} (hd:H.nodes[i]? = some d):arOk (cn H.par d):=by
 have:=I.ar d (List.mem_of_getElem? hd)
 exact ⟨this.1,(List.length_map _).trans this.2⟩
theorem T_inj {d e:Nd} (h:T d.at=T e.at):d=e:=by
 rw [T_nd,T_nd] at h
 injection h with h
 injection h with h1 h2
 injection h1 with h1
 have:=vi_inj h2
 cases d;cases e
 simp only at h1 this
 rw [h1,this]
noncomputable def bodyOf:Stmt→List Stmt
 | .While _ b _ _=>b
 | .For _ _ b _ _=>b
 | _=>[]
structure NbC where
 (hv:V)
 (H:HS)
 (σ:Store)
 (f:Addr)
noncomputable def KnE (H:HS) (c:Nat) (e:Nd):Prop:=∃ (i:Nat) (d:Nd),H.nodes[i]? = some d∧rt H.par i=c∧e=cn H.par d
inductive FA (C:NbC) (done:List (Nat×Nd)) (σ₁:Store):Prop
 | mk (adr:OK→Addr) (M:OM) (F:FoundAt C.σ σ₁ C.f adr M) (A:AccO M done)
structure NbΓ (C:NbC) (Γ:Str→Option V):Prop where
 g0:Γ ("heap" : Str)=some C.hv
 g1:Γ ("found" : Str)=some (.ref C.f)
inductive NbInv (C:NbC) (i:Nat) (Γ:Str→Option V) (σ₁:Store):Prop
 | mk (done:List (Nat×Nd)) (g:NbΓ C Γ) (F:FA C done σ₁) (hl:done.length≤16*i) (hd:∀ c e,(c,e)∈done↔c∈(roots C.H.par).take i∧KnE C.H c e)
inductive NbIn (C:NbC) (c:Nat) (done:List (Nat×Nd)) (l:List V) (j:Nat) (Γ:Str→Option V) (σ₁:Store):Prop
 | mk (done':List (Nat×Nd)) (g:NbΓ C Γ) (g2:Γ ("c" : Str)=some (.int (c:Nat))) (F:FA C done' σ₁) (hl:done'.length=done.length+(l.take j).length) (hd:∀ x,x∈done'↔x∈done∨x.1=c∧T x.2.at∈l.take j)
theorem NbIn.step {C:NbC} {c j:Nat} {done done':List (Nat×Nd)} {l:List V} {e:Nd} {Γ:Str→Option V} {σ₄:Store} (g:NbΓ C Γ) (g2:Γ ("c" : Str)=some (.int (c:Nat))) (hl:done'.length=done.length+(l.take j).length) (hd:∀ x,x∈done'↔x∈done∨x.1=c∧T x.2.at∈l.take j) (he:l[j]? = some (T e.at)) (F:FA C (done'++[(c,e)]) σ₄):NbIn C c done l (j+1) Γ σ₄:=by
 have et:l.take (j+1)=l.take j++[T e.at]:=by rw [List.take_add_one,he];rfl
 refine ⟨_,g,g2,F,?_,fun x=>?_⟩
 ·rw [et,List.length_append,List.length_append,hl,Nat.add_assoc];rfl
 ·rw [et,List.mem_append,List.mem_append,List.mem_singleton,List.mem_singleton,hd]
  constructor
  ·rintro ((z|z) | z)
   ·exact .inl z
   ·exact .inr ⟨z.1,.inl z.2⟩
   ·rw [z];exact .inr ⟨rfl,.inr rfl⟩
  ·rintro (z|⟨z1,z|z⟩)
   ·exact .inl (.inl z)
   ·exact .inl (.inr ⟨z1,z⟩)
   ·exact .inr (Prod.ext z1 (T_inj z))
theorem NbIn.turn {C:NbC} {c i:Nat} {done:List (Nat×Nd)} {out:List Nd} {Γ:Str→Option V} {σ₁:Store} (hc:(roots C.H.par)[i]? = some c) (ho:∀ e,e∈out↔KnE C.H c e) (hol:out.length≤16) (hl:done.length≤16*i) (hd:∀ c e,(c,e)∈done↔c∈(roots C.H.par).take i∧KnE C.H c e) (h:NbIn C c done (out.map fun d=>T d.at) (out.map fun d=>T d.at).length Γ σ₁):NbInv C (i+1) Γ σ₁:=by
 obtain ⟨done',g,g2,F,hl',hd'⟩:=h
 rw [List.take_length] at hl' hd'
 refine ⟨done',g,F,?_,fun c' e'=>?_⟩
 ·rw [hl',List.length_map];exact Nat.add_le_add hl hol
 ·rw [hd',hd,List.take_add_one,hc,List.mem_append]
  constructor
  ·rintro (⟨z1,z2⟩|⟨z1,z2⟩)
   ·exact ⟨.inl z1,z2⟩
   ·obtain ⟨d,hd,e⟩:=List.mem_map.mp z2
    obtain rfl:=T_inj e
    obtain rfl:c'=c:=z1
    exact ⟨.inr (List.mem_singleton.mpr rfl),(ho _).mp hd⟩
  ·rintro ⟨z1|z1,z2⟩
   ·exact .inl ⟨z1,z2⟩
   ·obtain rfl:c'=c:=List.mem_singleton.mp z1
    exact .inr ⟨rfl,List.mem_map.mpr ⟨_,(ho _).mpr z2,rfl⟩⟩
theorem dget_refO {adr:OK→Addr} {M:OM} {k:OK}:dget (refO adr M) (keyAt k)=(ag M k).map fun _=>V.ref (adr k):=by skip;exact dget_encK keyAt keyAt_inj (fun k=>V.ref (adr k)) ..
set_option maxHeartbeats 1000000 in
theorem nb_put (P:Px cx a) {C:NbC} {c:Nat} {e:Nd} {done:List (Nat×Nd)} {Q:Fl→(Str→Option V)→Store→Prop} (F:FA C done σ) (har:arOk e) (zd:done.length≤999) (g:NbΓ C Γ) (g2:Γ ("c" : Str)=some (.int (c:Nat))) (g3:Γ ("node" : Str)=some (T e.at)) (hc:sc=defScope (methAt 13 1))
  (q:∀ σ',FA C (done++[(c,e)]) σ'→Q .next Γ σ'):Exs cx (n+4) sc Γ σ (bodyOf (stAt (bodyOf (stAt (defBody (methAt 13 1)) 1)) 0)) Q:=by
 subst hc
 conv=>arg 6;whnf
 obtain ⟨adr,M,F,A⟩:=F
 have zke:e.kids.length≤9999:=by rw [har.2];exact Nat.le_trans (arity_le _) (by decide)
 have hM:(refO adr M).length≤1000000:=by delta refO;rw [List.length_map];exact Nat.le_trans A.size (by decide)
 have A₂:=A.add (x:=(c,e)) har
 rcases hk:ag M e.key with _|l
 ·rw [show (ag M ((c,e):Nat×Nd).2.key).getD []=[] by show (ag M e.key).getD []=[];rw [hk];rfl] at A₂
  refine Exs_cons (Ex_expr (hs:=by intro _;rfl) (Ev_meth (Ev_meth (EvIs.ev (EvIs_loc g.g1) ⟨_,Mt_setdefT F.at_,keeps_builtin _,⟨rfl,EvIs.ev (EvIs_key (hk:=by rfl) (hl:=by first | exact .inl (by rfl) | exact .inr (.inl (by rfl)) | exact .inr (.inr (by rfl))) (hd:=by decide) (hc:=by decide) P g3 zke) ⟨rfl,lst0 fun x0 hx0=>?_⟩⟩⟩))))
  have hfx:C.f≠x0:=fun z=>by rw [← z,F.at_] at hx0;contradiction
  have hf':(σ.set x0 (.lst [])) C.f=some (.dT (refO adr M)):=(Store.set_ne _ hfx).trans F.at_
  refine Cl_setdefT hf' hM (fun v hv=>?_) fun hv=>?_
  ·rw [dget_refO,hk] at hv;contradiction
  ·have hx':((σ.set x0 (.lst [])).set C.f (.dT (dput (refO adr M) (keyAt e.key) (.ref x0)))) x0=some (.lst []):=(Store.set_ne _ (Ne.symm hfx)).trans (Store.set_self _ _)
   exact ⟨_,Mt_append hx',keeps_builtin _,ArgsIs.run (.cons (EvIs_tup (.cons (EvIs_loc g2) (.cons (EvIs_loc g3) .nil))) .nil) (Cl_append hx' (Nat.zero_le _) ⟨rfl,Exs_nil (q _ ⟨_,_,F.fresh hk hx0 (c,e),A₂⟩)⟩)⟩
 ·rw [show (ag M ((c,e):Nat×Nd).2.key).getD []=l by show (ag M e.key).getD []=l;rw [hk];rfl] at A₂
  have zl:(l.map ent).length≤999999:=by rw [List.length_map];exact Nat.le_trans (Nat.le_trans (A.len _ _ hk) zd) (by decide)
  refine Exs_cons (Ex_expr (hs:=by intro _;rfl) (Ev_meth (Ev_bm (EvIs_loc g.g1) (Mt_setdefT F.at_) (.cons (EvIs_key (hk:=by rfl) (hl:=by first | exact .inl (by rfl) | exact .inr (.inl (by rfl)) | exact .inr (.inr (by rfl))) (hd:=by decide) (hc:=by decide) P g3 zke) (.cons (EvIs_lst .nil) .nil)) (Cl_setdefT F.at_ hM (fun v hv=>?_) fun hv=>?_))))
  ·rw [dget_refO,hk] at hv
   obtain rfl:=Option.some.inj hv
   have ha:=(F.ls _ _ hk).1
   refine ⟨_,Mt_append ha,keeps_builtin _,ArgsIs.run (.cons (EvIs_tup (.cons (EvIs_loc g2) (.cons (EvIs_loc g3) .nil))) .nil) (Cl_append ha zl ⟨rfl,Exs_nil (q _ ⟨adr,_,?_,A₂⟩)⟩)⟩
   have F₂:=F.old hk (c,e)
   rw [List.map_append] at F₂
   exact F₂
  ·rw [dget_refO,hk] at hv;contradiction
theorem M_nodes_by_op (P:Px cx a) {self:V} (h:HeapAt a.c σ loc H) {X:List Nat} (I:HInv X B H) (hn:H.nodes.length≤16) (hB:B≤9999) (q:∀ M σ',NB H M→(∀ x,σ x≠none→σ' x=σ x)→Q (.dT (encO M)) σ'):Cc cx (n+5) σ (.ref a.meet_nodes_by_op) [self,hV a loc] Q:=by
 refine P.meet_nodes_by_op.go rfl ?_
 conv=>arg 6;whnf
 have zp:H.par.length≤1000000:=Nat.le_trans (I.joinOk (Nat.le_trans hn (by decide)) hB).zp (by decide)
 refine Exs_name (Ev_dict0T fun f hf=>?_)
 have F0:FoundAt σ (σ.set f (.dT [])) f (fun o_=>0) []:=⟨hf,Store.set_self _ _,fun o_ o_ z=>(by contradiction),fun o_ o_ o_ o_ z=>(by contradiction),fun x hx=>Store.set_ne _ fun z=>hx (z▸hf)⟩
 skip
 generalize σ.set f (.dT [])=σ₁ at F0 ⊢
 have hrl:(roots H.par).length≤16:=Nat.le_trans roots_le (I.lp▸hn)
 refine Exs_cons (Ex_for (fun o_=>NbInv ⟨hV a loc,H,σ,f⟩) (EvI_seq (Ev_m (EvIs_loc rfl) (can_h (h.keepR F0.rest) P.heap_classes_m) .nil ((H_classes P (h.keepR F0.rest) zp).cc ⟨vi (roots H.par),rfl,⟨[],⟨rfl,rfl⟩,⟨_,[],F0,AccO.nil⟩,Nat.le_refl _,fun c e=>⟨fun z=>(by contradiction),fun z=>(nomatch z.1)⟩⟩,?_,?_⟩))))
 ·rintro i Γ₁ σ₂ v hv ⟨done,g,⟨adr,M,F,A⟩,hl,hd⟩
  obtain ⟨c,hc,rfl⟩:=At_map hv
  have hroot:=mem_roots.mp (List.mem_of_getElem? hc)
  have hrc:rt H.par c=c:=rt_of_root I.down hroot
  have hil:i<16:=Nat.lt_of_lt_of_le (List.getElem?_eq_some_iff.mp hc).1 hrl
  refine As_name (.inl (by rfl)) (Exs_wk fun Q₁ hq₁=>Exs_cons (Ex_for (NbIn ⟨hV a loc,H,σ,f⟩ c done) (EvI_seq (Ev_m (EvIs_loc g.g0) (can_h (h.keepR F.rest) P.heap_nodes_of_m) (.cons (EvIs_loc rfl) .nil) (H_nodes_of P (h.keepR F.rest) I hn hB (I.lp▸isRoot_lt hroot) fun out ho hol=>⟨out.map fun d=>T d.at,rfl,⟨done,⟨g.g0,g.g1⟩,rfl,⟨adr,M,F,A⟩,rfl,fun x=>⟨.inl,fun z=>z.elim id fun z=>(nomatch z.2)⟩⟩,?_,?_⟩)))))
  ·rintro j Γ₂ σ₃ v hv ⟨done',g,g2,F,hl',hd'⟩
   obtain ⟨e,he,rfl⟩:=At_map hv
   obtain ⟨ie,de,hde,_,hce⟩:=(ho e).mp (List.mem_of_getElem? he)
   refine As_name (.inl (by rfl)) (Exs_wk fun Q₂ hq₂=>nb_put P F (hce▸cn_ok I hde) ?_ ⟨g.g0,g.g1⟩ g2 rfl rfl fun σ' F'=>hq₂ (NbIn.step ⟨g.g0,g.g1⟩ g2 hl' hd' hv F'))
   have:=List.length_take_le' j (out.map fun d=>T d.at)
   rw [List.length_map] at this
   exact hl'▸Nat.le_trans (Nat.add_le_add (Nat.le_trans hl (Nat.mul_le_mul_left 16 (Nat.le_of_lt hil))) (Nat.le_trans this hol)) (by decide)
  ·exact fun Γ₂ σ₃ hh=>Exs_nil (hq₁ (NbIn.turn hc (fun e=>hrc▸ho e) hol hl hd hh))
 ·rintro Γ₁ σ₂ ⟨done,g,⟨adr,M,F,A⟩,hl,hd⟩
  rw [vi_len] at hl hd
  have hnf:∀ k,(k,V.ref f)∉refO adr M:=fun k hk=>by
   obtain ⟨p,hp,e⟩:=List.mem_map.mp hk
   injection e with _ e
   injection e with e
   exact (F.ls p.1 p.2 (ag_of_mem A.keys hp)).2.2 e
  refine Exs.deep F.at_ (F.refz fun p hp=>ag_of_mem A.keys hp) hnf (Exs.freeze g.g1 (by rfl) deep_at (Exs_ret ((EvIs_loc rfl).ev (q M _ ⟨A.keys,A.size,fun k l hl'=>?_,fun k c e=>?_⟩ fun x hx=>?_))))
  ·exact Nat.le_trans (A.len _ _ hl') (Nat.le_trans hl (Nat.le_trans (Nat.mul_le_mul_left 16 hrl) (by decide)))
  ·rw [A.mem,hd,List.take_length]
   constructor
   ·rintro ⟨⟨_,z⟩,w⟩;exact ⟨w,z⟩
   ·rintro ⟨w,i,d,hi,hr,he⟩;exact ⟨⟨mem_roots.mpr (hr▸rt_root I.down i (I.lt hi)),i,d,hi,hr,he⟩,w⟩
  ·have n1:x≠f:=fun z=>hx (z▸F.new)
   refine (if_neg n1).trans ((deep_keep n1 fun k hk=>?_).trans (F.rest x hx))
   obtain ⟨p,hp,e⟩:=List.mem_map.mp hk
   injection e with _ e
   injection e with e
   exact hx (e▸(F.ls p.1 p.2 (ag_of_mem A.keys hp)).2.1)
end
noncomputable abbrev Pr:=Nat×Nat
noncomputable abbrev NM:=List (Pr×Nat)
noncomputable def pairAt (p:Pr):List At:=[.i (p.1:Int),.i (p.2:Int)]
theorem pairAt_inj (p q:Pr) (h:pairAt p=pairAt q):p=q:=by
 simp only [pairAt,List.cons.injEq,At.i.injEq,and_true] at h
 exact Prod.ext (Int.ofNat_inj.mp h.1) (Int.ofNat_inj.mp h.2)
noncomputable def encP (l:NM):List (List At×V):=l.map fun p=>(pairAt p.1,V.int ((p.2:Nat):Int))
theorem dget_encP (l:NM) (p:Pr):dget (encP l) (pairAt p)=(ag l p).map fun (k:Nat)=>V.int k:=dget_enc pairAt pairAt_inj (fun (k:Nat)=>V.int k) p l
theorem dput_encP {l:NM} (hn:(l.map (·.1)).Nodup) (p:Pr) (k:Nat):dput (encP l) (pairAt p) (V.int k)=encP (ap l p k):=dput_enc pairAt pairAt_inj (fun (k:Nat)=>V.int k) p k hn
noncomputable def meetFs (a:Ads) (loc1 loc2 loc:Slot→Addr) (mn:Addr):List (Str×V):=[("one",hV a loc1),("other",hV a loc2),("heap",hV a loc),("numbers",.ref mn)]
structure MeetAt (a:Ads) (σ₀:Store) (loc1 loc2:Slot→Addr) (H1 H2:HS) (md mn:Addr) (σ:Store) (loc:Slot→Addr) (H:HS) (nums:NM):Prop where
 h1:HeapAt a.c σ₀ loc1 H1
 h2:HeapAt a.c σ₀ loc2 H2
 h:HeapAt a.c σ loc H
 rest:∀ x,σ₀ x≠none→σ x=σ₀ x
 new:∀ x,At_ a.c loc H x→σ₀ x=none
 md_:σ md=some (.fld (meetFs a loc1 loc2 loc mn))∧σ₀ md=none∧¬ At_ a.c loc H md
 mn_:σ mn=some (.dT (encP nums))∧σ₀ mn=none∧¬ At_ a.c loc H mn
section
variable {cx:Cx} {a:Ads} {n:Nat} {sc csc:Scope} {Γ:Str→Option V} {σ σ₀:Store} {Q:V→Store→Prop} {loc loc1 loc2:Slot→Addr} {H H1 H2:HS} {md mn:Addr} {nums:NM} {B:Nat}
theorem MeetAt.mv (M:MeetAt a σ₀ loc1 loc2 H1 H2 md mn σ loc H nums) {σ':Store} {loc':Slot→Addr} {H':HS} (m:Mv a.c σ loc H σ' loc' H'):MeetAt a σ₀ loc1 loc2 H1 H2 md mn σ' loc' H' nums:=by
 have e:hV a loc'=hV a loc:=m.hv
 have keep:∀ x,σ x≠none→¬ At_ a.c loc H x→σ' x=σ x:=fun x h1 h2=>m.win x h2 h1
 have h0:∀ x,σ₀ x≠none→σ x≠none:=fun x hx=>by rw [M.rest x hx];exact hx
 refine ⟨M.h1,M.h2,m.at_,fun x hx=>?_,fun x hx=>?_,⟨?_,M.md_.2.1,fun z=>?_⟩,⟨?_,M.mn_.2.1,fun z=>?_⟩⟩
 ·rw [keep x (h0 x hx) fun z=>hx (M.new x z)];exact M.rest x hx
 ·rcases m.new x hx with z|z
  ·exact M.new x z
  ·exact Classical.byContradiction fun w=>h0 x w z
 ·rw [keep md (by rw [M.md_.1];exact fun z=>by contradiction) M.md_.2.2,M.md_.1,meetFs,meetFs,e]
 ·rcases m.new md z with z|z
  ·exact M.md_.2.2 z
  ·rw [M.md_.1] at z;contradiction
 ·rw [keep mn (by rw [M.mn_.1];exact fun z=>by contradiction) M.mn_.2.2,M.mn_.1]
 ·rcases m.new mn z with z|z
  ·exact M.mn_.2.2 z
  ·rw [M.mn_.1] at z;contradiction
theorem MeetAt.keep (M:MeetAt a σ₀ loc1 loc2 H1 H2 md mn σ loc H nums) {σ':Store} (k:∀ x,σ x≠none→σ' x=σ x):MeetAt a σ₀ loc1 loc2 H1 H2 md mn σ' loc H nums:=by
 refine ⟨M.h1,M.h2,M.h.keepR k,fun x hx=>?_,M.new,⟨?_,M.md_.2⟩,⟨?_,M.mn_.2⟩⟩
 ·rw [k x (by rw [M.rest x hx];exact hx)];exact M.rest x hx
 ·rw [k md (by rw [M.md_.1];exact fun z=>by contradiction)];exact M.md_.1
 ·rw [k mn (by rw [M.mn_.1];exact fun z=>by contradiction)];exact M.mn_.1
theorem MeetAt.setN (M:MeetAt a σ₀ loc1 loc2 H1 H2 md mn σ loc H nums) (nums':NM):MeetAt a σ₀ loc1 loc2 H1 H2 md mn (σ.set mn (.dT (encP nums'))) loc H nums':=by
 have hne:md≠mn:=fun z=>by have:=M.md_.1;rw [z,M.mn_.1] at this;cases this
 refine ⟨M.h1,M.h2,RegAt.keep M.h fun x hx=>Store.set_ne _ fun z=>M.mn_.2.2 (z▸hx),fun x hx=>?_,M.new,⟨(Store.set_ne _ hne).trans M.md_.1,M.md_.2⟩,⟨Store.set_self _ _,M.mn_.2⟩⟩
 exact (Store.set_ne _ fun z=>hx (by rw [z];exact M.mn_.2.1)).trans (M.rest x hx)
noncomputable def mV (a:Ads) (md:Addr):V:=.inst a.c.meet (.ref md)
theorem can_mt (M:MeetAt a σ₀ loc1 loc2 H1 H2 md mn σ loc H nums) {name:Str} {f:Addr} (m:MethIs cx a.c.meet name f) (hn:fget (meetFs a loc1 loc2 loc mn) name=none):Can cx σ (mV a md) name f:=⟨m.mt (d:=.ref md) M.md_.1 hn,m.keep⟩
theorem fl_one (M:MeetAt a σ₀ loc1 loc2 H1 H2 md mn σ loc H nums):FldIs σ md "one" (hV a loc1):=⟨_,M.md_.1,rfl⟩
theorem fl_other (M:MeetAt a σ₀ loc1 loc2 H1 H2 md mn σ loc H nums):FldIs σ md "other" (hV a loc2):=⟨_,M.md_.1,rfl⟩
theorem fl_heap (M:MeetAt a σ₀ loc1 loc2 H1 H2 md mn σ loc H nums):FldIs σ md "heap" (hV a loc):=⟨_,M.md_.1,rfl⟩
theorem fl_nums (M:MeetAt a σ₀ loc1 loc2 H1 H2 md mn σ loc H nums):FldIs σ md "numbers" (.ref mn):=⟨_,M.md_.1,rfl⟩
theorem MeetAt.g1 (M:MeetAt a σ₀ loc1 loc2 H1 H2 md mn σ loc H nums):HeapAt a.c σ loc1 H1:=M.h1.keepR M.rest
theorem MeetAt.g2 (M:MeetAt a σ₀ loc1 loc2 H1 H2 md mn σ loc H nums):HeapAt a.c σ loc2 H2:=M.h2.keepR M.rest
noncomputable def classV (H1 H2 H:HS) (nums:NM) (x y:Nat):Int:=match ag nums (rt H1.par x,rt H2.par y) with
 | some k=>(rt H.par k:Nat)
 | none=>-1
theorem M_class_of (P:Px cx a) (M:MeetAt a σ₀ loc1 loc2 H1 H2 md mn σ loc H nums) (hd1:Down H1.par) (hd2:Down H2.par) (hd:Down H.par) (z1:H1.par.length≤1000000) (z2:H2.par.length≤1000000) (z:H.par.length≤1000000)
  (hn:∀ p k,ag nums p=some k→k<H.par.length) {x y:Nat} (hx:x<H1.par.length) (hy:y<H2.par.length):CcIs cx (n+3) σ (.ref a.meet_class_of) [mV a md,.int x,.int y] (.int (classV H1 H2 H nums x y)):=by
 refine P.meet_class_of.go rfl ?_
 conv=>arg 6;whnf
 refine Exs_name (Ev_bm (EvIs_at (EvIs_loc rfl) (fl_nums M) P.meet_a_numbers) (Mt_getT M.mn_.1) (.cons (v:=T (pairAt (rt H1.par x,rt H2.par y))) (EvIs_tup (.cons (Ev_m (EvIs_at (EvIs_loc rfl) (fl_one M) P.meet_a_one) (can_h M.g1 P.heap_find_m) (.cons (EvIs_loc rfl) .nil) (H_find P M.g1 hd1 z1 hx)) (.cons (Ev_m (EvIs_at (EvIs_loc rfl) (fl_other M) P.meet_a_other) (can_h M.g2 P.heap_find_m) (.cons (EvIs_loc rfl) .nil) (H_find P M.g2 hd2 z2 hy)) .nil))) (.cons EvIs_neg .nil)) (Cl_getT M.mn_.1 ?_))
 rw [dget_encP]
 have hs:classV H1 H2 H nums x y=match ag nums (rt H1.par x,rt H2.par y) with
  | some k=>((rt H.par k:Nat):Int)
  | none=>-1:=rfl
 rw [hs]
 rcases e:ag nums (rt H1.par x,rt H2.par y) with _|k
 ·exact Exs_ret (Ev_if (Te_cm (EvIs_loc rfl) EvIs_int (P2_lt (.of ⟨fun o_=>EvIs_neg,fun z=>by contradiction⟩))))
 ·
  refine Exs_ret (Ev_if (Te_cm (EvIs_loc rfl) EvIs_int (P2_lt (.of ⟨fun z=>?_,fun o_=>Ev_m (EvIs_at (EvIs_loc rfl) (fl_heap M) P.meet_a_heap) (can_h M.h P.heap_find_m) (.cons (EvIs_loc rfl) .nil) (H_find P M.h hd z (hn _ _ e))⟩))))
  exact absurd (of_decide_eq_true z) (Int.not_lt.mpr (Int.natCast_nonneg k))
end
noncomputable def prOf:V→Pr
 | .tup [.int x,.int y]=>(x.toNat,y.toNat)
 | _=>(0,0)
theorem prOf_at (p:Pr):prOf (T (pairAt p))=p:=Prod.ext (Int.toNat_natCast p.1) (Int.toNat_natCast p.2)
noncomputable def prs (l:List Pr):List V:=l.map fun p=>T (pairAt p)
theorem prs_dat:∀ l:List Pr,V.areDat (prs l)=true
 | []=>rfl
 | p::l=>by show (V.isDat (T (pairAt p)) && V.areDat (prs l))=true;rw [prs_dat l];rfl
theorem prs_filter (l:List Pr) (f:Pr→Bool):((prs l).filter fun v=>f (prOf v)).map id=prs (l.filter f):=by
 delta prs
 rw [List.map_id,List.filter_map]
 rfl
noncomputable def addN (nums:NM) (p:Pr) (n:Nat):NM:=match ag nums p with
 | some _=>nums
 | none=>ap nums p n
structure EvoP (d:Nd) (k0:Nat) (H H':HS):Prop where
 nodes:H'.nodes=H.nodes++[d]
 mono:∀ i j,rt H.par i=rt H.par j→rt H'.par i=rt H'.par j
 eq:rt H'.par k0=rt H'.par H.nodes.length
 snd:∀ E,Equivalence E→Cong E (H.nodes++[d])→E k0 H.nodes.length→(∀ i,E i (rt H.par i))→∀ i,E i (rt H'.par i)
section
variable {cx:Cx} {a:Ads} {n:Nat} {sc csc:Scope} {Γ:Str→Option V} {σ σ₀:Store} {Q:V→Store→Prop} {loc loc1 loc2:Slot→Addr} {H H1 H2:HS} {md mn:Addr} {nums:NM} {B:Nat}
theorem M_put (P:Px cx a) (M:MeetAt a σ₀ loc1 loc2 H1 H2 md mn σ loc H nums) (I:HInv [] B H) (hn:H.nodes.length<64) (hB:B+1<9999) (hnk:(nums.map (·.1)).Nodup) (hnz:nums.length≤9999) (hnum:∀ p k,ag nums p=some k→k<H.nodes.length) {pair:Pr} {op:Str} {kps:List Pr} (hop:opOk op) (har:kps.length=arity op)
  (q0:(∃ p∈kps,ag nums p=none)→Q (.bool false) σ) (q1:(∀ p∈kps,ag nums p≠none)→(⟨op,kps.map fun p=>(ag nums p).getD 0⟩:Nd)∈H.nodes→Q (.bool false) σ)
  (q2:(∀ p∈kps,ag nums p≠none)→(⟨op,kps.map fun p=>(ag nums p).getD 0⟩:Nd)∉H.nodes→∀ σ' loc' H',MeetAt a σ₀ loc1 loc2 H1 H2 md mn σ' loc' H' (addN nums pair H.nodes.length)→HInv [] (B+2) H'→EvoP ⟨op,kps.map fun p=>(ag nums p).getD 0⟩ ((ag nums pair).getD H.nodes.length) H H'→Q (.bool true) σ') :
  Cc cx (n+6) σ (.ref a.meet_put) [mV a md,T (pairAt pair),.str op,.tup (prs kps)] Q:=by
 refine P.meet_put.go rfl ?_
 conv=>arg 6;whnf
 have zk:kps.length≤2:=by rw [har];exact arity_le _
 have zp:(prs kps).length≤1000000:=by delta prs;rw [List.length_map];exact Nat.le_trans zk (by decide)
 have zn:(encP nums).length≤1000000:=by delta encP;rw [List.length_map];exact Nat.le_trans hnz (by decide)
 refine Exs_if (b:=!(kps.filter fun p=>!(ag nums p).isSome).isEmpty) (Te_cm (v:=.lst (prs (kps.filter fun p=>!(ag nums p).isSome))) (Ev_comp (by decide +kernel) (by rfl) (EvI_seq (EvIs.ev (EvIs_loc rfl) ⟨prs kps,rfl,_,Turns_filter id (fun v=>!(ag nums (prOf v)).isSome) zp (fun v hv=>?_) (fun v hv hp=>Ev_loc rfl ⟨rfl,rfl⟩),.inl ?_⟩))) (EvIs_lst .nil) (P2_ne (prs_dat _) rfl (Nat.le_trans (Nat.min_le_right _ _) (by decide)) fun b hb=>.of ⟨?_,rfl⟩)) (fun e=>?_) fun e=>?_
 ·obtain ⟨p,hp,rfl⟩:=List.mem_map.mp hv
  refine Te_cm (EvIs_loc rfl) (EvIs_at (EvIs_loc rfl) (fl_nums M) P.meet_a_numbers) (P2_notinT M.mn_.1 (.of ⟨rfl,?_⟩))
  rw [dget_encP,Option.isSome_map,prOf_at]
 ·rw [prs_filter kps fun p=>!(ag nums p).isSome];exact .rfl
 ·generalize kps.filter (fun p=>!(ag nums p).isSome)=l at hb
  rcases l with _|⟨p,r⟩
  ·
   rcases b with _|_
   ·rfl
   ·exact absurd rfl (hb.mp rfl)
  ·
   rcases b with _|_
   ·exact absurd (hb.mpr fun z=>by cases z) (by decide)
   ·rfl
 ·refine Exs_ret (EvIs_bool.ev (q0 ?_))
  rcases z:kps.filter (fun p=>!(ag nums p).isSome) with _|⟨p,r⟩
  ·rw [z] at e;contradiction
  ·
   have:=List.mem_filter.mp (z▸List.mem_cons_self:p∈kps.filter (fun p=>!(ag nums p).isSome))
   refine ⟨p,this.1,?_⟩
   rcases w:ag nums p with _|k
   ·rfl
   ·rw [w] at this;exact nomatch this.2
 have all:∀ p∈kps,ag nums p≠none:=fun p hp z=>by
  have:p∈kps.filter (fun p=>!(ag nums p).isSome):=List.mem_filter.mpr ⟨hp,by rw [z];rfl⟩
  rcases w:kps.filter (fun p=>!(ag nums p).isSome) with _|⟨p,r⟩
  ·rw [w] at this;contradiction
  ·rw [w] at e;contradiction
 have q1':=q1 all
 have q2':=q2 all
 clear q0 q1 q2 e
 refine Exs_nil ?_
 generalize hΓ:argsOf ["self", "pair", "op", "kids"] [mV a md,T (pairAt pair),V.str op,V.tup (prs kps)]=Γ
 have g0:Γ ("self" : Str)=some (mV a md):=by subst hΓ;rfl
 have g1:Γ ("pair" : Str)=some (T (pairAt pair)):=by subst hΓ;rfl
 have g2:Γ ("op" : Str)=some (.str op):=by subst hΓ;rfl
 have g3:Γ ("kids" : Str)=some (.tup (prs kps)):=by subst hΓ;rfl
 clear hΓ
 have zz:H.nodes.length≤1000000:=Nat.le_trans (Nat.le_of_lt hn) (by decide)
 refine Exs_name (Ev_m (EvIs_at (EvIs_loc g0) (fl_heap M) P.meet_a_heap) (can_h M.h P.heap_size_m) .nil ((H_size P M.h zz).cc ?_))
 have hks:∀ p∈kps,ag nums p=some ((ag nums p).getD 0):=fun p hp=>by
  rcases e:ag nums p with _|k
  ·exact absurd e (all p hp)
  ·rfl
 have hkl:(kps.map fun p=>(ag nums p).getD 0).length≤1000000:=by rw [List.length_map];exact Nat.le_trans zk (by decide)
 refine Exs_name (Ev_m (EvIs_at (EvIs_loc g0) (fl_heap M) P.meet_a_heap) (can_h M.h P.heap_add_m) (.cons (EvIs_loc g2) (.cons (v:=.tup (vi (kps.map fun p=>(ag nums p).getD 0))) (Ev_ty P.g_tuple (.cons (v:=.lst (vi (kps.map fun p=>(ag nums p).getD 0))) (Ev_comp (by decide +kernel) (by rfl) (EvI_seq (EvIs.ev (EvIs_loc g3) ⟨prs kps,rfl,_,Turns_map (fun v=>V.int ((ag nums (prOf v)).getD 0:Nat)) zp (fun v hv=>?_),.inl ?_⟩))) .nil) (Cl_tuple_list (l:=vi _) rfl (by rw [vi_len];exact hkl) .rfl) (keeps_type _)) .nil))
  (H_add (d:=⟨op,kps.map fun p=>(ag nums p).getD 0⟩) P M.h I hn (Nat.lt_of_succ_lt hB) ⟨hop,by rw [List.length_map];exact har⟩ (fun k hk=>?_) (fun i hi=>?_) fun hnew σ₁ loc₁ H₁ m1 I1 ev1=>?_))
 ·obtain ⟨p,hp,rfl⟩:=List.mem_map.mp hv
  rw [prOf_at]
  exact Ev_sb (EvIs_at (EvIs_loc g0) (fl_nums M) P.meet_a_numbers) (EvIs_loc rfl) (P2_itemT M.mn_.1 (by rw [dget_encP,hks p hp];rfl) ⟨rfl,rfl⟩)
 ·have:(prs kps).map (fun v=>V.int ((ag nums (prOf v)).getD 0:Nat))=vi (kps.map fun p=>(ag nums p).getD 0):=by
   delta prs vi
   rw [List.map_map,List.map_map]
   exact List.map_congr_left fun p o_=>by show V.int ((ag nums (prOf (T (pairAt p)))).getD 0:Nat)=_;rw [prOf_at];rfl
  rw [this];exact .rfl
 ·obtain ⟨p,hp,rfl⟩:=List.mem_map.mp hk
  exact hnum p _ (hks p hp)
 ·refine Exs_if (b:=true) (Te_cm (Ev_m (EvIs_at (EvIs_loc g0) (fl_heap M) P.meet_a_heap) (can_h M.h P.heap_size_m) .nil (H_size P M.h zz)) (EvIs_loc rfl) (P2_eqi (.of ⟨decide_eq_true rfl,rfl⟩))) (fun o_=>Exs_ret (EvIs_bool.ev (q1' (List.mem_of_getElem? hi)))) fun e=>Bool.noConfusion e
 have q2'':=q2' hnew
 have M1:=M.mv m1
 have hl1:H₁.nodes.length=H.nodes.length+1:=by rw [ev1.nodes,List.length_append];rfl
 clear q1' q2'
 refine Exs_if (b:=false) (Te_cm (Ev_m (EvIs_at (EvIs_loc g0) (fl_heap M1) P.meet_a_heap) (can_h M1.h P.heap_size_m) .nil (H_size P M1.h (by rw [hl1];exact Nat.le_trans hn (by decide)))) (EvIs_loc rfl) (P2_eqi (.of ⟨decide_eq_false ?_,rfl⟩))) (fun e=>Bool.noConfusion e) fun o_=>Exs_nil ?_
 ·rw [hl1];exact fun z=>absurd (Int.ofNat_inj.mp z) (Nat.succ_ne_self _)
 generalize hΓ:upd (upd Γ "many" _) "n" _=Γ'
 have k0:Γ' ("self" : Str)=some (mV a md):=by subst hΓ;exact g0
 have k1:Γ' ("pair" : Str)=some (T (pairAt pair)):=by subst hΓ;exact g1
 have k2:Γ' ("n" : Str)=some (.int (H.nodes.length:Nat)):=by subst hΓ;rfl
 clear hΓ g0 g1 g2 g3 Γ
 have zc:H.nodes.length<H₁.par.length:=by rw [I1.lp,hl1];exact Nat.lt_succ_self _
 have fin:∀ {σ₂:Store} {kk:Nat} {p1 p2:Pos},MeetAt a σ₀ loc1 loc2 H1 H2 md mn σ₂ loc₁ H₁ (addN nums pair H.nodes.length)→kk=(ag nums pair).getD H.nodes.length→kk<H₁.par.length →
   Cl cx (n+5) σ₂ (.ref a.heap_merge) [hV a loc₁,.int kk,.int (H.nodes.length:Nat),.tup [.str "told",.str "meet"]] (ThenP cx (n+5) (defScope (methAt 13 3)) Γ' [.Return (some (.Constant (.bool true) 0 p1)) p2] (ValP Q)):=fun {σ₂ kk p1 p2} M2 hkk hlt=>
  (H_merge P M2.h I1 (by rw [hl1];exact hn) (Nat.le_of_lt hB) hlt zc fun r σ₃ loc₃ H₃ m3 I3 ev3=>⟨rfl,Exs_ret (EvIs_bool.ev (q2'' σ₃ loc₃ H₃ (M2.mv m3) I3 ⟨ev3.nodes.trans ev1.nodes,fun i j z=>ev3.mono i j (ev1.mono i j z),hkk▸ev3.eq,fun E hE hc he hs=>ev3.snd E hE (hkk▸he) (ev1.snd E hE hc hs)⟩))⟩).cl
 rcases hp:ag nums pair with _|kk
 ·
  have ha:addN nums pair H.nodes.length=ap nums pair H.nodes.length:=by delta addN;rw [hp]
  rw [ha,hp] at fin
  refine Exs_expr (Ev_meth (EvIs.ev (EvIs_at (EvIs_loc k0) (fl_heap M1) P.meet_a_heap) ⟨_,(can_h M1.h P.heap_merge_m).1,keeps_ref P.heap_merge_m.keep,⟨rfl,Ev_bm (EvIs_at (EvIs_loc k0) (fl_nums M1) P.meet_a_numbers) (Mt_setdefT M1.mn_.1) (.cons (EvIs_loc k1) (.cons (EvIs_loc k2) .nil)) (Cl_setdefT M1.mn_.1 zn (fun v hv=>?_) fun hv=>?_)⟩⟩))
  ·rw [dget_encP,hp] at hv;contradiction
  ·rw [dput_encP hnk]
   exact ArgsIs.run (.cons (EvIs_loc k2) (.cons (EvIs_tup (.cons EvIs_str (.cons EvIs_str .nil))) .nil)) (fin (M1.setN _) rfl zc)
 ·
  have ha:addN nums pair H.nodes.length=nums:=by delta addN;rw [hp]
  rw [ha,hp] at fin
  refine Exs_expr (Ev_meth (EvIs.ev (EvIs_at (EvIs_loc k0) (fl_heap M1) P.meet_a_heap) ⟨_,(can_h M1.h P.heap_merge_m).1,keeps_ref P.heap_merge_m.keep,⟨rfl,Ev_bm (EvIs_at (EvIs_loc k0) (fl_nums M1) P.meet_a_numbers) (Mt_setdefT M1.mn_.1) (.cons (EvIs_loc k1) (.cons (EvIs_loc k2) .nil)) (Cl_setdefT M1.mn_.1 zn (fun v hv=>?_) fun hv=>?_)⟩⟩))
  ·rw [dget_encP,hp] at hv
   (injection hv with hv;subst hv)
   refine ArgsIs.run (.cons (EvIs_loc k2) (.cons (EvIs_tup (.cons EvIs_str (.cons EvIs_str .nil))) .nil)) (fin M1 rfl ?_)
   exact Nat.lt_trans (hnum _ _ hp) zc
  ·rw [dget_encP,hp] at hv;contradiction
end
noncomputable def Kn (H:HS) (e:Nd) (c:Nat):Prop:=∃ (i:Nat) (d:Nd),H.nodes[i]? = some d∧rt H.par i=c∧e=cn H.par d
noncomputable def KnF (H:HS):Prop:=∀ e c c',Kn H e c→Kn H e c'→c=c'
theorem HInv.knF {B:Nat} {H:HS} (I:HInv [] B H) (hw:H.wait=[]):KnF H:=fun e c c' ⟨i,d,h1,h2,h3⟩ ⟨j,d',k1,k2,k3⟩=>by
 rw [← h2,← k2]
 exact I.alike_eq hw h1 k1 (h3.symm.trans k3)
noncomputable def mkN (nums:NM) (e1 e2:Nd):Nd:=⟨e1.op,(e1.kids.zip e2.kids).map fun p=>(ag nums p).getD 0⟩
structure Rdy (nums:NM) (e1 e2:Nd):Prop where
 op:e1.op=e2.op
 len:e1.kids.length=e2.kids.length
 all:∀ p∈e1.kids.zip e2.kids,ag nums p≠none
structure MInv (H1 H2 H:HS) (nums:NM) (π:Nat→Pr):Prop where
 nk:(nums.map (·.1)).Nodup
 node:∀ (i:Nat) d,H.nodes[i]? = some d→∃ e1 e2,Kn H1 e1 (π i).1∧Kn H2 e2 (π i).2∧Rdy nums e1 e2∧d=mkN nums e1 e2
 num:∀ p k,ag nums p=some k→k<H.nodes.length∧π k=p
 all:∀ i,i<H.nodes.length→∃ k,ag nums (π i)=some k∧rt H.par k=rt H.par i
 sound:∀ i,π i=π (rt H.par i)
theorem zip_eq {l1 l2 m1 m2:List Nat} (h:l1.length=l2.length) (h':m1.length=m2.length) (e:l1.zip l2=m1.zip m2):l1=m1∧l2=m2:=by
 have a1:∀ {l l':List Nat},l.length=l'.length→(l.zip l').map (·.1)=l∧(l.zip l').map (·.2)=l':=fun {l l'} h=>⟨List.map_fst_zip (Nat.le_of_eq h),List.map_snd_zip (Nat.le_of_eq h.symm)⟩
 exact ⟨by rw [← (a1 h).1,e,(a1 h').1],by rw [← (a1 h).2,e,(a1 h').2]⟩
section
variable {H1 H2 H H':HS} {nums:NM} {π:Nat→Pr}
theorem MInv.kid (M:MInv H1 H2 H nums π) {p:Pr} (h:ag nums p≠none):π ((ag nums p).getD 0)=p:=by
 rcases e:ag nums p with _|k
 ·exact absurd e h
 ·exact (M.num p k e).2
theorem MInv.same (M:MInv H1 H2 H nums π) {e1 e2 e1' e2':Nd} (r:Rdy nums e1 e2) (r':Rdy nums e1' e2') (ho:e1.op=e1'.op) (hk:All2 (fun k k'=>π k=π k') (mkN nums e1 e2).kids (mkN nums e1' e2').kids):e1=e1'∧e2=e2':=by
 have hz:e1.kids.zip e2.kids=e1'.kids.zip e2'.kids:=by
  have hl:(e1.kids.zip e2.kids).length=(e1'.kids.zip e2'.kids).length:=by
   have:=hk.1
   dsimp only [mkN] at this
   rwa [List.length_map,List.length_map] at this
  refine List.ext_getElem? fun i=>?_
  rcases Nat.lt_or_ge i (e1.kids.zip e2.kids).length with q|q
  ·have g1:=List.getElem?_eq_getElem q
   have g2:=List.getElem?_eq_getElem (hl▸q:i<(e1'.kids.zip e2'.kids).length)
   rw [g1,g2]
   have:=hk.2 i _ _ (by delta mkN;rw [List.getElem?_map,g1];rfl) (by delta mkN;rw [List.getElem?_map,g2];rfl)
   exact congrArg some ((M.kid (r.all _ (List.mem_of_getElem? g1))).symm.trans (Eq.trans this (M.kid (r'.all _ (List.mem_of_getElem? g2)))))
  ·rw [List.getElem?_eq_none q,List.getElem?_eq_none (hl▸q)]
 obtain ⟨h1,h2⟩:=zip_eq r.len r'.len hz
 have o2:e2.op=e2'.op:=r.op.symm.trans (ho.trans r'.op)
 cases e1;cases e2;cases e1';cases e2'
 simp only at h1 h2 ho o2
 subst h1;subst h2;subst ho;subst o2
 exact ⟨rfl,rfl⟩
theorem MInv.cong (M:MInv H1 H2 H nums π) (f1:KnF H1) (f2:KnF H2):Cong (fun i j=>π i=π j) H.nodes:=fun i j d d' hi hj ho hk=>by
 obtain ⟨e1,e2,a1,a2,r,rfl⟩:=M.node i d hi
 obtain ⟨e1',e2',a1',a2',r',rfl⟩:=M.node j d' hj
 obtain ⟨rfl,rfl⟩:=M.same r r' ho hk
 exact Prod.ext (f1 _ _ _ a1 a1') (f2 _ _ _ a2 a2')
theorem MInv.evo (M:MInv H1 H2 H nums π) (f1:KnF H1) (f2:KnF H2) (e:Evo H H'):MInv H1 H2 H' nums π where
 nk:=M.nk
 node i d h:=M.node i d (by rw [← e.nodes];exact h)
 num p k h:=by rw [e.nodes];exact M.num p k h
 all i h:=by
  rw [e.nodes] at h
  obtain ⟨k,h1,h2⟩:=M.all i h
  exact ⟨k,h1,e.mono _ _ h2⟩
 sound:=e.snd (fun i j=>π i=π j) ⟨fun o_=>rfl,fun h=>h.symm,fun h h'=>h.trans h'⟩ (M.cong f1 f2) M.sound
theorem MInv.eq_iff (M:MInv H1 H2 H nums π) {i j:Nat} (hi:i<H.nodes.length) (hj:j<H.nodes.length):rt H.par i=rt H.par j↔π i=π j:=by
 constructor
 ·intro h;rw [M.sound i,h,← M.sound j]
 ·intro h
  obtain ⟨k,h1,h2⟩:=M.all i hi
  obtain ⟨k',h1',h2'⟩:=M.all j hj
  rw [← h,h1] at h1'
  (injection h1' with h1';subst h1')
  exact h2.symm.trans h2'
theorem MInv.at_ (M:MInv H1 H2 H nums π) (f1:KnF H1) (f2:KnF H2) {e1 e2:Nd} {c d:Nat} (h1:Kn H1 e1 c) (h2:Kn H2 e2 d) (r:Rdy nums e1 e2) {i:Nat} (hi:H.nodes[i]? = some (mkN nums e1 e2)):π i=(c,d):=by
 obtain ⟨e1',e2',a1',a2',r',he⟩:=M.node i _ hi
 have hk:All2 (fun k k'=>π k=π k') (mkN nums e1 e2).kids (mkN nums e1' e2').kids:=by
  rw [← he]
  exact ⟨rfl,fun i x y hx hy=>by rw [hx] at hy;(injection hy with hy;subst hy);rfl⟩
 obtain ⟨rfl,rfl⟩:=M.same r r' (show (mkN nums e1 e2).op=(mkN nums e1' e2').op by rw [he]) hk
 exact Prod.ext (f1 _ _ _ a1' h1) (f2 _ _ _ a2' h2)
theorem ag_addN {p q:Pr} {n k:Nat} (h:ag nums q=some k):ag (addN nums p n) q=some k:=by
 delta addN
 split
 ·exact h
 ·rename_i e
  rw [ag_ap]
  by_cases z:q=p
  ·subst z;rw [e] at h;contradiction
  ·rw [if_neg z];exact h
theorem ag_addN_inv {p q:Pr} {n k:Nat} (h:ag (addN nums p n) q=some k):ag nums q=some k∨ag nums p=none∧q=p∧k=n:=by
 delta addN at h
 split at h
 ·exact .inl h
 ·rename_i e
  rw [ag_ap] at h
  by_cases z:q=p
  ·rw [if_pos z] at h;(injection h with h;subst h);exact .inr ⟨e,z,rfl⟩
  ·rw [if_neg z] at h;exact .inl h
theorem rdy_addN {p:Pr} {n:Nat} {e1 e2:Nd} (r:Rdy nums e1 e2):Rdy (addN nums p n) e1 e2∧mkN (addN nums p n) e1 e2=mkN nums e1 e2:=by
 have h:∀ q∈e1.kids.zip e2.kids,ag (addN nums p n) q=ag nums q:=fun q hq=>by
  rcases e:ag nums q with _|k
  ·exact absurd e (r.all q hq)
  ·exact ag_addN e
 refine ⟨⟨r.op,r.len,fun q hq=>by rw [h q hq];exact r.all q hq⟩,?_⟩
 delta mkN
 rw [List.map_congr_left fun q hq=>by rw [h q hq]]
theorem MInv.put (M:MInv H1 H2 H nums π) (f1:KnF H1) (f2:KnF H2) {B:Nat} (I:HInv [] B H) {e1 e2:Nd} {c d:Nat} (h1:Kn H1 e1 c) (h2:Kn H2 e2 d) (r:Rdy nums e1 e2) (ev:EvoP (mkN nums e1 e2) ((ag nums (c,d)).getD H.nodes.length) H H') :
  MInv H1 H2 H' (addN nums (c,d) H.nodes.length) (fun i=>if i=H.nodes.length then (c,d) else π i):=by
 have hlen:H'.nodes.length=H.nodes.length+1:=by rw [ev.nodes,List.length_append];rfl
 have hπ:∀ {i},i<H.nodes.length→(if i=H.nodes.length then (c,d) else π i)=π i:=fun h=>if_neg (Nat.ne_of_lt h)
 have hnodes:∀ {i:Nat} {e:Nd},(H.nodes++[mkN nums e1 e2])[i]? = some e→H.nodes[i]? = some e∨i=H.nodes.length∧e=mkN nums e1 e2:=fun {i e} h=>by
  rcases Nat.lt_or_ge i H.nodes.length with q|q
  ·rw [List.getElem?_append_left q] at h;exact .inl h
  ·rw [List.getElem?_append_right q] at h
   obtain ⟨k1,k2⟩:=List.getElem?_eq_some_iff.mp h
   rw [List.getElem_singleton] at k2
   have:i - H.nodes.length<1:=k1
   exact .inr ⟨by omega,k2.symm⟩
 have node:∀ (i:Nat) e,(H.nodes++[mkN nums e1 e2])[i]? = some e→∃ u1 u2,Kn H1 u1 (if i=H.nodes.length then (c,d) else π i).1∧Kn H2 u2 (if i=H.nodes.length then (c,d) else π i).2∧Rdy nums u1 u2∧e=mkN nums u1 u2:=fun i e h=>by
  rcases hnodes h with z|⟨z1,z2⟩
  ·rw [hπ (List.getElem?_eq_some_iff.mp z).1];exact M.node i e z
  ·rw [if_pos z1];exact ⟨e1,e2,h1,h2,r,z2⟩
 have hk0:(if (ag nums (c,d)).getD H.nodes.length=H.nodes.length then (c,d) else π ((ag nums (c,d)).getD H.nodes.length))=(c,d):=by
  rcases e:ag nums (c,d) with _|k
  ·exact if_pos rfl
  ·
   obtain ⟨a1,a2⟩:=M.num _ _ e
   exact (hπ a1).trans a2
 have heq:Equivalence fun i j=>(if i=H.nodes.length then (c,d) else π i)=(if j=H.nodes.length then (c,d) else π j):=⟨fun o_=>rfl,fun h=>h.symm,fun h h'=>h.trans h'⟩
 have kidlt:∀ {u1 u2:Nd},Rdy nums u1 u2→∀ k∈(mkN nums u1 u2).kids,k<H.nodes.length:=fun {u1 u2} ru k hk=>by
  obtain ⟨p,hp,rfl⟩:=List.mem_map.mp hk
  rcases e:ag nums p with _|k
  ·exact absurd e (ru.all p hp)
  ·exact (M.num _ _ e).1
 have hc:Cong (fun i j=>(if i=H.nodes.length then (c,d) else π i)=(if j=H.nodes.length then (c,d) else π j)) (H.nodes++[mkN nums e1 e2]):=fun i j x y hi hj ho hk=>by
  obtain ⟨u1,u2,a1,a2,ru,rfl⟩:=node i x hi
  obtain ⟨v1,v2,b1,b2,rv,rfl⟩:=node j y hj
  have hk':All2 (fun k k'=>π k=π k') (mkN nums u1 u2).kids (mkN nums v1 v2).kids:=⟨hk.1,fun i x y hx hy=>by
   exact (hπ (kidlt ru x (List.mem_of_getElem? hx))).symm.trans (Eq.trans (hk.2 i x y hx hy) (hπ (kidlt rv y (List.mem_of_getElem? hy))))⟩
  obtain ⟨rfl,rfl⟩:=M.same ru rv ho hk'
  exact Prod.ext (f1 _ _ _ a1 b1) (f2 _ _ _ a2 b2)
 refine ⟨?_,fun i e h=>?_,fun p k h=>?_,fun i h=>?_,ev.snd _ heq hc (hk0.trans (if_pos rfl).symm) fun i=>?_⟩
 ·delta addN
  split
  ·exact M.nk
  ·exact ap_nodup M.nk
 ·rw [ev.nodes] at h
  obtain ⟨u1,u2,a1,a2,ru,rfl⟩:=node i e h
  obtain ⟨r1,r2⟩:=rdy_addN (p:=(c,d)) (n:=H.nodes.length) ru
  exact ⟨u1,u2,a1,a2,r1,r2.symm⟩
 ·rw [hlen]
  rcases ag_addN_inv h with z|⟨_,z1,z2⟩
  ·obtain ⟨a1,a2⟩:=M.num p k z
   exact ⟨Nat.lt_succ_of_lt a1,(hπ a1).trans a2⟩
  ·rw [z2,z1];exact ⟨Nat.lt_succ_self _,if_pos rfl⟩
 ·rw [hlen] at h
  by_cases q:i=H.nodes.length
  ·rw [if_pos q,q]
   refine ⟨(ag nums (c,d)).getD H.nodes.length,?_,ev.eq⟩
   rcases e:ag nums (c,d) with _|k
   ·delta addN;rw [e];show ag (ap nums (c,d) H.nodes.length) (c,d)=_;rw [ag_ap,if_pos rfl];rfl
   ·exact ag_addN e
  ·have hi:i<H.nodes.length:=Nat.lt_of_le_of_ne (Nat.le_of_lt_succ h) q
   rw [hπ hi]
   obtain ⟨k,a1,a2⟩:=M.all i hi
   exact ⟨k,ag_addN a1,ev.mono _ _ a2⟩
 ·rcases Nat.lt_or_ge i H.nodes.length with q|q
  ·have h':rt H.par i<H.nodes.length:=I.lp▸rt_lt I.down (I.lp▸q)
   rw [hπ q,hπ h'];exact M.sound i
  ·rw [rt_out I.down (I.lp▸q)]
theorem MInv.size (M:MInv H1 H2 H nums π) (hnd:H.nodes.Nodup):H.nodes.length≤H1.nodes.length*H2.nodes.length:=by
 let cand:List Nd:=H1.nodes.flatMap fun d1=>H2.nodes.map fun d2=>mkN nums (cn H1.par d1) (cn H2.par d2)
 have hl:cand.length=H1.nodes.length*H2.nodes.length:=by
  show (H1.nodes.flatMap _).length=_
  induction H1.nodes with
  | nil=>exact (Nat.zero_mul _).symm
  | cons x l ih=>rw [List.flatMap_cons,List.length_append,ih,List.length_map,List.length_cons,Nat.succ_mul,Nat.add_comm]
 rw [← hl]
 refine hnd.length_le_of_subset fun d hd=>?_
 obtain ⟨i,hi⟩:=List.getElem?_of_mem hd
 obtain ⟨e1,e2,⟨i1,d1,a1,_,rfl⟩,⟨i2,d2,b1,_,rfl⟩,_,rfl⟩:=M.node i d hi
 exact List.mem_flatMap.mpr ⟨d1,List.mem_of_getElem? a1,List.mem_map.mpr ⟨d2,List.mem_of_getElem? b1,rfl⟩⟩
end
theorem allLoc {sc:Scope} {names:List Str} (h:(names.all fun y=>sc.names.lookup y==some .local || sc.names.lookup y==some .cell)=true):∀ x∈names,sc.names.lookup x=some .local∨sc.names.lookup x=some .cell:=fun x hx=>by
 have:=List.all_eq_true.mp h x hx
 rcases Bool.or_eq_true _ _ |>.mp this with z|z
 ·exact .inl (beq_iff_eq.mp z)
 ·exact .inr (beq_iff_eq.mp z)
structure Side (H:HS):Prop where
 I:HInv [] 9999 H
 w:H.wait=[]
 n:H.nodes.length≤6
structure MState (a:Ads) (σ₀:Store) (loc1 loc2:Slot→Addr) (H1 H2:HS) (md mn:Addr) (σ:Store) (loc:Slot→Addr) (H:HS) (nums:NM) (π:Nat→Pr):Prop where
 M:MeetAt a σ₀ loc1 loc2 H1 H2 md mn σ loc H nums
 I:HInv [] (2*H.nodes.length) H
 V:MInv H1 H2 H nums π
inductive GSt (a:Ads) (σ₀:Store) (loc1 loc2:Slot→Addr) (H1 H2:HS) (md mn:Addr) (H:HS) (nums:NM) (D:Nd→Nd→Prop) (r:Bool) (σ:Store):Prop
 | mk (l:Slot→Addr) (H':HS) (n':NM) (π':Nat→Pr) (S:MState a σ₀ loc1 loc2 H1 H2 md mn σ l H' n' π') (h1:H.nodes.length≤H'.nodes.length) (h2:r=true→H.nodes.length<H'.nodes.length) (h3:r=false→H'=H∧n'=nums∧∀ e1 e2,D e1 e2→Rdy nums e1 e2→mkN nums e1 e2∈H.nodes)
theorem zipV_vi:∀ l l':List Nat,zipV (vi l) (vi l')=prs (l.zip l')
 | [],_=>by cases ‹List Nat› <;> rfl
 | _::_,[]=>rfl
 | x::l,y::l'=>congrArg _ (zipV_vi l l')
noncomputable def entsOf (M:OM) (k:OK):List (Nat×Nd):=(ag M k).getD []
theorem dget_encO (M:OM) (k:OK):dget (encO M) (keyAt k)=(ag M k).map fun l=>V.lst (l.map ent):=dget_enc keyAt keyAt_inj (fun (l:List (Nat×Nd))=>V.lst (l.map ent)) k M
theorem NB.ents {H:HS} {M:OM} (N:NB H M) (k:OK) (c:Nat) (e:Nd):(c,e)∈entsOf M k↔e.key=k∧Kn H e c:=by
 rw [show (e.key=k∧Kn H e c)↔_ from (N.mem k c e).symm]
 unfold entsOf
 rcases ag M k with _|l
 ·exact ⟨fun h=>(nomatch h),fun x_=>by obtain ⟨_,h,_⟩:=x_;exact (nomatch h)⟩
 ·exact ⟨fun h=>⟨l,rfl,h⟩,fun x_=>by obtain ⟨l',h,h'⟩:=x_;(injection h with h;subst h);exact h'⟩
theorem Kn_kids {H:HS} {X:List Nat} {B:Nat} (I:HInv X B H) {e:Nd} {c:Nat} (h:Kn H e c):e.kids.length≤999999:=by
 obtain ⟨i,d,hi,_,rfl⟩:=h
 exact (cn_ok I hi).2▸Nat.le_trans (arity_le _) (by decide)
section
variable {cx:Cx} {a:Ads} {n:Nat} {sc csc:Scope} {Γ:Str→Option V} {σ σ₀:Store} {Q:V→Store→Prop} {loc loc1 loc2:Slot→Addr} {H H1 H2:HS} {md mn:Addr} {nums:NM} {π:Nat→Pr} {B:Nat}
theorem GSt.weak {D D':Nd→Nd→Prop} {r:Bool} (h:∀ e1 e2,D' e1 e2→D e1 e2) (g:GSt a σ₀ loc1 loc2 H1 H2 md mn H nums D r σ):GSt a σ₀ loc1 loc2 H1 H2 md mn H nums D' r σ:=by
 obtain ⟨l,H',n',π',h1,h2,h3,h4⟩:=g
 exact ⟨l,H',n',π',h1,h2,h3,fun z=>⟨(h4 z).1,(h4 z).2.1,fun e1 e2 hd=>(h4 z).2.2 e1 e2 (h _ _ hd)⟩⟩
theorem MState.sz (S:MState a σ₀ loc1 loc2 H1 H2 md mn σ loc H nums π) (s1:Side H1) (s2:Side H2):H.nodes.length≤36:=Nat.le_trans (S.V.size S.I.nd) (Nat.mul_le_mul s1.n s2.n)
theorem MInv.numz (M:MInv H1 H2 H nums π):nums.length≤H.nodes.length:=by
 have:nums.map (·.1) ⊆ (List.range H.nodes.length).map π:=fun p hp=>by
  rcases e:ag nums p with _|k
  ·exact absurd hp (ag_none.mp e)
  ·exact List.mem_map.mpr ⟨k,List.mem_range.mpr (M.num p k e).1,(M.num p k e).2⟩
 have:=M.nk.length_le_of_subset this
 rwa [List.length_map,List.length_map,List.length_range] at this
theorem M_try (P:Px cx a) (s1:Side H1) (s2:Side H2) {D:Nd→Nd→Prop} {r:Bool} (g:GSt a σ₀ loc1 loc2 H1 H2 md mn H nums D r σ) {e1 e2:Nd} {c d:Nat} (h1:Kn H1 e1 c) (h2:Kn H2 e2 d) (hk:e1.key=e2.key)
  (q:∀ b σ',GSt a σ₀ loc1 loc2 H1 H2 md mn H nums (fun x y=>D x y∨x=e1∧y=e2) (r || b) σ'→Q (.bool b) σ'):Cc cx (n+6) σ (.ref a.meet_put) [mV a md,T (pairAt (c,d)),.str e1.op,.tup (prs (e1.kids.zip e2.kids))] Q:=by
 obtain ⟨l,H',n',π',S,hle,ht,hf⟩:=g
 have hn:=S.sz s1 s2
 have har:arOk e1:=by
  obtain ⟨i,d,hi,_,rfl⟩:=h1
  exact cn_ok s1.I hi
 have hlen:e1.kids.length=e2.kids.length:=congrArg Prod.snd hk
 have hop:e1.op=e2.op:=congrArg Prod.fst hk
 refine M_put P S.M S.I (Nat.lt_of_le_of_lt hn (by decide)) (by omega) S.V.nk (Nat.le_trans S.V.numz (Nat.le_trans hn (by decide))) (fun p k hp=>(S.V.num p k hp).1) har.1 (by rw [List.length_zip,← hlen,Nat.min_self];exact har.2) (fun z=>q false σ ?_) (fun z1 z2=>q false σ ?_) fun z1 z2 σ' loc' H'' M' I' ev=>q true σ' ?_
 ·rw [Bool.or_false]
  refine ⟨l,H',n',π',S,hle,ht,fun hr=>⟨(hf hr).1,(hf hr).2.1,fun x y hd hrd=>?_⟩⟩
  rcases hd with hd|⟨rfl,rfl⟩
  ·exact (hf hr).2.2 x y hd hrd
  ·obtain ⟨p,hp,hpn⟩:=z
   rw [(hf hr).2.1] at hpn
   exact absurd hpn (hrd.all p hp)
 ·rw [Bool.or_false]
  refine ⟨l,H',n',π',S,hle,ht,fun hr=>⟨(hf hr).1,(hf hr).2.1,fun x y hd hrd=>?_⟩⟩
  rcases hd with hd|⟨rfl,rfl⟩
  ·exact (hf hr).2.2 x y hd hrd
  ·rw [(hf hr).2.1,(hf hr).1] at z2
   exact z2
 ·have hl':H''.nodes.length=H'.nodes.length+1:=by rw [ev.nodes,List.length_append];rfl
  rw [Bool.or_true]
  have rd:Rdy n' e1 e2:=⟨hop,hlen,z1⟩
  refine ⟨loc',H'',_,_,⟨M',?_,S.V.put (s1.I.knF s1.w) (s2.I.knF s2.w) S.I h1 h2 rd ev⟩,by rw [hl'];exact Nat.le_succ_of_le hle,fun o_=>by rw [hl'];exact Nat.lt_succ_of_le hle,fun z=>Bool.noConfusion z⟩
  rw [hl'];exact I'
structure GoΓ (a:Ads) (md:Addr) (M1 M2:OM) (r:Bool) (Γ:Str→Option V):Prop where
 f0:Γ ("self" : Str)=some (mV a md)
 f1:Γ ("mine" : Str)=some (.dT (encO M1))
 f2:Γ ("theirs" : Str)=some (.dT (encO M2))
 f3:Γ ("is_new" : Str)=some (.bool r)
noncomputable abbrev DD:=Nd→Nd→Prop
noncomputable def D0 (M1 M2:OM) (o:List V):DD:=fun x y=>∃ k c d,T (keyAt k)∈o∧(c,x)∈entsOf M1 k∧(d,y)∈entsOf M2 k
noncomputable def D1 (D:DD) (l1 l2:List (Nat×Nd)):DD:=fun x y=>D x y∨∃ c d,(c,x)∈l1∧(d,y)∈l2
noncomputable def D2 (D:DD) (e:Nd) (l:List (Nat×Nd)):DD:=fun x y=>D x y∨x=e∧∃ d,(d,y)∈l
noncomputable def D3 (D:DD) (e f:Nd):DD:=fun x y=>D x y∨x=e∧y=f
theorem D2_step {D:DD} {e f x y:Nd} {l:List (Nat×Nd)} {m d:Nat} (hx:l[m]? = some (d,f)) (h:D2 D e (l.take (m+1)) x y):D3 (D2 D e (l.take m)) e f x y:=by
 rcases h with h|⟨h1,d',h2⟩
 ·exact .inl (.inl h)
 ·rw [List.take_add_one,hx,List.mem_append] at h2
  exact h2.elim (fun h2=>.inl (.inr ⟨h1,d',h2⟩)) fun h2=>.inr ⟨h1,congrArg Prod.snd (List.mem_singleton.mp h2)⟩
theorem D1_step {D:DD} {e x y:Nd} {l1 l2:List (Nat×Nd)} {j c:Nat} (hx:l1[j]? = some (c,e)) (h:D1 D (l1.take (j+1)) l2 x y):D2 (D1 D (l1.take j) l2) e l2 x y:=by
 rcases h with h|⟨c',d',h1,h2⟩
 ·exact .inl (.inl h)
 ·rw [List.take_add_one,hx,List.mem_append] at h1
  exact h1.elim (fun h1=>.inl (.inr ⟨c',d',h1,h2⟩)) fun h1=>.inr ⟨congrArg Prod.snd (List.mem_singleton.mp h1),d',h2⟩
theorem Tk_inj {k k':OK} (h:T (keyAt k)=T (keyAt k')):k=k':=by
 injection h with h
 injection h with h1 h2
 injection h1 with h1
 injection h2 with h2 _
 injection h2 with h2
 exact Prod.ext h1 (Int.ofNat.inj h2)
theorem D0_step {M1 M2:OM} {o:List V} {i:Nat} {k:OK} {x y:Nd} (hx:o[i]? = some (T (keyAt k))) (h:D0 M1 M2 (o.take (i+1)) x y):D1 (D0 M1 M2 (o.take i)) (entsOf M1 k) (entsOf M2 k) x y:=by
 obtain ⟨k',c,d,h1,h2,h3⟩:=h
 rw [List.take_add_one,hx,List.mem_append] at h1
 refine h1.elim (fun h1=>.inl ⟨k',c,d,h1,h2,h3⟩) fun h1=>?_
 cases Tk_inj (List.mem_singleton.mp h1)
 exact .inr ⟨c,d,h2,h3⟩
theorem take_full {α β:Type} (l:List α) (f:α→β):l.take (l.map f).length=l:=by rw [List.length_map,List.take_length]
structure GoC where
 a:Ads
 md:Addr
 M1:OM
 M2:OM
 G:DD→Bool→Store→Prop
inductive L0 (K:GoC) (l:List V) (i:Nat) (Γ:Str→Option V) (σ:Store):Prop
 | mk (r:Bool) (g:GoΓ K.a K.md K.M1 K.M2 r Γ) (s:K.G (D0 K.M1 K.M2 (l.take i)) r σ)
inductive L1 (K:GoC) (D:DD) (k:OK) (j:Nat) (Γ:Str→Option V) (σ:Store):Prop
 | mk (r:Bool) (hd:Γ ("head" : Str)=some (T (keyAt k))) (g:GoΓ K.a K.md K.M1 K.M2 r Γ) (s:K.G (D1 D ((entsOf K.M1 k).take j) (entsOf K.M2 k)) r σ)
inductive L2 (K:GoC) (D:DD) (k:OK) (c:Nat) (e1:Nd) (m:Nat) (Γ:Str→Option V) (σ:Store):Prop
 | mk (r:Bool) (hd:Γ ("head" : Str)=some (T (keyAt k))) (f5:Γ ("c" : Str)=some (.int (c:Nat))) (f6:Γ ("node" : Str)=some (T e1.at)) (g:GoΓ K.a K.md K.M1 K.M2 r Γ) (s:K.G (D2 D e1 ((entsOf K.M2 k).take m)) r σ)
structure GoF (cx:Cx) (n:Nat) (H1 H2:HS) (K:GoC):Prop where
 P:Px cx K.a
 N1:NB H1 K.M1
 N2:NB H2 K.M2
 weak:∀ {D D' r σ},(∀ x y,D' x y→D x y)→K.G D r σ→K.G D' r σ
 can:∀ {D r σ},K.G D r σ→Can cx σ (mV K.a K.md) "put" K.a.meet_put
 kids:∀ {e c},Kn H1 e c→e.kids.length≤999999
 one:∀ {D r σ e1 e2 c d} {Q:V→Store→Prop},K.G D r σ→Kn H1 e1 c→Kn H2 e2 d→e1.key=e2.key→(∀ b σ',K.G (D3 D e1 e2) (r || b) σ'→Q (.bool b) σ') →
  Cc cx (n+6) σ (.ref K.a.meet_put) [mV K.a K.md,T (pairAt (c,d)),.str e1.op,.tup (prs (e1.kids.zip e2.kids))] Q
theorem ents_get (M:OM) (k:OK):(dget (encO M) (keyAt k)).getD (V.lst [])=V.lst ((entsOf M k).map ent):=by
 rw [dget_encO];unfold entsOf;cases ag M k <;> rfl
theorem encO_k (M1:OM):∀ p∈encO M1,nodeK p.1:=fun p hp=>by
 obtain ⟨⟨k,l⟩,_,rfl⟩:=List.mem_map.mp hp
 exact fun x hx=>by rw [List.mem_singleton.mp hx];exact ⟨_,rfl⟩
theorem encO_keys {M1:OM} {k:OK}:keyAt k∈(encO M1).map (·.1)↔k∈M1.map (·.1):=by
 rw [List.mem_map,List.mem_map]
 constructor
 ·rintro ⟨p,hp,e⟩
  obtain ⟨p',hp',rfl⟩:=List.mem_map.mp hp
  exact ⟨p',hp',keyAt_inj _ _ e⟩
 ·rintro ⟨p,hp,rfl⟩
  exact ⟨_,List.mem_map.mpr ⟨p,hp,rfl⟩,rfl⟩
theorem encO_key {M1:OM} {x:List At} (h:x∈(encO M1).map (·.1)):∃ k,k∈M1.map (·.1)∧x=keyAt k:=by
 obtain ⟨p,hp,rfl⟩:=List.mem_map.mp h
 obtain ⟨p',hp',rfl⟩:=List.mem_map.mp hp
 exact ⟨_,List.mem_map_of_mem hp',rfl⟩
theorem ents_at {M:OM} {k:OK} (h:k∈M.map (·.1)):dget (encO M) (keyAt k)=some (V.lst ((entsOf M k).map ent)):=by
 rw [dget_encO];unfold entsOf
 rcases e:ag M k with _|l
 ·exact absurd h (ag_none.mp e)
 ·rfl
theorem GoF.kids' {K:GoC} (F:GoF cx n H1 H2 K) {k:OK} {e1 e2:Nd} {c d:Nat} (h:e1.key=k∧Kn H1 e1 c) (h':e2.key=k∧Kn H2 e2 d):e2.kids.length≤999999:=Nat.le_trans (Nat.le_of_eq (congrArg Prod.snd (h'.1.trans h.1.symm))) (F.kids h.2)
theorem go_loops {K:GoC} (F:GoF cx n H1 H2 K) {sc:Scope} {Γ:Str→Option V} {Q:Fl→(Str→Option V)→Store→Prop} (g:GoΓ K.a K.md K.M1 K.M2 false Γ) (s:K.G (fun o_ o_=>False) false σ) (hc:sc=defScope (methAt 13 2))
  (q:∀ r Γ' σ',GoΓ K.a K.md K.M1 K.M2 r Γ'→K.G (fun x y=>∃ c d,Kn H1 x c∧Kn H2 y d∧x.key=y.key) r σ'→Exs cx (n+6) sc Γ' σ' ((defBody (methAt 13 2)).drop 2) Q):Exs cx (n+6) sc Γ σ ((defBody (methAt 13 2)).drop 1) Q:=by
 subst hc
 conv=>arg 6;whnf
 refine Exs_cons (Ex_for (L0 K) (EvI_seq (Ev_b F.P.g_sorted (.cons (EvIs_loc g.f1) .nil) (Cl_sortedK rfl (by unfold encO;rw [List.length_map];exact Nat.lt_of_le_of_lt F.N1.size (by decide)) (encO_k K.M1) fun out ho=>
  ⟨out.map T,rfl,.mk false g (F.weak (fun x y ⟨k,_,_,z,_⟩=>nomatch z) s),?_,?_⟩))))
 ·rintro i Γ₁ σ₃ v hv ⟨r,g,s⟩
  obtain ⟨x,hx,rfl⟩:=At_map hv
  obtain ⟨k,hk,rfl⟩:=encO_key (ho.mem_iff.mp (List.mem_of_getElem? hx))
  refine As_name (.inl (by rfl)) (Exs_cons (Ex_for (fun o_=>L1 K (D0 K.M1 K.M2 ((out.map T).take i)) k) (EvI_seq (Ev_sb (EvIs_loc g.f1) (EvIs_loc rfl) (P2_itemT rfl (ents_at hk) ⟨(entsOf K.M1 k).map ent,rfl,.mk r rfl ⟨g.f0,g.f1,g.f2,g.f3⟩ (F.weak (fun x y h=>h.resolve_right fun x_=>by obtain ⟨_,_,z,_⟩:=x_;exact nomatch z) s),?_,?_⟩)))))
  ·rintro j Γ₂ σ₄ v hv1 ⟨r,hd,g,s⟩
   obtain ⟨⟨c,e1⟩,hx1,rfl⟩:=At_map hv1
   have hm1:=(F.N1.ents k c e1).mp (List.mem_of_getElem? hx1)
   refine As_tuple (c:=ent (c,e1)) (l:=[.int (c:Nat),T e1.at]) rfl rfl rfl ⟨rfl,As_name (.inl (by rfl)) ⟨rfl,As_name (.inl (by rfl)) (Exs_cons (Ex_for (fun o_=>L2 K (D1 (D0 K.M1 K.M2 ((out.map T).take i)) ((entsOf K.M1 k).take j) (entsOf K.M2 k)) k c e1)
    (EvI_seq (Ev_bm (EvIs_loc g.f2) (Mt_getT (l:=encO K.M2) rfl) (.cons (EvIs_loc hd) (.cons (EvIs_lst .nil) .nil)) (Cl_getT rfl ?_)))))⟩⟩
   rw [ents_get]
   refine ⟨(entsOf K.M2 k).map ent,rfl,.mk r hd rfl rfl ⟨g.f0,g.f1,g.f2,g.f3⟩ (F.weak (fun x y h=>h.resolve_right fun x_=>by obtain ⟨_,_,z⟩:=x_;exact nomatch z) s),?_,?_⟩
   ·rintro m Γ₃ σ₅ v hv2 ⟨r,hd,f5,f6,g,s⟩
    obtain ⟨⟨d,e2⟩,hx2,rfl⟩:=At_map hv2
    have hm2:=(F.N2.ents k d e2).mp (List.mem_of_getElem? hx2)
    refine As_tuple (c:=ent (d,e2)) (l:=[.int (d:Nat),T e2.at]) rfl rfl rfl ⟨rfl,As_name (.inl (by rfl)) ⟨rfl,As_name (.inl (by rfl)) ?_⟩⟩
    refine Exs_wk fun Q' hq=>Exs_cons (Ex_if (Te_plain (Ev_meth (EvIs.ev (EvIs_loc g.f0) ⟨_,(F.can s).1,keeps_ref (F.can s).2,⟨rfl,EvIs.ev (v:=T (pairAt (c,d))) (EvIs_tup (.cons (EvIs_loc f5) (.cons (EvIs_loc rfl) .nil))) ⟨rfl,EvIs.ev (v:=.str e1.op) (Ev_sb (EvIs_loc f6) EvIs_int (P2_op (F.kids hm1.2) .rfl)) ⟨rfl,Ev_tuplezip (by rfl) F.P.g_zip (by rfl) F.P.g_tuple rfl rfl (EvIs.ev (Ev_kids (EvIs_loc f6) (F.kids hm1.2)) (EvIs.ev (Ev_kids (EvIs_loc rfl) (F.kids' hm1 hm2)) ⟨_,_,rfl,rfl,by rw [vi_len];exact Nat.le_succ_of_le (F.kids hm1.2),?_⟩))⟩⟩⟩⟩))))
    rw [zipV_vi]
    refine Cc.cl (F.one s hm1.2 hm2.2 (hm1.1.trans hm2.1.symm) fun b σ₆ s=>PT_bool ⟨fun hb=>?_,fun hb=>?_⟩)
    ·exact Exs_name (EvIs_bool.ev (Exs_nil (Exs_nil (hq (.mk _ hd f5 f6 ⟨g.f0,g.f1,g.f2,rfl⟩ (F.weak (fun o_ o_=>D2_step hx2) (Bool.or_true r▸hb▸s)))))))
    ·exact Exs_nil (Exs_nil (hq (.mk _ hd f5 f6 ⟨g.f0,g.f1,g.f2,g.f3⟩ (F.weak (fun o_ o_=>D2_step hx2) (Bool.or_false r▸hb▸s)))))
   ·rintro Γ₃ σ₅ ⟨r,hd,f5,f6,g,s⟩
    exact Exs_nil (.mk r hd g (F.weak (fun x y h=>by rw [take_full];exact D1_step hx1 h) s))
  ·rintro Γ₂ σ₄ ⟨r,hd,g,s⟩
   exact Exs_nil (.mk r g (F.weak (fun x y h=>by rw [take_full];exact D0_step hv h) s))
 ·rintro Γ₁ σ₃ ⟨r,g,s⟩
  refine q r _ _ g (F.weak (fun x y ⟨c,d,k1,k2,e⟩=>⟨x.key,c,d,?_,(F.N1.ents _ _ _).mpr ⟨rfl,k1⟩,(F.N2.ents _ _ _).mpr ⟨e.symm,k2⟩⟩) s)
  obtain ⟨l,hl,_⟩:=(F.N1.mem x.key c x).mpr ⟨rfl,k1⟩
  rw [List.take_length]
  exact List.mem_map_of_mem (ho.mem_iff.mpr (encO_keys.mpr (List.mem_map.mpr ⟨_,ag_mem hl,rfl⟩)))
theorem M_go_up (P:Px cx a) (s1:Side H1) (s2:Side H2) (S:MState a σ₀ loc1 loc2 H1 H2 md mn σ loc H nums π)
  (q:∀ r σ' loc' H' nums' π',MState a σ₀ loc1 loc2 H1 H2 md mn σ' loc' H' nums' π'→H.nodes.length≤H'.nodes.length→(r=true→H.nodes.length<H'.nodes.length)→(r=false→H'=H∧nums'=nums∧∀ e1 c e2 d,Kn H1 e1 c→Kn H2 e2 d→Rdy nums e1 e2→mkN nums e1 e2∈H.nodes)→Q (.bool r) σ'):Cc cx (n+7) σ (.ref a.meet_go_up) [mV a md] Q:=by
 refine P.meet_go_up.go rfl ?_
 conv=>arg 6;whnf
 have n1:H1.nodes.length≤16:=Nat.le_trans s1.n (by decide)
 have n2:H2.nodes.length≤16:=Nat.le_trans s2.n (by decide)
 refine Exs_cons (Ex_swap (hs:=by intro _;rfl) (names:=["mine", "theirs", "is_new"]) (allLoc (by decide +kernel)) (Ev_tuple ⟨rfl,Ev_m (EvIs_loc rfl) (can_mt (hn:=by rfl) S.M P.meet_nodes_by_op_m) (.cons (EvIs_at (EvIs_loc rfl) (fl_one S.M) P.meet_a_one) .nil) (M_nodes_by_op P S.M.g1 s1.I n1 (Nat.le_refl _) fun M1 σ₁ N1 k1=>⟨rfl,?_⟩)⟩) (hw:=by intro env e;cases env;dsimp only at e;cases e;rfl))
 have M1':=S.M.keep k1
 refine Ev_m (EvIs_loc rfl) (can_mt (hn:=by rfl) M1' P.meet_nodes_by_op_m) (.cons (EvIs_at (EvIs_loc rfl) (fl_other M1') P.meet_a_other) .nil) (M_nodes_by_op P M1'.g2 s2.I n2 (Nat.le_refl _) fun M2 σ₂ N2 k2=>⟨rfl,EvIs_bool.ev ⟨Nat.le_of_ble_eq_true rfl,_,_,rfl,rfl,rfl,?_⟩⟩)
 refine go_loops (n:=n) (K:=⟨a,md,M1,M2,GSt a σ₀ loc1 loc2 H1 H2 md mn H nums⟩) ⟨P,N1,N2,GSt.weak,fun g=>by cases g with | mk _ _ _ _ S=>exact can_mt (hn:=by rfl) S.M P.meet_put_m,fun k=>Kn_kids s1.I k,fun g k1 k2 e q=>M_try P s1 s2 g k1 k2 e q⟩ ?_
  ⟨loc,H,nums,π,⟨M1'.keep k2,S.I,S.V⟩,Nat.le_refl _,fun z=>Bool.noConfusion z,fun o_=>⟨rfl,rfl,fun o_ o_ z=>z.elim⟩⟩ rfl fun r Γ' σ' g G=>?_
 ·exact ⟨rfl,rfl,rfl,rfl⟩
 cases G with | mk l' H' n' π' S' h1 h2 h3=>?_
 exact Exs_ret ((EvIs_loc g.f3).ev (q r σ' l' H' n' π' S' h1 h2 fun hr=>⟨(h3 hr).1,(h3 hr).2.1,fun e1 c e2 d k1 k2 rd=>(h3 hr).2.2 e1 e2 ⟨c,d,k1,k2,Prod.ext rd.op rd.len⟩ rd⟩))
end
structure MDone (a:Ads) (σ₀:Store) (loc1 loc2:Slot→Addr) (H1 H2:HS) (md mn:Addr) (σ:Store) (loc:Slot→Addr) (H:HS) (nums:NM) (π:Nat→Pr):Prop extends MState a σ₀ loc1 loc2 H1 H2 md mn σ loc H nums π where
 w:H.wait=[]
 all:∀ e1 c e2 d,Kn H1 e1 c→Kn H2 e2 d→Rdy nums e1 e2→mkN nums e1 e2∈H.nodes
section
variable {cx:Cx} {a:Ads} {n:Nat} {sc csc:Scope} {Γ:Str→Option V} {σ σ₀:Store} {Q:V→Store→Prop} {loc loc1 loc2:Slot→Addr} {H H1 H2:HS} {md mn:Addr} {nums:NM} {π:Nat→Pr} {B:Nat}
theorem M_loop (P:Px cx a) (s1:Side H1) (s2:Side H2) (S:MState a σ₀ loc1 loc2 H1 H2 md mn σ loc H nums π) {QQ:Fl→(Str→Option V)→Store→Prop} (g:Γ ("self" : Str)=some (mV a md)) (q:∀ Γ σ' loc' H' nums' π',MDone a σ₀ loc1 loc2 H1 H2 md mn σ' loc' H' nums' π'→QQ .next Γ σ') :
  Exs cx (n+8) (defScope (methAt 13 0)) Γ σ ((defBody (methAt 13 0)).drop 4) QQ:=by
 conv=>arg 6;whnf
 refine Exs_cons (Ex_while (fun m Γ₁ σ₁=>Γ₁ ("self" : Str)=some (mV a md)∧∃ loc H nums π,MState a σ₀ loc1 loc2 H1 H2 md mn σ₁ loc H nums π∧36 - H.nodes.length=m) (36 - H.nodes.length) ⟨g,loc,H,nums,π,S,rfl⟩ ?_)
 clear S g
 rintro m Γ₁ σ₁ ⟨g,loc,H,nums,π,S,rfl⟩
 refine Te_plain (Ev_m (EvIs_loc g) (can_mt (hn:=by rfl) S.M P.meet_go_up_m) .nil (M_go_up P s1 s2 S fun r σ₂ loc₂ H₂ nums₂ π₂ S₂ hle ht hf=>PT_bool ⟨fun hr=>?_,fun hr=>?_⟩))
 ·have hn:=S₂.sz s1 s2
  refine Exs_expr (Ev_m (EvIs_at (EvIs_loc g) (fl_heap S₂.M) P.meet_a_heap) (can_h S₂.M.h P.heap_settle_m) .nil (H_settle P S₂.M.h S₂.I (Nat.le_trans hn (by decide)) (by omega) fun σ₃ loc₃ H₃ m3 I3 ev3 hw=>⟨rfl,Exs_nil ⟨36 - H₃.nodes.length,?_,g,loc₃,H₃,nums₂,π₂,⟨S₂.M.mv m3,by rw [ev3.nodes];exact I3,S₂.V.evo (s1.I.knF s1.w) (s2.I.knF s2.w) ev3⟩,rfl⟩⟩))
  have:=ht hr
  rw [ev3.nodes];omega
 ·have hn:=S₂.sz s1 s2
  refine Exs_expr (Ev_m (EvIs_at (EvIs_loc g) (fl_heap S₂.M) P.meet_a_heap) (can_h S₂.M.h P.heap_settle_m) .nil (H_settle P S₂.M.h S₂.I (Nat.le_trans hn (by decide)) (by omega) fun σ₃ loc₃ H₃ m3 I3 ev3 hw=>⟨rfl,Exs_nil (q _ _ loc₃ H₃ nums₂ π₂ ⟨⟨S₂.M.mv m3,by rw [ev3.nodes];exact I3,S₂.V.evo (s1.I.knF s1.w) (s2.I.knF s2.w) ev3⟩,hw,fun e1 c e2 d k1 k2 rd=>?_⟩)⟩))
  obtain ⟨rfl,rfl,h3⟩:=hf hr
  rw [ev3.nodes]
  exact h3 e1 c e2 d k1 k2 rd
theorem new_meet (P:Px cx a) (s1:Side H1) (s2:Side H2) (h1:HeapAt a.c σ loc1 H1) (h2:HeapAt a.c σ loc2 H2) (q:∀ md mn σ' loc H nums π,MDone a σ loc1 loc2 H1 H2 md mn σ' loc H nums π→Q (mV a md) σ'):Cc cx (n+10) σ (.ref a.c.meet) [hV a loc1,hV a loc2] Q:=by
 refine Cc_cls P.meet_init_m.cls P.meet_init_m.find P.meet_init_m.fn fun d hd=>?_
 have f0:(σ.set d (.fld [])) d=some (.fld []):=Store.set_self _ _
 have r0:∀ x,x≠d→(σ.set d (.fld [])) x=σ x:=fun x hx=>Store.set_ne _ hx
 generalize σ.set d (.fld [])=σ₁ at f0 r0 ⊢
 refine P.meet_init.go rfl ?_
 conv=>arg 6;whnf
 generalize hΓ:argsOf ["self", "one", "other"] [V.inst a.c.meet (.ref d),hV a loc1,hV a loc2]=Γ
 have g0:Γ ("self" : Str)=some (mV a d):=by subst hΓ;rfl
 have g1:Γ ("one" : Str)=some (hV a loc1):=by subst hΓ;rfl
 have g2:Γ ("other" : Str)=some (hV a loc2):=by subst hΓ;rfl
 clear hΓ
 have ck:=P.meet_init_m.cls
 refine Exs_cons (Ex_attr ((EvIs_loc g1).ev ((EvIs_loc g0).ev ⟨_,d,_,rfl,f0,by decide,ck,P.meet_a_one.take,?_⟩)))
 have f1:(σ₁.set d (.fld (fput [] "one" (hV a loc1)))) d=some (.fld [("one",hV a loc1)]):=Store.set_self _ _
 have r1:∀ x,x≠d→(σ₁.set d (.fld (fput [] "one" (hV a loc1)))) x=σ x:=fun x hx=>(Store.set_ne _ hx).trans (r0 x hx)
 skip
 generalize σ₁.set d (.fld (fput [] "one" (hV a loc1)))=σ₂ at f1 r1 ⊢
 clear f0 r0 σ₁
 refine Exs_cons (Ex_attr ((EvIs_loc g2).ev ((EvIs_loc g0).ev ⟨_,d,_,rfl,f1,Nat.le_of_ble_eq_true rfl,ck,P.meet_a_other.take,?_⟩)))
 have f2:(σ₂.set d (.fld (fput [("one",hV a loc1)] "other" (hV a loc2)))) d=some (.fld [("one",hV a loc1),("other",hV a loc2)]):=Store.set_self _ _
 have r2:∀ x,x≠d→(σ₂.set d (.fld (fput [("one",hV a loc1)] "other" (hV a loc2)))) x=σ x:=fun x hx=>(Store.set_ne _ hx).trans (r1 x hx)
 skip
 generalize σ₂.set d (.fld (fput [("one",hV a loc1)] "other" (hV a loc2)))=σ₃ at f2 r2 ⊢
 clear f1 r1 σ₂
 refine Exs_cons (Ex_attr (Ev_c P.heap_g P.heap_keep .nil (new_heap P fun σ₄ loc h hnew hkeep=>(EvIs_loc g0).ev ⟨_,d,_,rfl,(hkeep d (by rw [f2];exact fun z=>by contradiction)).trans f2,Nat.le_of_ble_eq_true rfl,ck,P.meet_a_heap.take,?_⟩)))
 have hd4:¬ At_ a.c loc HS.empty d:=fun z=>by have:=hnew d z;rw [f2] at this;contradiction
 have n4:∀ x,At_ a.c loc HS.empty x→σ x=none:=fun x hx=>(r2 x fun z=>hd4 (z▸hx)).symm.trans (hnew x hx)
 have r4:∀ x,x≠d→σ x≠none→(σ₄.set d (.fld (fput [("one",hV a loc1),("other",hV a loc2)] "heap" (hV a loc)))) x=σ x:=fun x hx h=>(Store.set_ne _ hx).trans ((hkeep x (by rw [r2 x hx];exact h)).trans (r2 x hx))
 have f4:(σ₄.set d (.fld (fput [("one",hV a loc1),("other",hV a loc2)] "heap" (hV a loc)))) d=some (.fld [("one",hV a loc1),("other",hV a loc2),("heap",hV a loc)]):=Store.set_self _ _
 have h4:HeapAt a.c (σ₄.set d (.fld (fput [("one",hV a loc1),("other",hV a loc2)] "heap" (hV a loc)))) loc HS.empty:=RegAt.keep h fun x hx=>Store.set_ne _ fun (z:x=d)=>hd4 (z▸hx)
 skip
 generalize σ₄.set d (.fld (fput [("one",hV a loc1),("other",hV a loc2)] "heap" (hV a loc)))=σ₅ at f4 r4 h4 ⊢
 clear h hkeep f2 r2 hnew σ₃ σ₄
 refine Exs_cons (Ex_attr (Ev_dict0T fun mn hmn=>(EvIs_loc g0).ev ⟨_,d,_,rfl,(Store.set_ne _ (fun z=>by rw [z,hmn] at f4;contradiction)).trans f4,Nat.le_of_ble_eq_true rfl,ck,P.meet_a_numbers.take,?_⟩))
 have hne:d≠mn:=fun z=>by rw [z,hmn] at f4;contradiction
 have hm0:¬ At_ a.c loc HS.empty mn:=fun z=>At_.some h4 z hmn
 have S:MState a σ loc1 loc2 H1 H2 d mn ((σ₅.set mn (.dT [])).set d (.fld (fput [("one",hV a loc1),("other",hV a loc2),("heap",hV a loc)] "numbers" (.ref mn)))) loc HS.empty [] (fun o_=>(0,0)):=by
  refine ⟨⟨h1,h2,RegAt.keep h4 fun x hx=>(Store.set_ne _ fun (z:x=d)=>hd4 (z▸hx)).trans (Store.set_ne _ fun (z:x=mn)=>hm0 (z▸hx)),fun x hx=>?_,n4,⟨Store.set_self _ _,hd,hd4⟩,⟨(Store.set_ne _ (Ne.symm hne)).trans (Store.set_self _ _),?_,hm0⟩⟩,empty_inv,⟨.nil,fun i d h=>(by contradiction),fun p k h=>(by contradiction),fun i h=>(by contradiction),fun i=>rfl⟩⟩
  ·have hxd:x≠d:=fun z=>hx (z▸hd)
   exact (Store.set_ne _ hxd).trans ((Store.set_ne _ fun z=>hx (by
    have:=r4 x hxd hx
    rw [z,hmn] at this
    rw [z];exact this.symm)).trans (r4 x hxd hx))
  ·exact Classical.byContradiction fun z=>by
    have:=r4 mn (Ne.symm hne) z
    rw [hmn] at this
    exact z this.symm
 exact M_loop P s1 s2 S g0 fun Γ' σ' loc' H' nums' π' D=>⟨rfl,q d mn σ' loc' H' nums' π' D⟩
end
noncomputable def feedL (ns:List Int) (t:Nat) (b:Int):List (Str×V):=[("cells",.lst (ns.map .int)),("turn",.int (t:Nat)),("blend",.int b)]
theorem fmod_nat (x:Int) {w:Nat} (hw:0<w):∃ r:Nat,x.fmod (w:Int)=(r:Nat)∧r<w:=by
 have h1:0<(w:Int):=Int.ofNat_lt.mpr hw
 refine ⟨(x.fmod w).toNat,(Int.toNat_of_nonneg (Int.fmod_nonneg_of_pos _ h1)).symm,?_⟩
 have:=Int.fmod_lt_of_pos x h1
 have:=Int.fmod_nonneg_of_pos x h1
 omega
section
variable {cx:Cx} {a:Ads} {n:Nat} {sc csc:Scope} {Γ:Str→Option V} {σ:Store} {Q:V→Store→Prop}
theorem draw (P:Px cx a) {fd:Addr} {ns:List Int} {t:Nat} {b:Int} (hf:σ fd=some (.dS (feedL ns t b))) (ht:t<99) (hz:ns.length≤999) {w:Nat} (hw:0<w) (q:∀ r:Nat,r<w→Q (.int r) (σ.set fd (.dS (feedL ns (t+1) b)))):Cc cx (n+1) σ (.ref a.f_draw) [.ref fd,.int w] Q:=by
 refine P.f_draw.go rfl ?_
 conv=>arg 6;whnf
 have hw0:(w:Int)≠0:=fun z=>by have:=Int.ofNat_inj.mp (show ((w:Nat):Int)=((0:Nat):Int) from z);omega
 refine Exs_cons (Ex_sub (EvIs.ev (Ev_bn (Ev_sb (EvIs_loc rfl) EvIs_str (P2_itemS (hs:=by intro _ _;with_unfolding_all rfl) (hg:=by exact trivial) (u:=.int (t:Nat)) hf rfl .rfl)) EvIs_int (P2_add .rfl)) ((EvIs_loc rfl).ev (EvIs_str.ev ⟨_,PS_S hf (Nat.le_of_ble_eq_true rfl),?_⟩))))
 have hf':(σ.set fd (.dS (feedL ns (t+1) b))) fd=some (.dS (feedL ns (t+1) b)):=Store.set_self _ _
 show Exs cx _ _ _ (σ.set fd (.dS (feedL ns (t+1) b))) _ _
 generalize σ.set fd (.dS (feedL ns (t+1) b))=σ' at hf' q ⊢
 refine Exs_name (Ev_sb (EvIs_loc rfl) EvIs_str (P2_itemS (hs:=by intro _ _;with_unfolding_all rfl) (hg:=by exact trivial) (u:=.int ((t+1:Nat):Int)) hf' rfl ?_))
 have cells:∀ {sc Γ p1 p2 p3 k},Γ ("feed" : Str)=some (.ref fd)→LocK sc ("feed" : Str)→EvIs cx n sc Γ σ' (.Subscript (.Name "feed" p1) (.Constant (.str "cells") k p2) p3) (.lst (ns.map .int)):=fun g hk=>Ev_sb (EvIs_loc g hk) EvIs_str (P2_itemS (hs:=by intro _ _;with_unfolding_all rfl) (hg:=by exact trivial) (u:=.lst (ns.map .int)) hf' rfl .rfl)
 have zz:(ns.map V.int).length≤1000000:=by rw [List.length_map];exact Nat.le_trans hz (by decide)
 refine Exs_if (Te_cm (EvIs_loc rfl) (Ev_b P.g_len (.cons (cells rfl (.inl (by rfl))) .nil) (Cl_len (c:=.lst (ns.map .int)) rfl rfl zz .rfl)) (P2_le (.of ⟨rfl,rfl⟩))) (fun e=>?_) fun o_=>Exs_nil ?_
 ·have hlt:t<ns.length:=by
   have:=of_decide_eq_true e
   rw [List.length_map] at this
   have:=Int.ofNat_le.mp this
   assumption
  have hu:(ns.map V.int)[((t+1:Nat) - 1:Int).toNat]? = some (.int ns[t]):=by
   rw [show (((t+1:Nat):Int) - 1).toNat=t by omega,List.getElem?_map,List.getElem?_eq_getElem hlt];rfl
  refine Exs_ret (Ev_bn (Ev_sb (cells rfl (.inl (by rfl))) (Ev_bn (EvIs_loc rfl) EvIs_int (P2_sub .rfl)) (P2_item (k:=(t+1:Nat) - 1) rfl rfl (by omega) zz hu .rfl)) (EvIs_loc rfl) (P2_mod hw0 ?_))
  obtain ⟨r,h1,h2⟩:=fmod_nat ns[t] hw
  rw [h1];exact q r h2
 ·have hb:∀ t<99,Builtin.Int.intBits ((t+1:Nat):Int)≤64:=by decide +kernel
  refine Exs_ret (Ev_bn (Ev_bn (Ev_bn (Ev_bn (Ev_bn (Ev_bn (Ev_bn EvIs_int (EvIs_loc rfl) (P2_mul (IntMulOk.of_left (by decide)) .rfl)) (EvIs_loc rfl) (P2_mul (IntMulOk.of_right (hb t ht)) .rfl)) (Ev_bn EvIs_int (EvIs_loc rfl) (P2_mul (IntMulOk.of_left (by decide)) .rfl)) (P2_add .rfl)) (Ev_bn (EvIs_loc rfl) EvIs_int (P2_fdiv (by decide) rfl .rfl)) (P2_add .rfl)) (Ev_sb (EvIs_loc rfl) EvIs_str (P2_itemS (hs:=by intro _ _;with_unfolding_all rfl) (hg:=by exact trivial) (u:=.int b) hf' rfl .rfl)) (P2_add .rfl)) EvIs_int (P2_mod (by decide) .rfl)) (EvIs_loc rfl) (P2_mod hw0 ?_))
  obtain ⟨r,h1,h2⟩:=fmod_nat (((5*((t+1:Nat):Int)*((t+1:Nat):Int)+11*((t+1:Nat):Int)+((t+1:Nat):Int).fdiv 4+b)).fmod 89) hw
  rw [h1];exact q r h2
end
structure RowsOk (rows:List Nd):Prop where
 nd:rows.Nodup
 ar:∀ d∈rows,arOk d
 kids:∀ (i:Nat) d,rows[i]? = some d→∀ k∈d.kids,k<i
theorem RowsOk.snoc {rows:List Nd} (R:RowsOk rows) {d:Nd} (hd:d∉rows) (har:arOk d) (hk:∀ k∈d.kids,k<rows.length):RowsOk (rows++[d]):=by
 refine ⟨List.nodup_append.mpr ⟨R.nd,by simp,fun a ha b hb z=>?_⟩,fun e he=>?_,fun i e he=>?_⟩
 ·rw [List.mem_singleton.mp hb] at z;exact hd (z▸ha)
 ·rcases List.mem_append.mp he with z|z
  ·exact R.ar e z
  ·rw [List.mem_singleton.mp z];exact har
 ·rcases Nat.lt_or_ge i rows.length with q|q
  ·rw [List.getElem?_append_left q] at he;exact R.kids i e he
  ·rw [List.getElem?_append_right q] at he
   obtain ⟨h1,h2⟩:=List.getElem?_eq_some_iff.mp he
   rw [List.getElem_singleton] at h2
   rw [← h2]
   exact fun k hk'=>Nat.lt_of_lt_of_le (hk k hk') q
theorem vi_dat:∀ l:List Nat,V.areDat (vi l)=true
 | []=>rfl
 | k::l=>by show (true && V.areDat (vi l))=true;rw [vi_dat l];rfl
theorem nd_dat {d:Nd} (h:opOk d.op):(T d.at).isDat=true:=by
 rw [T_nd]
 show (PyData.strOk d.op && V.areDat (vi d.kids))=true
 rw [vi_dat]
 obtain ⟨c,hc,e⟩:=h
 rw [e]
 clear e
 revert c;decide +kernel
theorem nds_dat:∀ {l:List Nd},(∀ d∈l,arOk d)→V.areDat (l.map fun d=>T d.at)=true
 | [],_=>rfl
 | d::l,h=>by
  show ((T d.at).isDat && V.areDat (l.map fun d=>T d.at))=true
  rw [nd_dat (h d (.head _)).1,nds_dat fun e he=>h e (.tail _ he)];rfl
theorem nd_depth (d:Nd):(T d.at).dat.depth≤1:=by
 rw [T_nd]
 refine depth_tup (k:=0) fun v hv=>?_
 rcases List.mem_cons.mp hv with e|hv
 ·rw [e];exact Nat.le_refl _
 ·obtain ⟨k,_,rfl⟩:=mem_vi hv;exact Nat.le_refl _
theorem nds_mem {d:Nd} {l:List Nd}:T d.at∈(l.map fun d=>T d.at)↔d∈l:=by
 rw [List.mem_map]
 constructor
 ·rintro ⟨e,he,z⟩;exact T_inj z▸he
 ·intro h;exact ⟨d,h,rfl⟩
structure SA (a:Ads) (σ₀:Store) (fd:Addr) (ns:List Int) (b:Int) (t:Nat) (σ:Store) (loc:Slot→Addr) (H:HS) (ext:List (Addr×V)):Prop where
 h:HeapAt a.c σ loc H
 new:∀ x,At_ a.c loc H x→σ₀ x=none
 fd0:σ₀ fd≠none
 fd_:σ fd=some (.dS (feedL ns t b))
 exts:∀ p∈ext,σ p.1=some p.2∧σ₀ p.1=none∧¬ At_ a.c loc H p.1
 nodup:(ext.map (·.1)).Nodup
 rest:∀ x,σ₀ x≠none→x≠fd→σ x=σ₀ x
section
variable {a:Ads} {σ₀ σ:Store} {fd:Addr} {ns:List Int} {b:Int} {t:Nat} {loc:Slot→Addr} {H:HS} {ext:List (Addr×V)}
theorem SA.draw (S:SA a σ₀ fd ns b t σ loc H ext):SA a σ₀ fd ns b (t+1) (σ.set fd (.dS (feedL ns (t+1) b))) loc H ext:=
 ⟨RegAt.keep S.h fun x hx=>Store.set_ne _ fun (z:x=fd)=>S.fd0 (z▸S.new x hx),S.new,S.fd0,Store.set_self _ _,fun p hp=>⟨(Store.set_ne _ fun (z:p.1=fd)=>S.fd0 (z▸(S.exts p hp).2.1)).trans (S.exts p hp).1,(S.exts p hp).2⟩,S.nodup,fun x h1 h2=>(Store.set_ne _ h2).trans (S.rest x h1 h2)⟩
theorem SA.mv (S:SA a σ₀ fd ns b t σ loc H ext) {σ':Store} {loc':Slot→Addr} {H':HS} (m:Mv a.c σ loc H σ' loc' H'):SA a σ₀ fd ns b t σ' loc' H' ext:=by
 have nfd:¬ At_ a.c loc H fd:=fun z=>S.fd0 (S.new fd z)
 have back:∀ x,At_ a.c loc' H' x→σ₀ x=none:=fun x hx=>by
  rcases m.new x hx with z|z
  ·exact S.new x z
  ·refine Classical.byContradiction fun w=>?_
   by_cases q:x=fd
   ·rw [q,S.fd_] at z;contradiction
   ·rw [S.rest x w q] at z;exact w z
 refine ⟨m.at_,back,S.fd0,(m.win fd nfd (by rw [S.fd_];exact fun z=>by contradiction)).trans S.fd_,fun p hp=>?_,S.nodup,fun x h1 h2=>?_⟩
 ·obtain ⟨h1,h2,h3⟩:=S.exts p hp
  refine ⟨(m.win p.1 h3 (by rw [h1];exact fun z=>by contradiction)).trans h1,h2,fun z=>?_⟩
  rcases m.new p.1 z with w|w
  ·exact h3 w
  ·rw [h1] at w;contradiction
 ·rw [m.win x (fun z=>h1 (S.new x z)) (by rw [S.rest x h1 h2];exact h1)];exact S.rest x h1 h2
theorem SA.push (S:SA a σ₀ fd ns b t σ loc H ext) {x:Addr} (hx:σ x=none) (v:V):SA a σ₀ fd ns b t (σ.set x v) loc H ((x,v)::ext):=by
 have hfx:fd≠x:=fun z=>by rw [← z,S.fd_] at hx;contradiction
 have hax:¬ At_ a.c loc H x:=fun z=>At_.some S.h z hx
 have h0:σ₀ x=none:=Classical.byContradiction fun w=>by
  rw [S.rest x w (Ne.symm hfx)] at hx;exact w hx
 refine ⟨RegAt.keep S.h fun y hy=>Store.set_ne _ fun (z:y=x)=>hax (z▸hy),S.new,S.fd0,(Store.set_ne _ hfx).trans S.fd_,fun p hp=>?_,List.nodup_cons.mpr ⟨fun z=>?_,S.nodup⟩,fun y h1 h2=>(Store.set_ne _ fun z=>h1 (by rw [z];exact h0)).trans (S.rest y h1 h2)⟩
 ·rcases List.mem_cons.mp hp with e|hp
  ·rw [e];exact ⟨Store.set_self _ _,h0,hax⟩
  ·exact ⟨(Store.set_ne _ fun z=>by rw [← z,(S.exts p hp).1] at hx;contradiction).trans (S.exts p hp).1,(S.exts p hp).2⟩
 ·obtain ⟨p,hp,e⟩:=List.mem_map.mp z
  have e:p.1=x:=e
  rw [← e,(S.exts p hp).1] at hx;contradiction
theorem SA.set0 {x:Addr} {v:V} (S:SA a σ₀ fd ns b t σ loc H ((x,v)::ext)) (v':V):SA a σ₀ fd ns b t (σ.set x v') loc H ((x,v')::ext):=by
 obtain ⟨h1,h2,h3⟩:=S.exts _ (.head _)
 have nd:=List.nodup_cons.mp S.nodup
 refine ⟨RegAt.keep S.h fun y hy=>Store.set_ne _ fun (z:y=x)=>h3 (z▸hy),S.new,S.fd0,(Store.set_ne _ fun (z:fd=x)=>S.fd0 (by rw [z];exact h2)).trans S.fd_,fun p hp=>?_,S.nodup,fun y h1 h2'=>(Store.set_ne _ fun z=>h1 (by rw [z];exact h2)).trans (S.rest y h1 h2')⟩
 rcases List.mem_cons.mp hp with e|hp
 ·rw [e];exact ⟨Store.set_self _ _,h2,h3⟩
 ·exact ⟨(Store.set_ne _ fun z=>nd.1 (List.mem_map.mpr ⟨p,hp,z⟩)).trans (S.exts p (.tail _ hp)).1,(S.exts p (.tail _ hp)).2⟩
theorem SA.del0 {x:Addr} {v:V} (S:SA a σ₀ fd ns b t σ loc H ((x,v)::ext)):SA a σ₀ fd ns b t (σ.del x) loc H ext:=by
 obtain ⟨h1,h2,h3⟩:=S.exts _ (.head _)
 have nd:=List.nodup_cons.mp S.nodup
 have ne:∀ {y},y≠x→(σ.del x) y=σ y:=fun h=>if_neg h
 exact ⟨RegAt.keep S.h fun y hy=>ne fun (z:y=x)=>h3 (z▸hy),S.new,S.fd0,(ne fun (z:fd=x)=>S.fd0 (by rw [z];exact h2)).trans S.fd_,fun p hp=>⟨(ne fun z=>nd.1 (List.mem_map.mpr ⟨p,hp,z⟩)).trans (S.exts p (.tail _ hp)).1,(S.exts p (.tail _ hp)).2⟩,nd.2,fun y h1 h2'=>(ne fun z=>h1 (by rw [z];exact h2)).trans (S.rest y h1 h2')⟩
theorem SA.swap {p q:Addr×V} (S:SA a σ₀ fd ns b t σ loc H [p,q]):SA a σ₀ fd ns b t σ loc H [q,p]:=
 ⟨S.h,S.new,S.fd0,S.fd_,fun r hr=>S.exts r (by rcases List.mem_cons.mp hr with e | hr;exact e▸.tail _ (.head _);exact List.mem_singleton.mp hr▸.head _),(List.Perm.nodup_iff (List.Perm.swap _ _ _)).mp S.nodup,S.rest⟩
theorem SA.e0 {x:Addr} {v:V} (S:SA a σ₀ fd ns b t σ loc H ((x,v)::ext)):σ x=some v:=(S.exts _ (.head _)).1
theorem SA.e1 {y x:Addr} {w v:V} (S:SA a σ₀ fd ns b t σ loc H ((y,w)::(x,v)::ext)):σ x=some v:=(S.exts _ (.tail _ (.head _))).1
end
structure SideOut (rows:List Nd) (ps:List Pr) (H:HS):Prop where
 side:Side H
 nodes:H.nodes=rows
 ok:RowsOk rows
 pls:∀ p∈ps,p.1<rows.length∧p.2<rows.length
 pn:ps.length≤2
 told:∀ p∈ps,rt H.par p.1=rt H.par p.2
 snd:∀ E,Equivalence E→Cong E rows→(∀ p∈ps,E p.1 p.2)→∀ i,E i (rt H.par i)
structure SdΓ (a:Ads) (fd:Addr) (loc:Slot→Addr) (R Pv:V) (Γ:Str→Option V):Prop where
 g0:Γ ("feed" : Str)=some (.ref fd)
 g1:Γ ("heap" : Str)=some (hV a loc)
 g2:Γ ("rows" : Str)=some R
 g3:Γ ("pairs" : Str)=some Pv
inductive Sd1 (a:Ads) (σ₀:Store) (fd:Addr) (ns:List Int) (b:Int) (t:Nat) (loc:Slot→Addr) (rw pr:Addr) (l:List V) (i:Nat) (Γ:Str→Option V) (σ:Store):Prop
 | mk (g:SdΓ a fd loc (.ref rw) (.ref pr) Γ) (hl:l.length≤3) (rows:List Nd) (t':Nat) (S:SA a σ₀ fd ns b t' σ loc HS.empty [(rw,nds rows),(pr,.lst [])]) (R:RowsOk rows) (h2:2≤rows.length) (h3:rows.length≤3+i) (ht:t'≤t+2+3*i)
inductive Sd2 (a:Ads) (σ₀:Store) (fd:Addr) (ns:List Int) (b:Int) (t':Nat) (loc:Slot→Addr) (pr:Addr) (rows:List Nd) (l:List V) (i:Nat) (Γ:Str→Option V) (σ:Store):Prop
 | mk (g:SdΓ a fd loc (nds rows) (.ref pr) Γ) (hl:l=rows.map (fun d=>T d.at)) (loc':Slot→Addr) (H:HS) (S:SA a σ₀ fd ns b t' σ loc' H [(pr,.lst [])]) (e:hV a loc'=hV a loc) (hn:H.nodes=rows.take i) (I:HInv [] i H) (snd:∀ E,Equivalence E→Cong E rows→∀ j,E j (rt H.par j))
inductive Sd3 (a:Ads) (σ₀:Store) (fd:Addr) (ns:List Int) (b:Int) (t:Nat) (loc:Slot→Addr) (pr:Addr) (rows:List Nd) (l:List V) (i:Nat) (Γ:Str→Option V) (σ:Store):Prop
 | mk (g:SdΓ a fd loc (nds rows) (.ref pr) Γ) (hl:∃ k,k≤2∧l=upto k) (loc':Slot→Addr) (H:HS) (ps:List Pr) (t':Nat) (S:SA a σ₀ fd ns b t' σ loc' H [(pr,.lst (prs ps))]) (e:hV a loc'=hV a loc) (hn:H.nodes=rows) (I:HInv [] (rows.length+i) H) (hp:ps.length=i) (ht:t'≤t+2*i) (hps:∀ p∈ps,p.1<rows.length∧p.2<rows.length) (told:∀ p∈ps,rt H.par p.1=rt H.par p.2) (snd:∀ E,Equivalence E→Cong E rows→(∀ p∈ps,E p.1 p.2)→∀ j,E j (rt H.par j))
theorem Cong.pre {E:Nat→Nat→Prop} {l l':List Nd} (h:Cong E (l++l')):Cong E l:=fun i j d d' hi hj=>h i j d d' ((List.getElem?_append_left (List.getElem?_eq_some_iff.mp hi).1).trans hi) ((List.getElem?_append_left (List.getElem?_eq_some_iff.mp hj).1).trans hj)
section
variable {cx:Cx} {a:Ads} {n:Nat} {sc csc:Scope} {Γ:Str→Option V} {σ σ₀:Store} {fd:Addr} {ns:List Int} {b:Int} {t:Nat}
theorem op_f:opOk "f" ∧ 1=arity "f":=⟨⟨102,by decide,by decide⟩,by decide⟩
theorem op_g:opOk "g" ∧ 2=arity "g":=⟨⟨103,by decide,by decide⟩,by decide⟩
theorem f_ok {x:Nat}:arOk ⟨"f",[x]⟩:=op_f
theorem g_ok {x y:Nat}:arOk ⟨"g",[x,y]⟩:=op_g
set_option maxHeartbeats 1000000 in
theorem side1 (P:Px cx a) {Q:Fl→(Str→Option V)→Store→Prop} {loc:Slot→Addr} {rw pr:Addr} {rest:List Stmt} (ht:t≤50) (hz:ns.length≤999) {rows:List Nd} {t0:Nat} (g:SdΓ a fd loc (.ref rw) (.ref pr) Γ) (S:SA a σ₀ fd ns b t0 σ loc HS.empty [(rw,nds rows),(pr,.lst [])]) (R:RowsOk rows) (h2:2≤rows.length) (h3:rows.length≤3) (ht0:t0≤t+1)
  (q:∀ Γ₁ σ₁ rows t',SdΓ a fd loc (.ref rw) (.ref pr) Γ₁→SA a σ₀ fd ns b t' σ₁ loc HS.empty [(rw,nds rows),(pr,.lst [])]→RowsOk rows→2≤rows.length→rows.length≤6→t'≤t+11→Exs cx (n+1) (defScope (defAt 16)) Γ₁ σ₁ rest Q) :
  Exs cx (n+1) (defScope (defAt 16)) Γ σ (((defBody (defAt 16)).drop 1).take 1++rest) Q:=by
 conv=>arg 6;whnf
 refine Exs_cons (Ex_for (Sd1 a σ₀ fd ns b t loc rw pr) (EvI_range (by rfl) P.g_range rfl (Ev_bin (EvIs_int.ev (Ev_c P.f_draw_g P.f_draw_k (.cons (EvIs_loc g.g0) (.cons EvIs_int .nil)) (draw P (w:=3) S.fd_ (Nat.lt_of_le_of_lt (Nat.le_trans ht0 (Nat.succ_le_succ ht)) (by decide)) hz (by decide) fun r hr=>P2_add ⟨1+r,?_,Nat.le_trans (Nat.add_le_add_left (Nat.le_of_lt hr) 1) (by decide),?_⟩))))))
 ·exact congrArg V.int (Int.natCast_add 1 r).symm
 have S1:=S.draw
 refine ⟨⟨g,by unfold upto;rw [List.length_map,List.length_range];exact Nat.add_le_add_left (Nat.le_of_lt_succ hr) 1,rows,t0+1,S1,R,h2,by assumption,by exact Nat.succ_le_succ (by assumption)⟩,?_,?_⟩
 ·rintro i Γ₁ σ₂ v hv ⟨⟨g0,g1,g2,g3⟩,hl,rows,t',S,R,h2,h3,ht'⟩
  have hi:i<3:=Nat.lt_of_lt_of_le (List.getElem?_eq_some_iff.mp hv).1 hl
  have zt:t'+2<99:=Nat.lt_of_le_of_lt (Nat.add_le_add_right (Nat.le_trans ht' (Nat.add_le_add (Nat.add_le_add_right ht 2) (Nat.mul_le_mul_left 3 (Nat.le_of_lt hi)))) 2) (by decide)
  have zr:=Nat.le_trans h3 (Nat.add_le_add_left (Nat.le_of_lt hi) 3)
  refine As_name (.inl (by rfl)) (Exs_wk fun Q' hq=>?_)
  have len:∀ {σ' t'},SA a σ₀ fd ns b t' σ' loc HS.empty [(rw,nds rows),(pr,.lst [])]→Cl cx (n+1) σ' (.builtin "len") [.ref rw] (Is (.int (rows.length:Nat)) σ'):=fun S'=>
   Cl_len (l:=rows.map fun d=>T d.at) (c:=nds rows) S'.e0 rfl (by rw [List.length_map];exact Nat.le_trans zr (by decide)) (by rw [List.length_map];exact .rfl)
  refine Exs_cons (Ex_swap (hs:=by intro _;rfl) (names:=["op", "one", "other"]) (allLoc (by decide +kernel)) (Ev_tuple ⟨rfl,Ev_c P.f_draw_g P.f_draw_k (.cons (EvIs_loc g0) (.cons EvIs_int .nil)) (draw P (w:=2) S.fd_ (Nat.lt_of_succ_lt (Nat.lt_of_succ_lt zt)) hz (by decide) fun r0 hr0=>⟨rfl,?_⟩)⟩) (hw:=by intro env e;cases env;dsimp only at e;cases e;rfl))
  refine Ev_c P.f_draw_g P.f_draw_k (.cons (EvIs_loc g0) (.cons (Ev_b P.g_len (.cons (EvIs_loc g2) .nil) (len S.draw)) .nil)) (draw P S.draw.fd_ (Nat.lt_of_succ_lt zt) hz (by exact Nat.le_of_lt (by assumption)) fun r1 hr1=>⟨rfl,?_⟩)
  refine Ev_c P.f_draw_g P.f_draw_k (.cons (EvIs_loc g0) (.cons (Ev_b P.g_len (.cons (EvIs_loc g2) .nil) (len S.draw.draw)) .nil)) (draw P S.draw.draw.fd_ zt hz (by exact Nat.le_of_lt (by assumption)) fun r2 hr2=>⟨Nat.le_of_ble_eq_true rfl,_,_,rfl,rfl,rfl,?_⟩)
  have S3:=S.draw.draw.draw
  generalize (Store.set (Store.set _ _ _) _ _)=σ₃ at S3 ⊢
  clear S len
  refine Exs_name (Ev.mono (Q:=fun v σ'=>∃ d:Nd,v=T d.at∧arOk d∧(∀ k∈d.kids,k<rows.length)∧σ'=σ₃) (Ev_if (Te_cm (EvIs_loc rfl) EvIs_int (P2_eqi (.of ⟨fun e=>EvIs.ev (EvIs_tup (.cons EvIs_str (.cons (EvIs_loc rfl) .nil))) ⟨⟨"f",[r1]⟩,rfl,f_ok,fun k hk=>List.mem_singleton.mp hk▸hr1,rfl⟩,fun e=>EvIs.ev (EvIs_tup (.cons EvIs_str (.cons (EvIs_loc rfl) (.cons (EvIs_loc rfl) .nil)))) ⟨⟨"g",[r1,r2]⟩,rfl,g_ok,fun k hk=>?_,rfl⟩⟩)))) fun v σ' h=>?_)
  ·rcases List.mem_cons.mp hk with e|hk
   ·exact e▸hr1
   ·exact List.mem_singleton.mp hk▸hr2
  obtain ⟨d,rfl,har,hkd,rfl⟩:=h
  have hdep:(T d.at).dat.depth≤80:=Nat.le_trans (nd_depth d) (by decide)
  have nin:∀ {bb:Bool},(bb=true↔T d.at∉(rows.map fun d=>T d.at))→(bb=true↔d∉rows):=fun h=>h.trans (not_congr nds_mem)
  by_cases hd:d∈rows
  ·refine Exs_expr (Ev_bm (EvIs_loc g2) (Mt_extend S3.e0) (.cons (v:=.lst []) (Ev_if (Te_cm (EvIs_loc rfl) (EvIs_loc g2) (P2_notin (c:=nds rows) S3.e0 rfl (nds_dat R.ar) (nd_dat har.1) hdep fun bb hb=>.of ⟨fun e=>absurd hd ((nin hb).mp e),fun e=>EvIs_lst .nil⟩))) .nil) (Cl_extend (c:=.lst []) (l':=[]) S3.e0 rfl (by rw [List.length_map];exact Nat.le_trans zr (by decide)) ⟨rfl,Exs_nil (hq ?_)⟩))
   rw [List.append_nil]
   exact ⟨⟨g0,g1,g2,g3⟩,hl,rows,t'+3,S3.set0 _,R,h2,by exact Nat.le_succ_of_le (by assumption),Nat.add_le_add_right ht' 3⟩
  ·refine Exs_expr (Ev_bm (EvIs_loc g2) (Mt_extend S3.e0) (.cons (v:=.lst [T d.at]) (Ev_if (Te_cm (EvIs_loc rfl) (EvIs_loc g2) (P2_notin (c:=nds rows) S3.e0 rfl (nds_dat R.ar) (nd_dat har.1) hdep fun bb hb=>.of ⟨fun e=>EvIs_lst (.cons (EvIs_loc rfl) .nil),fun e=>absurd ((nin hb).mpr hd) (by rw [e];decide)⟩))) .nil) (Cl_extend (c:=.lst [T d.at]) (l':=[T d.at]) S3.e0 rfl (by rw [List.length_map];exact Nat.le_trans (Nat.succ_le_succ zr) (by decide)) ⟨rfl,Exs_nil (hq ?_)⟩))
   have e:V.lst ((rows.map fun d=>T d.at)++[T d.at])=nds (rows++[d]):=by unfold nds;rw [List.map_append];rfl
   rw [e]
   refine ⟨⟨g0,g1,g2,g3⟩,hl,rows++[d],t'+3,S3.set0 _,R.snoc hd har hkd,?_,?_,Nat.add_le_add_right ht' 3⟩
   ·rw [List.length_append];exact Nat.le_trans h2 (Nat.le_add_right _ _)
   ·rw [List.length_append];show _+1≤_;exact Nat.succ_le_succ (by assumption)
 ·rintro Γ₁ σ₂ ⟨g,hl,rows,t',S,R,h2,h3,ht'⟩
  exact q _ _ rows t' g S R h2 (Nat.le_trans h3 (Nat.add_le_add_left hl 3)) (Nat.le_trans ht' (Nat.add_le_add_left (Nat.mul_le_mul_left 3 hl) (t+2)))
end
theorem upto_at {k i:Nat} {v:V} (h:(upto k)[i]? = some v):i<k∧v=.int (i:Nat):=by
 obtain ⟨j,hj,rfl⟩:=At_map h
 obtain ⟨y1,y2⟩:=List.getElem?_eq_some_iff.mp hj
 rw [List.length_range] at y1
 rw [List.getElem_range] at y2
 exact ⟨y1,by rw [← y2];rfl⟩
theorem upto_len (k:Nat):(upto k).length=k:=by delta upto;rw [List.length_map,List.length_range]
section
variable {cx:Cx} {a:Ads} {n:Nat} {sc csc:Scope} {Γ:Str→Option V} {σ σ₀:Store} {fd:Addr} {ns:List Int} {b:Int} {t:Nat}
theorem side2 (P:Px cx a) {Q:Fl→(Str→Option V)→Store→Prop} {loc:Slot→Addr} {pr:Addr} {rest:List Stmt} {rows:List Nd} (g:SdΓ a fd loc (nds rows) (.ref pr) Γ) (S:SA a σ₀ fd ns b t σ loc HS.empty [(pr,.lst [])]) (R:RowsOk rows) (h3:rows.length≤6)
  (q:∀ Γ₁ σ₁ loc' H,SdΓ a fd loc (nds rows) (.ref pr) Γ₁→SA a σ₀ fd ns b t σ₁ loc' H [(pr,.lst [])]→hV a loc'=hV a loc→H.nodes=rows→HInv [] rows.length H→(∀ E,Equivalence E→Cong E rows→∀ j,E j (rt H.par j))→Exs cx (n+6) (defScope (defAt 16)) Γ₁ σ₁ rest Q) :
  Exs cx (n+6) (defScope (defAt 16)) Γ σ (((defBody (defAt 16)).drop 2).take 1++rest) Q:=by
 conv=>arg 6;whnf
 refine Exs_cons (Ex_for (Sd2 a σ₀ fd ns b t loc pr rows) (EvI_seq ((EvIs_loc g.g2).ev ⟨_,rfl,⟨g,rfl,loc,HS.empty,S,rfl,rfl,empty_inv,fun E hE o_ j=>(by rw [rt_out empty_inv.down (Nat.zero_le j)];exact hE.refl j)⟩,?_,?_⟩)))
 ·rintro i Γ₁ σ₂ v hv ⟨⟨g0,g1,g2,g3⟩,-,loc',H,S,e,hnod,I,snd⟩
  rw [List.getElem?_map,Option.map_eq_some_iff] at hv
  obtain ⟨d,hd,rfl⟩:=hv
  have hi:i<rows.length:=(List.getElem?_eq_some_iff.mp hd).1
  have har:=R.ar d (List.mem_of_getElem? hd)
  have zk:d.kids.length≤999999:=by rw [har.2];exact Nat.le_trans (arity_le _) (by decide)
  have hl:H.nodes.length=i:=by rw [hnod,List.length_take,Nat.min_eq_left (Nat.le_of_lt hi)]
  rw [← e] at g1
  refine As_name (.inl (by rfl)) (Exs_expr (Ev_m (EvIs_loc g1) (can_h S.h P.heap_add_m) (.cons (Ev_sb (EvIs_loc rfl) EvIs_int (P2_op zk .rfl)) (.cons (Ev_kids (EvIs_loc rfl) zk) .nil)) (H_add P S.h I (by rw [hl];exact Nat.le_trans (by assumption) (Nat.le_trans (by assumption) (by decide))) (by exact Nat.le_trans (by assumption) (Nat.le_trans (by assumption) (by decide))) har (fun k hk=>by rw [hl];exact R.kids i d hd k hk) (fun j hj=>?_) fun o_ σ' loc'' H' m I' ev=>⟨rfl,Exs_nil ⟨⟨g0,e▸g1,g2,g3⟩,rfl,loc'',H',S.mv m,m.hv.trans e,?_,I',fun E hE hc=>?_⟩⟩)))
  ·rw [hnod,List.getElem?_take] at hj
   split at hj
   ·rename_i hlt
    have h1:rows[j]? = rows[i]?:=hj.trans hd.symm
    exact absurd ((List.getElem?_inj (Nat.lt_trans hlt hi) R.nd).mp h1) (Nat.ne_of_lt hlt)
   ·contradiction
  ·rw [ev.nodes,hnod,List.take_add_one,hd];rfl
  ·refine ev.snd E hE ?_ (snd E hE hc)
   rw [hnod,show rows.take i++[d]=rows.take (i+1) by rw [List.take_add_one,hd];rfl]
   exact Cong.pre (l':=rows.drop (i+1)) (by rw [List.take_append_drop];exact hc)
 ·rintro Γ₁ σ₂ ⟨g,-,loc',H,S,e,hnod,I,snd⟩
  rw [List.length_map] at hnod I
  rw [List.take_length] at hnod
  exact q _ _ loc' H g S e hnod I snd
theorem side3 (P:Px cx a) {Q:Fl→(Str→Option V)→Store→Prop} {loc loc0:Slot→Addr} {pr:Addr} {rest:List Stmt} {rows:List Nd} {H0:HS} (ht:t≤90) (hz:ns.length≤999) (g:SdΓ a fd loc (nds rows) (.ref pr) Γ) (S:SA a σ₀ fd ns b t σ loc0 H0 [(pr,.lst [])]) (e0:hV a loc0=hV a loc) (R:RowsOk rows) (h2:2≤rows.length) (h3:rows.length≤6)
  (hnod:H0.nodes=rows) (I0:HInv [] rows.length H0) (snd0:∀ E,Equivalence E→Cong E rows→∀ j,E j (rt H0.par j))
  (q:∀ Γ₁ σ₁ loc' H ps t',SdΓ a fd loc (nds rows) (.ref pr) Γ₁→SA a σ₀ fd ns b t' σ₁ loc' H [(pr,.lst (prs ps))]→hV a loc'=hV a loc→H.nodes=rows→HInv [] 9999 H→ps.length≤2→t'≤t+5→(∀ p∈ps,p.1<rows.length∧p.2<rows.length)→(∀ p∈ps,rt H.par p.1=rt H.par p.2)→(∀ E,Equivalence E→Cong E rows→(∀ p∈ps,E p.1 p.2)→∀ j,E j (rt H.par j))→Exs cx (n+6) (defScope (defAt 16)) Γ₁ σ₁ rest Q) :
  Exs cx (n+6) (defScope (defAt 16)) Γ σ (((defBody (defAt 16)).drop 3).take 1++rest) Q:=by
 conv=>arg 6;whnf
 refine Exs_cons (Ex_for (Sd3 a σ₀ fd ns b (t+1) loc pr rows) (EvI_range (by rfl) P.g_range rfl (Ev_c P.f_draw_g P.f_draw_k (.cons (EvIs_loc g.g0) (.cons EvIs_int .nil)) (draw P (w:=3) S.fd_ (by exact Nat.lt_of_le_of_lt (by assumption) (by decide)) hz (by decide) fun r hr=>⟨r,rfl,by exact Nat.le_trans (Nat.le_of_lt (by assumption)) (by decide),?_⟩))))
 refine ⟨⟨g,⟨r,by exact Nat.le_of_lt_succ (by assumption),rfl⟩,loc0,H0,[],t+1,S.draw,e0,hnod,I0,rfl,Nat.le_refl _,fun p hp=>(by contradiction),fun p hp=>(by contradiction),fun E hE hc o_=>snd0 E hE hc⟩,?_,?_⟩
 ·clear S I0 snd0 e0 hnod
  rintro i Γ₁ σ₂ v hv ⟨⟨g0,g1,g2,g3⟩,⟨k,hk,hl⟩,loc',H,ps,t',S,e,hnod,I,hpl,ht',hps,told,snd⟩
  rw [hl] at hv
  obtain ⟨hik,rfl⟩:=upto_at hv
  have hi2:i≤2:=Nat.le_trans (Nat.le_of_lt hik) hk
  have zt:t'+1<99:=Nat.lt_of_le_of_lt (Nat.succ_le_succ (Nat.le_trans ht' (Nat.add_le_add (Nat.succ_le_succ ht) (Nat.mul_le_mul_left 2 hi2)))) (by decide)
  refine As_name (.inl (by rfl)) (Exs_wk fun Q' hq=>?_)
  have len:∀ {σ'},Cl cx (n+6) σ' (.builtin "len") [nds rows] (Is (.int (rows.length:Nat)) σ'):=fun {σ'}=>Cl_len (l:=rows.map fun d=>T d.at) (c:=nds rows) rfl rfl (by rw [List.length_map];exact Nat.le_trans (by assumption) (by decide)) (by rw [List.length_map];exact .rfl)
  refine Exs_expr (Ev_meth (EvIs.ev (EvIs_loc g3) ⟨_,Mt_append S.e0,keeps_builtin _,⟨rfl,Ev_tuple ⟨rfl,Ev_c P.f_draw_g P.f_draw_k (.cons (EvIs_loc g0) (.cons (Ev_b P.g_len (.cons (EvIs_loc g2) .nil) len) .nil)) (draw P S.fd_ (Nat.lt_of_succ_lt zt) hz (by exact Nat.le_of_lt (by assumption)) fun r1 hr1=>⟨rfl,Ev_c P.f_draw_g P.f_draw_k (.cons (EvIs_loc g0) (.cons (Ev_b P.g_len (.cons (EvIs_loc g2) .nil) len) .nil)) (draw P S.draw.fd_ zt hz (by exact Nat.le_of_lt (by assumption)) fun r2 hr2=>⟨Nat.le_of_ble_eq_true rfl,?_⟩)⟩)⟩⟩⟩))
  have S2:=S.draw.draw
  refine Cl_append S2.e0 (by unfold prs;rw [List.length_map,hpl];exact Nat.le_trans hi2 (by decide)) ⟨rfl,?_⟩
  have e2:V.lst (prs ps++[.tup [.int r1,.int r2]])=.lst (prs (ps++[(r1,r2)])):=by unfold prs;rw [List.map_append];rfl
  rw [e2]
  have S3:=S2.set0 (.lst (prs (ps++[(r1,r2)])))
  generalize (Store.set (Store.set _ _ _) pr _)=σ₃ at S3 ⊢
  clear S S2 len e2
  have hlast:lk σ₃ (.ref pr)=some (.lst (prs ps++[T (pairAt (r1,r2))])):=by
   refine S3.e0.trans ?_
   unfold prs;rw [List.map_append];rfl
  rw [← e] at g1
  have str:∀ i:Nat,i<2→(("t" : Str).length+((toString (i:Int):String):Str).length≤1000000):=by decide +kernel
  refine Exs_expr (Ev_m (EvIs_loc g1) (can_h S3.h P.heap_merge_m) (.cons (Ev_sb (Ev_sb (EvIs_loc g3) EvIs_neg (P2_last (hs:=by intro _ _;with_unfolding_all rfl) (hg:=by exact trivial) hlast .rfl)) EvIs_int (P2_item (c:=T (pairAt (r1,r2))) (u:=.int r1) (k:=0) rfl rfl (Int.le_refl 0) (Nat.le_of_ble_eq_true rfl) rfl .rfl)) (.cons (Ev_sb (Ev_sb (EvIs_loc g3) EvIs_neg (P2_last (hs:=by intro _ _;with_unfolding_all rfl) (hg:=by exact trivial) hlast .rfl)) EvIs_int (P2_item (c:=T (pairAt (r1,r2))) (u:=.int r2) (k:=1) rfl rfl (by decide) (Nat.le_of_ble_eq_true rfl) rfl .rfl)) (.cons (EvIs_tup (.cons EvIs_str (.cons (Ev_bn EvIs_str (Ev_ty P.g_str (.cons (EvIs_loc rfl) .nil) (Cl_str ?_ .rfl) (keeps_type _)) (P2_adds ?_ .rfl)) .nil))) .nil)))
   (H_merge P S3.h I (by rw [hnod];exact Nat.le_trans (by assumption) (by decide)) (Nat.le_trans (Nat.add_le_add h3 hi2) (Nat.le_of_ble_eq_true rfl)) (by rw [I.lp,hnod];exact hr1) (by rw [I.lp,hnod];exact hr2) fun r σ₄ loc₄ H₄ m4 I4 ev=>⟨rfl,Exs_nil (hq ⟨⟨g0,e▸g1,g2,g3⟩,⟨k,hk,hl⟩,loc₄,H₄,ps++[(r1,r2)],t'+2,S3.mv m4,m4.hv.trans e,ev.nodes.trans hnod,I4,?_,?_,fun p hp=>?_,fun p hp=>?_,fun E hE hc hp=>?_⟩)⟩))
  ·have:∀ i:Nat,i<2→((i:Int).natAbs.log2<1920):=by decide +kernel
   exact this i (Nat.lt_of_lt_of_le hik hk)
  ·exact str i (Nat.lt_of_lt_of_le hik hk)
  ·rw [List.length_append,hpl];rfl
  ·exact Nat.add_le_add_right ht' 2
  ·rcases List.mem_append.mp hp with z|z
   ·exact hps p z
   ·rw [List.mem_singleton.mp z];exact ⟨hr1,hr2⟩
  ·rcases List.mem_append.mp hp with z|z
   ·exact ev.mono _ _ (told p z)
   ·rw [List.mem_singleton.mp z];exact ev.eq
  ·exact ev.snd E hE (hp _ (List.mem_append_right _ (List.mem_singleton.mpr rfl))) (snd E hE hc fun p hp'=>hp p (List.mem_append_left _ hp'))
 ·rintro Γ₁ σ₂ ⟨g,⟨k,hk,hl⟩,loc',H,ps,t',S,e,hnod,I,hpl,ht',hps,told,snd⟩
  have zl:(upto r).length≤2:=by rw [hl,upto_len];exact hk
  exact q _ _ loc' H ps t' g S e hnod (I.more (Nat.le_trans (Nat.add_le_add h3 zl) (by decide))) (Nat.le_trans (Nat.le_of_eq hpl) zl) (Nat.le_trans ht' (Nat.add_le_add_left (Nat.mul_le_mul_left 2 zl) (t+1))) hps told snd
end
section
variable {cx:Cx} {a:Ads} {n:Nat} {sc csc:Scope} {Γ:Str→Option V} {σ σ₀:Store} {fd:Addr} {ns:List Int} {b:Int} {t:Nat} {Q:V→Store→Prop}
noncomputable def rows0 (r:Nat):List Nd:=((signs (Txt.slice "abc" none (some ((2+r:Nat):Int)))).map fun v=>match v with
 | .str x=>(⟨x,[]⟩:Nd)
 | _=>⟨"",[]⟩)
theorem rows0_at (r:Nat):(signs (Txt.slice "abc" none (some ((2+r:Nat):Int)))).map (fun v=>V.tup [v])=(rows0 r).map fun d=>T d.at:=by
 delta rows0 signs
 rw [List.map_map,List.map_map,List.map_map];rfl
theorem rows0_ok:∀ r,r<2→RowsOk (rows0 r)∧2≤(rows0 r).length∧(rows0 r).length≤3:=by
 have h:∀ r,r<2→(rows0 r).Nodup∧(∀ d∈rows0 r,(97∈[97]∧(d.op=⟨#[97]⟩∨d.op=⟨#[98]⟩∨d.op=⟨#[99]⟩))∧d.kids=[])∧2≤(rows0 r).length∧(rows0 r).length≤3:=by decide +kernel
 intro r hr
 obtain ⟨h1,h2,h3,h4⟩:=h r hr
 refine ⟨⟨h1,fun d hd=>?_,fun i d hd k hk=>?_⟩,h3,h4⟩
 ·obtain ⟨⟨_,z⟩,w⟩:=h2 d hd
  delta arOk
  rw [w]
  rcases z with z|z|z <;> rw [z]
  ·exact ⟨⟨97,by decide,rfl⟩,by decide⟩
  ·exact ⟨⟨98,by decide,rfl⟩,by decide⟩
  ·exact ⟨⟨99,by decide,rfl⟩,by decide⟩
 ·rw [(h2 d (List.mem_of_getElem? hd)).2] at hk;contradiction
theorem side (P:Px cx a) (hf:σ fd=some (.dS (feedL ns t b))) (ht:t≤50) (hz:ns.length≤999)
  (q:∀ σ' loc H rows ps t',SA a σ fd ns b t' σ' loc H []→t'≤t+16→SideOut rows ps H→Q (.tup [hV a loc,nds rows,.lst (prs ps)]) σ'):Cc cx (n+8) σ (.ref a.f_side) [.ref fd] Q:=by
 refine P.f_side.go rfl ?_
 have hb:defBody (defAt 16)=((defBody (defAt 16)).take 1)++((((defBody (defAt 16)).drop 1).take 1)++((((defBody (defAt 16)).drop 2).take 1)++((((defBody (defAt 16)).drop 3).take 1)++(defBody (defAt 16)).drop 4))):=by rfl
 rw [hb]
 have e1:∀ r:List Stmt,(defBody (defAt 16)).take 1++r=stAt (defBody (defAt 16)) 0::r:=fun r=>rfl
 rw [e1]
 clear hb e1
 conv=>arg 6;arg 1;whnf
 refine Exs_cons (Ex_swap (hs:=by intro _;rfl) (names:=["heap", "rows", "pairs"]) (allLoc (by decide +kernel)) (Ev_tuple ⟨rfl,Ev_c P.heap_g P.heap_keep .nil (new_heap P fun σ₁ loc h hnew hkeep=>⟨rfl,?_⟩)⟩) (hw:=by intro env e;cases env;dsimp only at e;cases e;rfl))
 have hfd0:σ fd≠none:=by rw [hf];exact fun z=>by contradiction
 have S0:SA a σ fd ns b t σ₁ loc HS.empty []:=⟨h,hnew,hfd0,(hkeep fd hfd0).trans hf,fun p hp=>(by contradiction),.nil,fun x hx o_=>hkeep x hx⟩
 clear h hnew hkeep hf
 refine Ev_comp (by decide +kernel) (by rfl) (EvI_str (Ev_cut (Ev_str ⟨rfl,Ev_bin (EvIs.ev EvIs_int (Ev_c P.f_draw_g P.f_draw_k (.cons (EvIs_loc rfl) (.cons EvIs_int .nil)) (draw P (w:=2) S0.fd_ (by exact Nat.lt_of_le_of_lt (by assumption) (by decide)) hz (by decide) fun r hr=>P2_add ⟨((2+r:Nat):Int),(congrArg V.int (Int.natCast_add 2 r).symm),by decide,?_⟩)))⟩)))
 refine ⟨_,rfl,_,Turns_map (fun v=>V.tup [v]) ?_ (fun v hv=>EvIs_tup (.cons (EvIs_loc rfl) .nil)),.inr fun rw hrw=>⟨rfl,lst0 fun pr hpr=>⟨Nat.le_of_ble_eq_true rfl,_,_,rfl,rfl,rfl,?_⟩⟩⟩
 ·have:∀ r,r<2→(signs (Txt.slice "abc" none (some ((2+r:Nat):Int)))).length≤1000000:=by decide +kernel
  exact this r hr
 have S1:=((S0.draw.push hrw (nds (rows0 r))).push (by rw [← show V.lst _=nds (rows0 r) from congrArg V.lst (rows0_at r)];exact hpr) (.lst [])).swap
 obtain ⟨R0,r2,r3⟩:=rows0_ok r hr
 rw [show V.lst ((signs (Txt.slice "abc" none (some ((2+r:Nat):Int)))).map fun v=>V.tup [v])=nds (rows0 r) from congrArg V.lst (rows0_at r)]
 clear S0 hrw hpr
 generalize (Store.set (Store.set (Store.set σ₁ _ _) rw _) pr _)=σ₂ at S1 ⊢
 refine side1 P ht hz ⟨rfl,rfl,rfl,rfl⟩ S1 R0 r2 r3 (Nat.le_refl _) fun Γ₁ σ₃ rows t₁ g S R h2 h6 ht₁=>Exs.freeze g.g2 (by rfl) S.e0 (side2 P ⟨g.1,g.g1,rfl,g.g3⟩ S.del0 R h6 fun Γ₂ σ₄ loc₂ H₂ g S e hnod I snd=>side3 P (by omega) hz g S e R h2 h6 hnod I snd fun Γ₃ σ₅ loc₃ H₃ ps t₂ g S e hnod I hpl ht₂ hps told snd=>?_)
 clear S1 R0 r2 r3
 conv=>arg 6;whnf
 refine Exs_expr (Ev_m (EvIs_loc (e▸g.g1)) (can_h S.h P.heap_settle_m) .nil (H_settle P S.h I (by rw [hnod];exact Nat.le_trans (by assumption) (by decide)) (Nat.le_refl _) fun σ₆ loc₄ H₄ m I₄ ev hw=>⟨rfl,Exs.freeze g.g3 (by rfl) (S.mv m).e0 (Exs_ret (EvIs.ev (EvIs_tup (.cons (EvIs_loc g.g1) (.cons (EvIs_loc g.g2) (.cons (EvIs_loc rfl) .nil)))) ?_))⟩))
 rw [← e,← m.hv]
 exact q _ loc₄ H₄ rows ps t₂ (S.mv m).del0 (by omega) ⟨⟨I₄,hw,by rw [ev.nodes,hnod];exact h6⟩,ev.nodes.trans hnod,R,hps,hpl,fun p hp=>ev.mono _ _ (told p hp),fun E hE hc hp=>ev.snd E hE (by rw [hnod];exact hc) (snd E hE hc hp)⟩
end
noncomputable def Told (rows:List Nd) (ps:List Pr) (x y:Nat):Prop:=∀ E,Equivalence E→Cong E rows→(∀ p∈ps,E p.1 p.2)→E x y
structure LInv (rows:List Nd) (ps:List Pr) (lots:List Nat):Prop where
 len:lots.length=rows.length
 le:∀ i c:Nat,lots[i]? = some c→c≤i
 idem:∀ i c:Nat,lots[i]? = some c→lots[c]? = some c
 snd:∀ i c:Nat,lots[i]? = some c→Told rows ps i c
noncomputable def lmerge (lots:List Nat) (low high:Nat):List Nat:=lots.map fun c=>if c=high then low else c
theorem lmerge_at {lots:List Nat} {low high i:Nat}:(lmerge lots low high)[i]? = (lots[i]?).map fun c=>if c=high then low else c:=List.getElem?_map
section
variable {rows:List Nd} {ps:List Pr} {lots before:List Nat}
theorem LInv.start:LInv rows ps (List.range rows.length):=by
 have h:∀ {i c:Nat},(List.range rows.length)[i]? = some c→c=i:=fun {i c} e=>by
  obtain ⟨h1,h2⟩:=List.getElem?_eq_some_iff.mp e
  rw [List.getElem_range] at h2;exact h2.symm
 exact ⟨List.length_range,fun i c e=>Nat.le_of_eq (h e),fun i c e=>(h e).symm▸((h e)▸e),fun i c e E hE o_ o_=>(h e).symm▸hE.refl _⟩
theorem LInv.merge (L:LInv rows ps lots) {x y lx ly low high:Nat} (hx:lots[x]? = some lx) (hy:lots[y]? = some ly) (hlh:low≤high) (ho:low=lx∧high=ly∨low=ly∧high=lx) (ht:Told rows ps x y):LInv rows ps (lmerge lots low high):=by
 have hlow:lots[low]? = some low:=by
  rcases ho with ⟨e,_⟩|⟨e,_⟩
  ·rw [e];exact L.idem _ _ hx
  ·rw [e];exact L.idem _ _ hy
 have tl:Told rows ps low high:=fun E hE hc hp=>by
  have a1:=L.snd _ _ hx E hE hc hp
  have a2:=L.snd _ _ hy E hE hc hp
  have a3:=ht E hE hc hp
  rcases ho with ⟨e,e'⟩|⟨e,e'⟩
  ·rw [e,e'];exact hE.trans (hE.symm a1) (hE.trans a3 a2)
  ·rw [e,e'];exact hE.trans (hE.symm a2) (hE.trans (hE.symm a3) a1)
 refine ⟨(List.length_map _).trans L.len,fun i c h=>?_,fun i c h=>?_,fun i c h E hE hc hp=>?_⟩
 all_goals
  rw [lmerge_at,Option.map_eq_some_iff] at h
  obtain ⟨c0,h0,rfl⟩:=h
 ·split
  ·rename_i e;exact Nat.le_trans hlh (e▸L.le _ _ h0)
  ·exact L.le _ _ h0
 ·split
  ·rw [lmerge_at,hlow]
   show some (if low=high then low else low)=_
   rw [ite_self]
  ·rename_i e
   rw [lmerge_at,L.idem _ _ h0]
   show some (if c0=high then low else c0)=_
   rw [if_neg e]
 ·have a0:=L.snd _ _ h0 E hE hc hp
  split
  ·rename_i e;exact hE.trans a0 (e▸hE.symm (tl E hE hc hp))
  ·exact a0
structure Pass (before cur:List Nat) (done:List Pr):Prop where
 len:cur.length=before.length
 le:∀ i c b:Nat,cur[i]? = some c→before[i]? = some b→c≤b
 same:cur=before→∀ p∈done,before[p.1]? = before[p.2]?
theorem Pass.start:Pass lots lots []:=⟨rfl,fun i c b h h'=>by rw [h] at h';(injection h' with h';subst h');exact Nat.le_refl _,fun o_ p hp=>by contradiction⟩
theorem Pass.step {cur:List Nat} {done:List Pr} (S:Pass before cur done) {x y lx ly low high:Nat} (hx:cur[x]? = some lx) (hy:cur[y]? = some ly) (hlh:low≤high) (ho:low=lx∧high=ly∨low=ly∧high=lx):Pass before (lmerge cur low high) (done++[(x,y)]):=by
 have below:∀ i c b:Nat,(lmerge cur low high)[i]? = some c→cur[i]? = some b→c≤b:=fun i c b h h'=>by
  rw [lmerge_at,h'] at h
  (injection h with h;subst h)
  show (if b=high then low else b)≤b
  split
  ·rename_i e;exact e▸hlh
  ·exact Nat.le_refl _
 refine ⟨(List.length_map _).trans S.len,fun i c b h h'=>?_,fun e p hp=>?_⟩
 ·have hc:i<cur.length:=by
   have:=(List.getElem?_eq_some_iff.mp h').1
   rwa [← S.len] at this
  have h1:=List.getElem?_eq_getElem hc
  exact Nat.le_trans (below i c _ h h1) (S.le i _ b h1 h')
 ·have ec:cur=before:=by
   refine List.ext_getElem? fun i=>?_
   rcases Nat.lt_or_ge i cur.length with q|q
   ·have h1:=List.getElem?_eq_getElem q
    have h2:=List.getElem?_eq_getElem (S.len▸q:i<before.length)
    have h3:=S.le i _ _ h1 h2
    have h4:=below i _ _ (by rw [e];exact h2) h1
    rw [h1,h2,Nat.le_antisymm h3 h4]
   ·rw [List.getElem?_eq_none q,List.getElem?_eq_none (S.len▸q)]
  rcases List.mem_append.mp hp with z|z
  ·exact S.same ec p z
  ·rw [List.mem_singleton.mp z]
   show before[x]? = before[y]?
   have hlow:low=high:=by
    refine Classical.byContradiction fun hne=>?_
    have key:∀ z:Nat,cur[z]? = some high→False:=fun z hz=>by
     have h1:(lmerge cur low high)[z]? = some low:=by rw [lmerge_at,hz];show some (if high=high then low else high)=_;rw [if_pos rfl]
     rw [e,← ec,hz] at h1
     exact hne (Option.some.inj h1).symm
    rcases ho with ⟨_,e2⟩|⟨_,e2⟩
    ·exact key y (e2▸hy)
    ·exact key x (e2▸hx)
   rw [← ec,hx,hy]
   rcases ho with ⟨e1,e2⟩|⟨e1,e2⟩
   ·rw [← e1,← e2,hlow]
   ·rw [← e1,← e2,hlow]
theorem sum_le:∀ {l l':List Nat},l.length=l'.length→(∀ i c b:Nat,l[i]? = some c→l'[i]? = some b→c≤b)→l.sum≤l'.sum∧(l≠l'→l.sum<l'.sum)
 | [],[],_,_=>⟨Nat.le_refl _,fun h=>absurd rfl h⟩
 | a::l,b::l',hl,h=>by
  obtain ⟨h1,h2⟩:=sum_le (l:=l) (l':=l') (Nat.succ.inj hl) fun i c b e e'=>h (i+1) c b e e'
  have h0:a≤b:=h 0 a b rfl rfl
  rw [List.sum_cons,List.sum_cons]
  refine ⟨Nat.add_le_add h0 h1,fun hne=>?_⟩
  by_cases e:a=b
  ·subst e
   exact Nat.add_lt_add_left (h2 fun z=>hne (by rw [z])) _
  ·exact Nat.add_lt_add_of_lt_of_le (Nat.lt_of_le_of_ne h0 e) h1
 | [],_::_,h,_=>by contradiction
 | _::_,[],h,_=>by contradiction
noncomputable def lkey (lots:List Nat) (d:Nd):Nd:=⟨d.op,d.kids.map fun k=>lots.getD k 0⟩
structure KInv (rows:List Nd) (lots:List Nat) (i:Nat) (known:List (Nd×Nat)) (told:List Pr):Prop where
 keys:(known.map (·.1)).Nodup
 size:known.length≤i
 mem:∀ e m,ag known e=some m→∃ d,rows[m]? = some d∧lkey lots d=e
 all:∀ (j:Nat) d,j<i→rows[j]? = some d→∃ m,ag known (lkey lots d)=some m∧(m,j)∈told
theorem closed_eq {H:HS} (O:SideOut rows ps H) (L:LInv rows ps lots) (h1:∀ p∈ps,lots[p.1]? = lots[p.2]?) (h2:Cong (fun i j=>lots[i]? = lots[j]?) rows):lots=(List.range rows.length).map (rt H.par):=by
 have I:=O.side.I
 have s1:=O.snd (fun i j=>lots[i]? = lots[j]?) ⟨fun o_=>rfl,fun h=>h.symm,fun h h'=>h.trans h'⟩ h2 h1
 have c2:Cong (fun i j=>rt H.par i=rt H.par j) rows:=fun i j d d' hi hj ho hk=>by
  refine I.alike_eq O.side.w (by rw [O.nodes];exact hi) (by rw [O.nodes];exact hj) ?_
  unfold cn
  rw [ho]
  refine congrArg _ (List.ext_getElem? fun k=>?_)
  rw [List.getElem?_map,List.getElem?_map]
  rcases Nat.lt_or_ge k d.kids.length with q|q
  ·have a1:=List.getElem?_eq_getElem q
   have a2:=List.getElem?_eq_getElem (hk.1▸q:k<d'.kids.length)
   rw [a1,a2]
   exact congrArg some (hk.2 k _ _ a1 a2)
  ·rw [List.getElem?_eq_none q,List.getElem?_eq_none (hk.1▸q)]
 refine List.ext_getElem? fun i=>?_
 rw [List.getElem?_map]
 rcases Nat.lt_or_ge i rows.length with q|q
 ·have hi:=List.getElem?_eq_getElem (L.len▸q:i<lots.length)
  generalize lots[i]'(L.len▸q)=c at hi
  have a1:=L.snd i c hi (fun i j=>rt H.par i=rt H.par j) ⟨fun o_=>rfl,fun h=>h.symm,fun h h'=>h.trans h'⟩ c2 O.told
  have a2:c≤rt H.par i:=L.le _ _ ((s1 i).symm.trans hi)
  have a3:rt H.par i≤c:=by rw [a1];exact rt_le I.down c
  rw [hi,List.getElem?_range q,Nat.le_antisymm a2 a3];rfl
 ·rw [List.getElem?_eq_none (L.len▸q),List.getElem?_eq_none (by rw [List.length_range];exact q)];rfl
theorem KInv.cong {known:List (Nd×Nat)} {told:List Pr} (K:KInv rows lots rows.length known told) (R:RowsOk rows) (hl:lots.length=rows.length) (h:∀ p∈told,lots[p.1]? = lots[p.2]?):Cong (fun i j=>lots[i]? = lots[j]?) rows:=fun i j d d' hi hj ho hk=>by
 obtain ⟨m,a1,a2⟩:=K.all i d (List.getElem?_eq_some_iff.mp hi).1 hi
 obtain ⟨m',b1,b2⟩:=K.all j d' (List.getElem?_eq_some_iff.mp hj).1 hj
 have hkk:lkey lots d=lkey lots d':=by
  unfold lkey
  rw [ho]
  refine congrArg _ (List.ext_getElem? fun k=>?_)
  rw [List.getElem?_map,List.getElem?_map]
  rcases Nat.lt_or_ge k d.kids.length with q|q
  ·have c1:=List.getElem?_eq_getElem q
   have c2:=List.getElem?_eq_getElem (hk.1▸q:k<d'.kids.length)
   have c3:=hk.2 k _ _ c1 c2
   rw [c1,c2]
   show some (lots.getD _ 0)=some (lots.getD _ 0)
   unfold List.getD
   rw [c3]
  ·rw [List.getElem?_eq_none q,List.getElem?_eq_none (hk.1▸q)]
 rw [hkk,b1] at a1
 (injection a1 with a1;subst a1)
 exact (h _ a2).symm.trans (h _ b2)
end
section
variable {cx:Cx} {a:Ads} {n:Nat} {sc csc:Scope} {Γ:Str→Option V} {σ:Store} {Q:V→Store→Prop}
theorem Ev_listrange {e:Expr} {fp pos fp2 pos2:Pos} (P:Px cx a) (h:Ev cx n sc Γ σ e fun v σ₁=>∃ k:Nat,v=.int (k:Int)∧k≤1000000∧Q (nats (List.range k)) σ₁) (hp:notStar e=true) (hk:sc.names.lookup ("range" : Str)=some .globalImplicit) (hk2:sc.names.lookup ("list" : Str)=some .globalImplicit) :
  Ev cx n sc Γ σ (.Call (.Name ("list" : Str) fp2) [.Call (.Name ("range" : Str) fp) [e] [] pos] [] pos2) Q:=fun B env A s rd X E=>by
 show wpAny _ A (do callWith pos2 (← eval (.Name ("list" : Str) fp2) env) [] (backTo pos2 (starEach [.Call (.Name ("range" : Str) fp) [e] [] pos] env)) (backToKw pos2 (keywordEach [] env))) _ _ s
 refine wpAny_bind (glob_name X E hk2 P.g_list ?_)
 refine callWith_run X (keeps_type _) rfl ?_
 rw [starEach_cons rfl]
 show wpAny _ A (spliced ((false,eval (.Call (.Name ("range" : Str) fp) [e] [] pos) env)::backTo pos2 (starEach [] env))) _ _ s
 refine spliced_cons ?_
 show wpAny _ A (do callWith pos (← eval (.Name ("range" : Str) fp) env) [] (backTo pos (starEach [e] env)) (backToKw pos (keywordEach [] env))) _ _ s
 refine wpAny_bind (glob_name X E hk P.g_range ?_)
 have hL:EvL cx n sc Γ σ [e] fun vs σ₁=>∃ k:Nat,vs=[.int (k:Int)]∧k≤1000000∧Q (nats (List.range k)) σ₁:=⟨hp,h.mono fun v σ₁ q=>by obtain ⟨k,rfl,a,b⟩:=q;exact ⟨k,rfl,a,b⟩⟩
 refine callWith_run X (keeps_type _) (by rw [List.all_cons,hp];rfl) (wpAny_mono (hL.run B env A s rd X E) (fun xs s₁ o=>?_) fun o_ o_ x=>x)
 obtain ⟨vs,σ₁,X₁,S₁,r₁,k,rfl,hk,q⟩:=o
 refine ⟨cx.X.keeps X₁.keep,?_⟩
 obtain ⟨x,_,rfl,hx,rfl⟩:=r₁
 obtain ⟨t,rfl⟩:=of_int hx
 refine call_range_1 ?_
 have hsz:Builtin.Range.rangeSize 0 (k:Int) 1=k:=by
  rw [rangeSize_one];split <;> omega
 have hfit:∀ i:Int,0≤i→i≤1000000→Builtin.Range.rangeFitsLong i=true:=fun i h1 h2=>by
  unfold Builtin.Range.rangeFitsLong
  simp only [Bool.and_eq_true,decide_eq_true_eq]
  constructor <;> omega
 have hsmall:Builtin.Range.small 0 (k:Int) 1=true:=by
  unfold Builtin.Range.small
  rw [hsz]
  have e:(k:Int)+(1 - 1)=k:=by omega
  simp [hfit 0 (by exact Int.natCast_nonneg _) (by exact Int.natCast_nonneg _),hfit k (by exact Int.natCast_nonneg _) (by exact Int.ofNat_le.mpr (by assumption)),hfit 1 (by exact Int.natCast_nonneg _) (by exact Int.natCast_nonneg _)]
 refine spliced_nil ⟨cx.X.keeps fun b o e=>push_keep _ _ _ _ (X₁.keep b o e),?_⟩
 refine call_list_range rd.1 (IsRange.new _ _ _ _ _ _ _) hsmall hsz (Nat.le_trans hk (by decide)) fun h' tk acc c' kk hS' hacc=>?_
 refine Out.pre S₁ (out_list (tk:=tk) X₁ (fun b o e=>kk b o (push_keep _ _ _ _ e)) ?_ hS' (fun σ' o_=>RpL_of_at ?_ fun i v y hv hy=>?_) (.inl q))
 ·rw [Heap.size_push]
  rcases e:s₁.heap.get? (s₁.heap.objs.size+1) with _|o
  ·rfl
  ·exact absurd (Heap.lt_size e) (Nat.not_lt.mpr (Nat.le_succ _))
 ·rw [List.length_map,List.length_range];simpa using hacc.1
 ·rw [List.getElem?_map,Option.map_eq_some_iff] at hv
  obtain ⟨j,hj,rfl⟩:=hv
  obtain ⟨z1,z2⟩:=List.getElem?_eq_some_iff.mp hj
  rw [List.getElem_range] at z2
  subst z2
  obtain ⟨u,rfl⟩:=hacc.2 i y (Array.getElem?_toList.symm.trans hy)
  have e:(0:Int)+(i:Int)*1=(i:Int):=by omega
  rw [e];exact rp_int _ _
end
structure FKof (H:HS) (FK:List (Nd×Nat)):Prop where
 keys:(FK.map (·.1)).Nodup
 size:FK.length≤6
 mem:∀ e c,ag FK e=some c↔Kn H e c
structure ClΓ (rows:List Nd) (ps:List Pr) (lots before:List Nat) (Γ:Str→Option V):Prop where
 g0:Γ ("rows" : Str)=some (nds rows)
 g1:Γ ("pairs" : Str)=some (.lst (prs ps))
 g2:Γ ("lots" : Str)=some (nats lots)
 g3:Γ ("before" : Str)=some (nats before)
inductive ClW (rows:List Nd) (ps:List Pr) (σ:Store) (m:Nat) (Γ₁:Str→Option V) (σ₁:Store):Prop
 | mk (lots before:List Nat) (g:ClΓ rows ps lots before Γ₁) (L:LInv rows ps lots) (h:lots=before→(∀ p∈ps,lots[p.1]? = lots[p.2]?)∧Cong (fun i j=>lots[i]? = lots[j]?) rows) (hm:m=(if lots=before then 0 else lots.sum+1)) (k:∀ x,σ x≠none→σ₁ x=σ x)
structure ClR (rows:List Nd) (ps:List Pr) (lots:List Nat) (kd td:Addr) (σ:Store) (i:Nat) (σ₁:Store) (known:List (Nd×Nat)) (told:List Pr):Prop where
 k:σ₁ kd=some (.dT (encN known))
 t:σ₁ td=some (.lst (prs told))
 ne:kd≠td
 K:KInv rows lots i known told
 ok:∀ p∈told,p.1<rows.length∧p.2<rows.length∧Told rows ps p.1 p.2
 sub:∀ p∈ps,p∈told
 size:told.length=ps.length+i
 rest:∀ x,σ x≠none→σ₁ x=σ x∧x≠kd∧x≠td
inductive CRi (rows:List Nd) (ps:List Pr) (lots:List Nat) (kd td:Addr) (σ:Store) (i:Nat) (Γ:Str→Option V) (σ₁:Store):Prop
 | mk (g:ClΓ rows ps lots lots Γ) (gk:Γ ("known" : Str)=some (.ref kd)) (gt:Γ ("told" : Str)=some (.ref td)) (known:List (Nd×Nat)) (told:List Pr) (C:ClR rows ps lots kd td σ i σ₁ known told)
theorem nats_dat (l:List Nat):(nats l).isDat=true:=vi_dat l
theorem nats_inj {l l':List Nat} (h:nats l=nats l'):l=l':=by injection h with h;exact vi_inj h
theorem nats_depth (l:List Nat):(nats l).dat.depth≤80:=Nat.le_trans (depth_lst (k:=0) fun v hv=>by obtain ⟨k,_,rfl⟩:=mem_vi hv;exact Nat.le_refl _) (by decide)
section
variable {cx:Cx} {a:Ads} {n:Nat} {sc csc:Scope} {Γ:Str→Option V} {σ:Store} {Q:V→Store→Prop} {rows:List Nd} {ps:List Pr} {lots:List Nat}
theorem EvIs_lkey {x y z:Str} {k0 kt k1:Nat} {pt p1 p2 p3 p4 p5 p6 p7 p8 p9 pa pb pc pd pe pf:Pos} (P:Px cx a) {d:Nd} (hok:compOk csc sc=true) (hy:csc.names.lookup y=some .local) (g:Γ x=some (T d.at)) (gl:capΓ csc Γ z=some (nats lots)) (hzy:z≠y) (hk:∀ k∈d.kids,k<lots.length) (hz:d.kids.length≤2) (hl:lots.length≤999)
  (l1:LocK sc x) (l2:LocK (relabel' csc sc) y) (l3:LocK (relabel' csc sc) z) (d1:(x==("__debug__" : Str))=false) (d2:(x==("__classdict__" : Str))=false) (d3:(y==("__debug__" : Str))=false) (d4:(y==("__classdict__" : Str))=false) (d5:(z==("__debug__" : Str))=false) (d6:(z==("__classdict__" : Str))=false) (hk2:sc.names.lookup ("tuple" : Str)=some .globalImplicit) :
  EvIs cx n sc Γ σ (.BinOp (.Tuple [.Subscript (.Name x p1) (.Constant (.int 0) k0 p2) p3] kt pt) .Add (.Call (.Name "tuple" p4) [.ListComp (.Subscript (.Name z p5) (.Name y p6) p7) [⟨.Name y p8,.Subscript (.Name x p9) (.Slice (some (.Constant (.int 1) k1 pa)) none none pb) pc,[],0⟩] csc pd] [] pe) pf) (T (lkey lots d).at):=by
 have zk:d.kids.length≤999999:=Nat.le_trans hz (by decide)
 refine Ev_bn (EvIs_tup (.cons (Ev_sb (EvIs_loc g l1 d1 d2) EvIs_int (P2_op zk .rfl)) .nil)) (EvIs_tups (hs:=by intro _ _;rfl) (f:=fun k=>lots.getD k 0) P hok hy (Ev_kids (EvIs_loc g l1 d1 d2) zk) (Nat.le_succ_of_le zk) (fun k hkm=>?_) (hk:=hk2)) (P2_cons (by rw [List.length_map];exact zk) .rfl)
 refine Ev_sb (EvIs_loc (v:=nats lots) (by show (if z=y then _ else _)=_;rw [if_neg hzy];exact gl) l3 d5 d6) (EvIs_loc (by show (if y=y then _ else _)=_;rw [if_pos rfl]) l2 d3 d4) (P2_itemN rfl (Nat.le_trans hl (by decide)) (getD_at 0 (hk k hkm)) .rfl)
end
noncomputable def clB:List Stmt:=bodyOf (stAt (defBody (defAt 17)) 1)
section
variable {cx:Cx} {a:Ads} {n:Nat} {sc csc:Scope} {Γ:Str→Option V} {σ:Store} {rows:List Nd} {ps:List Pr} {lots:List Nat}
theorem enumV_get {l:List V} {i k:Nat} {v:V} (h:(enumV k l)[i]? = some v):∃ u,l[i]? = some u∧v=.tup [.int ((k+i:Nat):Int),u]:=by
 induction l generalizing i k with
 | nil=>exact nomatch (show (Option.none:Option V)=some _ from h)
 | cons u l ih=>
  cases i with
  | zero=>exact ⟨u,rfl,(Option.some.inj h).symm⟩
  | succ i=>
   obtain ⟨w,h1,h2⟩:=ih (k:=k+1) h
   exact ⟨w,h1,by rw [h2,show k+1+i=k+(i+1) by omega]⟩
theorem ClR.step1 {kd td:Addr} {σ₁:Store} {i:Nat} {known:List (Nd×Nat)} {told:List Pr} (C:ClR rows ps lots kd td σ i σ₁ known told) (R:RowsOk rows) (hl:lots.length=rows.length) {d:Nd} (hd:rows[i]? = some d) {m:Nat} (hm:ag known (lkey lots d)=some m) (hc:∀ (j:Nat) e,rows[j]? = some e→lkey lots e=lkey lots d→Told rows ps j i) :
  ClR rows ps lots kd td σ (i+1) (σ₁.set td (.lst (prs (told++[(m,i)])))) known (told++[(m,i)]):=by
 obtain ⟨e,h1,h2⟩:=C.K.mem _ _ hm
 refine ⟨(Store.set_ne _ C.ne).trans C.k,Store.set_self _ _,C.ne,⟨C.K.keys,Nat.le_succ_of_le C.K.size,C.K.mem,fun j e' hj he=>?_⟩,fun p hp=>?_,fun p hp=>List.mem_append_left _ (C.sub p hp),by rw [List.length_append,C.size];rfl,fun x hx=>⟨(Store.set_ne _ (C.rest x hx).2.2).trans (C.rest x hx).1,(C.rest x hx).2⟩⟩
 ·by_cases q:j=i
  ·subst q
   rw [hd] at he;(injection he with he;subst he)
   exact ⟨m,hm,List.mem_append_right _ (List.mem_singleton.mpr rfl)⟩
  ·obtain ⟨m',a1,a2⟩:=C.K.all j e' (Nat.lt_of_le_of_ne (Nat.le_of_lt_succ hj) q) he
   exact ⟨m',a1,List.mem_append_left _ a2⟩
 ·rcases List.mem_append.mp hp with z|z
  ·exact C.ok p z
  ·rw [List.mem_singleton.mp z]
   exact ⟨(List.getElem?_eq_some_iff.mp h1).1,(List.getElem?_eq_some_iff.mp hd).1,hc m e h1 h2⟩
theorem ClR.step0 {kd td:Addr} {σ₁:Store} {i:Nat} {known:List (Nd×Nat)} {told:List Pr} (C:ClR rows ps lots kd td σ i σ₁ known told) {d:Nd} (hd:rows[i]? = some d) (hm:ag known (lkey lots d)=none) :
  ClR rows ps lots kd td σ (i+1) ((σ₁.set kd (.dT (encN (ap known (lkey lots d) i)))).set td (.lst (prs (told++[(i,i)])))) (ap known (lkey lots d) i) (told++[(i,i)]):=by
 have hi:=(List.getElem?_eq_some_iff.mp hd).1
 refine ⟨(Store.set_ne _ C.ne).trans (Store.set_self _ _),Store.set_self _ _,C.ne,⟨ap_nodup C.K.keys,?_,fun e m h=>?_,fun j e' hj he=>?_⟩,fun p hp=>?_,fun p hp=>List.mem_append_left _ (C.sub p hp),by rw [List.length_append,C.size];rfl,fun x hx=>⟨(Store.set_ne _ (C.rest x hx).2.2).trans ((Store.set_ne _ (C.rest x hx).2.1).trans (C.rest x hx).1),(C.rest x hx).2⟩⟩
 ·rw [ap_none hm,List.length_append];exact Nat.succ_le_succ C.K.size
 ·rw [ag_ap] at h
  by_cases q:e=lkey lots d
  ·rw [if_pos q] at h;(injection h with h;subst h);exact ⟨d,hd,q.symm⟩
  ·rw [if_neg q] at h;exact C.K.mem e m h
 ·rw [ag_ap]
  by_cases q:j=i
  ·subst q
   rw [hd] at he;(injection he with he;subst he)
   exact ⟨j,if_pos rfl,List.mem_append_right _ (List.mem_singleton.mpr rfl)⟩
  ·obtain ⟨m',a1,a2⟩:=C.K.all j e' (Nat.lt_of_le_of_ne (Nat.le_of_lt_succ hj) q) he
   have:lkey lots e'≠lkey lots d:=fun z=>by rw [z,hm] at a1;contradiction
   exact ⟨m',by rw [if_neg this];exact a1,List.mem_append_left _ a2⟩
 ·rcases List.mem_append.mp hp with z|z
  ·exact C.ok p z
  ·rw [List.mem_singleton.mp z]
   exact ⟨hi,hi,fun E hE o_ o_=>hE.refl i⟩
theorem lkey_told (R:RowsOk rows) (L:LInv rows ps lots) {i j:Nat} {d e:Nd} (hd:rows[i]? = some d) (he:rows[j]? = some e) (h:lkey lots e=lkey lots d):Told rows ps j i:=fun E hE hc hp=>by
 refine hc j i e d he hd (show (lkey lots e).op=(lkey lots d).op by rw [h]) ⟨?_,fun k x y hx hy=>?_⟩
 ·have:=congrArg (fun d:Nd=>d.kids.length) h
  simpa [lkey] using this
 ·have h1:(lkey lots e).kids[k]? = (lkey lots d).kids[k]?:=by rw [h]
  unfold lkey at h1
  rw [List.getElem?_map,List.getElem?_map,hx,hy] at h1
  have h1:lots.getD x 0=lots.getD y 0:=Option.some.inj h1
  have hxl:x<lots.length:=by rw [L.len];exact Nat.lt_trans (R.kids j e he x (List.mem_of_getElem? hx)) (List.getElem?_eq_some_iff.mp he).1
  have hyl:y<lots.length:=by rw [L.len];exact Nat.lt_trans (R.kids i d hd y (List.mem_of_getElem? hy)) (List.getElem?_eq_some_iff.mp hd).1
  have a1:=L.snd x _ (getD_at 0 hxl) E hE hc hp
  have a2:=L.snd y _ (getD_at 0 hyl) E hE hc hp
  rw [h1] at a1
  exact hE.trans a1 (hE.symm a2)
theorem cl_rows (P:Px cx a) {Q:Fl→(Str→Option V)→Store→Prop} {rest:List Stmt} {kd td:Addr} {σ₁:Store} (R:RowsOk rows) (L:LInv rows ps lots) (h6:rows.length≤6) (hps:ps.length≤2) (g:ClΓ rows ps lots lots Γ) (gk:Γ ("known" : Str)=some (.ref kd)) (gt:Γ ("told" : Str)=some (.ref td)) (C:ClR rows ps lots kd td σ 0 σ₁ [] ps)
  (q:∀ Γ₂ σ₂ known told,ClΓ rows ps lots lots Γ₂→Γ₂ ("told" : Str)=some (.ref td)→ClR rows ps lots kd td σ rows.length σ₂ known told→Exs cx (n+1) (defScope (defAt 17)) Γ₂ σ₂ rest Q) :
  Exs cx (n+1) (defScope (defAt 17)) Γ σ₁ ((clB.drop 1).take 1++rest) Q:=by
 conv=>arg 6;whnf
 have hl:=L.len
 refine Exs_cons (Ex_for (fun o_=>CRi rows ps lots kd td σ) (EvI_enum (by rfl) P.g_enumerate rfl ((EvIs_loc g.g0).ev ⟨_,rfl,⟨g,gk,gt,_,_,C⟩,?_,?_⟩)))
 ·rintro i Γ₁ σ₂ v hv ⟨⟨g0,g1,g2,g3⟩,gk,gt,known,told,C⟩
  obtain ⟨u,hu,rfl⟩:=enumV_get hv
  obtain ⟨d,hd,rfl⟩:=At_map hu
  have hi:=(List.getElem?_eq_some_iff.mp hd).1
  have har:=R.ar d (List.mem_of_getElem? hd)
  have zk:d.kids.length≤2:=by rw [har.2];exact arity_le _
  have hlt:∀ k∈d.kids,k<lots.length:=fun k hk=>by rw [hl];exact Nat.lt_trans (R.kids i d hd k hk) hi
  rw [Nat.zero_add]
  refine As_tuple (c:=.tup [.int (i:Nat),T d.at]) rfl rfl rfl ⟨rfl,As_name (.inl (by rfl)) ⟨rfl,As_name (.inl (by rfl)) (Exs_wk fun Q' hq=>?_)⟩⟩
  refine Exs_name (EvIs.ev (EvIs_lkey (lots:=lots) P (by decide +kernel) (by rfl) rfl (by show (if _ then _ else _)=_;rw [if_pos (by rfl)];exact g2) (by decide) hlt zk (by rw [hl];exact Nat.le_trans (by assumption) (by decide)) (.inl (by rfl)) (by first | exact .inl (by rfl) | exact .inr (.inl (by rfl))) (by first | exact .inr (.inl (by rfl)) | exact .inr (.inr (by rfl))) (by decide) (by decide) (by decide) (by decide) (by decide) (by decide) (by rfl)) ?_)
  have ztl:(prs told).length≤999999:=by unfold prs;rw [List.length_map,C.size];omega
  have zkl:(encN known).length≤1000000:=by rw [encN_len];have:=C.K.size;omega
  have happ:∀ m:Nat,V.lst (prs told++[.tup [.int (m:Nat),.int (i:Nat)]])=.lst (prs (told++[(m,i)])):=fun m=>by unfold prs;rw [List.map_append];rfl
  have hto:∀ (j:Nat) e,rows[j]? = some e→lkey lots e=lkey lots d→Told rows ps j i:=fun j e he h=>lkey_told R L hd he h
  rcases hm:ag known (lkey lots d) with _|m
  ·
   refine Exs_expr (Ev_meth (EvIs.ev (EvIs_loc gt) ⟨_,Mt_append C.t,keeps_builtin _,⟨rfl,Ev_tuple ⟨rfl,Ev_bm (EvIs_loc gk) (Mt_setdefT C.k) (.cons (EvIs_loc rfl) (.cons (EvIs_loc rfl) .nil)) (Cl_setdefT C.k zkl (fun v hv=>?_) fun hv=>⟨rfl,EvIs.ev (EvIs_loc rfl) ⟨Nat.le_of_ble_eq_true rfl,?_⟩⟩)⟩⟩⟩))
   ·rw [dget_encN,hm] at hv;contradiction
   ·rw [dput_encN C.K.keys]
    have ht':(σ₂.set kd (.dT (encN (ap known (lkey lots d) i)))) td=some (.lst (prs told)):=(Store.set_ne _ (Ne.symm C.ne)).trans C.t
    refine Cl_append ht' ztl ⟨rfl,Exs_nil ?_⟩
    rw [happ]
    exact hq ⟨⟨g0,g1,g2,g3⟩,gk,gt,_,_,C.step0 hd hm⟩
  ·
   refine Exs_expr (Ev_bm (EvIs_loc gt) (Mt_append C.t) (.cons (v:=.tup [.int (m:Nat),.int (i:Nat)]) (EvIs_tup (.cons (Ev_bm (EvIs_loc gk) (Mt_setdefT C.k) (.cons (EvIs_loc rfl) (.cons (EvIs_loc rfl) .nil)) (Cl_setdefT C.k zkl (fun v hv=>?_) fun hv=>?_)) (.cons (EvIs_loc rfl) .nil))) .nil) (Cl_append C.t ztl ⟨rfl,Exs_nil ?_⟩))
   ·rw [dget_encN,hm] at hv;(injection hv with hv;subst hv);exact .rfl
   ·rw [dget_encN,hm] at hv;contradiction
   ·rw [happ]
    exact hq ⟨⟨g0,g1,g2,g3⟩,gk,gt,known,_,C.step1 R hl hd hm hto⟩
 ·rintro Γ₁ σ₂ ⟨g,gk,gt,known,told,C⟩
  rw [enumV_length,List.length_map] at C
  exact q Γ₁ σ₂ known told g gt C
end
inductive CPi (rows:List Nd) (ps:List Pr) (lots:List Nat) (told:List Pr) (σ:Store) (j:Nat) (Γ:Str→Option V) (σ₁:Store):Prop
 | mk (e:σ₁=σ) (cur:List Nat) (g:ClΓ rows ps cur lots Γ) (L:LInv rows ps cur) (S:Pass lots cur (told.take j))
inductive CFi (rows:List Nd) (ps:List Pr) (lots before:List Nat) (H:HS) (fd:Addr) (σ:Store) (i:Nat) (Γ:Str→Option V) (σ₁:Store):Prop
 | mk (g:ClΓ rows ps lots before Γ) (gf:Γ ("found" : Str)=some (.ref fd)) (FK:List (Nd×Nat)) (F:σ₁ fd=some (.dT (encN FK))) (hn:(FK.map (·.1)).Nodup) (hz:FK.length≤i) (hm:∀ e c,ag FK e=some c↔∃ (j:Nat) (d:Nd),j<i∧rows[j]? = some d∧rt H.par j=c∧e=cn H.par d) (hr:∀ x,σ x≠none→σ₁ x=σ x∧x≠fd)
section
variable {cx:Cx} {a:Ads} {n:Nat} {sc csc:Scope} {Γ:Str→Option V} {σ:Store} {rows:List Nd} {ps:List Pr} {lots:List Nat}
theorem lmerge_map (l:List Nat) (low high:Nat):(vi l).map (fun v=>V.int ((if natOf v=high then low else natOf v:Nat)))=vi (lmerge l low high):=by
 delta vi lmerge;rw [List.map_map,List.map_map];rfl
theorem cl_pass (P:Px cx a) {Q:Fl→(Str→Option V)→Store→Prop} {rest:List Stmt} {told:List Pr} (L:LInv rows ps lots) (h6:rows.length≤6) (g:ClΓ rows ps lots lots Γ) (gt:Γ ("told" : Str)=some (.lst (prs told))) (hok:∀ p∈told,p.1<rows.length∧p.2<rows.length∧Told rows ps p.1 p.2) (hz:told.length≤999)
  (q:∀ Γ₂ cur,ClΓ rows ps cur lots Γ₂→LInv rows ps cur→Pass lots cur told→Exs cx (n+1) (defScope (defAt 17)) Γ₂ σ rest Q) :
  Exs cx (n+1) (defScope (defAt 17)) Γ σ ((clB.drop 2).take 1++rest) Q:=by
 conv=>arg 6;whnf
 refine Exs_cons (Ex_for (fun o_=>CPi rows ps lots told σ) (EvI_seq ((EvIs_loc gt).ev ⟨_,rfl,⟨rfl,lots,g,L,Pass.start⟩,?_,?_⟩)))
 ·rintro j Γ₁ σ₂ v hv ⟨rfl,cur,⟨g0,g1,g2,g3⟩,L,S⟩
  delta prs at hv
  rw [List.getElem?_map,Option.map_eq_some_iff] at hv
  obtain ⟨⟨x,y⟩,hxy,rfl⟩:=hv
  obtain ⟨hx,hy,htl⟩:=hok _ (List.mem_of_getElem? hxy)
  have hx:x<rows.length:=hx
  have hy:y<rows.length:=hy
  have zc:cur.length≤1000000:=by rw [L.len];exact Nat.le_trans (by assumption) (by decide)
  have cx':=getD_at 0 (L.len▸hx:x<cur.length)
  have cy':=getD_at 0 (L.len▸hy:y<cur.length)
  generalize cur.getD x 0=lx at cx'
  generalize cur.getD y 0=ly at cy'
  refine As_tuple (c:=T (pairAt (x,y))) (l:=[.int (x:Nat),.int (y:Nat)]) rfl rfl rfl ⟨rfl,As_name (.inl (by rfl)) ⟨rfl,As_name (.inl (by rfl)) ?_⟩⟩
  refine Exs_cons (Ex_tuple (Ev_b P.g_sorted (.cons (EvIs_lst (.cons (Ev_sb (EvIs_loc (v:=nats cur) g2) (EvIs_loc rfl) (P2_itemN rfl zc cx' .rfl)) (.cons (Ev_sb (EvIs_loc (v:=nats cur) g2) (EvIs_loc rfl) (P2_itemN rfl zc cy' .rfl)) .nil))) .nil) (Cl_sortedN (l:=[lx,ly]) rfl (Nat.le_of_ble_eq_true rfl) fun out hp hs=>?_)) (hw:=by intro _ _;rfl))
  have ho:=perm_two hp hs
  subst ho
  clear hp hs
  obtain ⟨low,high,elo,ehi,hle,hor⟩:∃ low high,min lx ly=low∧max lx ly=high∧low≤high∧(low=lx∧high=ly∨low=ly∧high=lx):=by
   rcases Nat.le_total lx ly with z|z
   ·exact ⟨_,_,Nat.min_eq_left z,Nat.max_eq_right z,z,.inl ⟨rfl,rfl⟩⟩
   ·exact ⟨_,_,Nat.min_eq_right z,Nat.max_eq_left z,z,.inr ⟨rfl,rfl⟩⟩
  rw [elo,ehi]
  refine As_tuple (l:=[.int (low:Nat),.int (high:Nat)]) rfl rfl rfl ⟨rfl,As_name (by first | exact .inl (by rfl) | exact .inr (by rfl)) ⟨rfl,As_name (by first | exact .inl (by rfl) | exact .inr (by rfl)) ?_⟩⟩
  refine Exs_name (Ev_comp (by decide +kernel) (by rfl) (EvI_seq (EvIs.ev (EvIs_loc (v:=nats cur) g2) ⟨vi cur,rfl,_,Turns_map (fun v=>V.int ((if natOf v=high then low else natOf v:Nat))) (by rw [vi_len];exact zc) (fun v hv=>?_),.inl ?_⟩)))
  ·obtain ⟨c,hc,rfl⟩:=mem_vi hv
   refine Ev_if (Te_cm (EvIs_loc rfl) (EvIs_loc rfl) (P2_eqi (.of ⟨fun e=>EvIs.ev (EvIs_loc rfl) ⟨?_,rfl⟩,fun e=>EvIs.ev (EvIs_loc rfl) ⟨?_,rfl⟩⟩)))
   ·have:c=high:=Int.ofNat_inj.mp (of_decide_eq_true e)
    show _=V.int ((if ((c:Nat):Int).toNat=high then low else _:Nat))
    rw [Int.toNat_natCast,if_pos this]
   ·have:¬ c=high:=fun z=>by rw [z,decide_eq_true rfl] at e;contradiction
    show _=V.int ((if ((c:Nat):Int).toNat=high then low else ((c:Nat):Int).toNat:Nat))
    rw [Int.toNat_natCast,if_neg this]
  ·rw [lmerge_map]
   refine Exs_nil ⟨rfl,lmerge cur low high,⟨g0,g1,rfl,g3⟩,L.merge cx' cy' hle hor htl,?_⟩
   rw [List.take_add_one,hxy]
   exact S.step cx' cy' hle hor
 ·rintro Γ₁ σ₂ ⟨rfl,cur,g,L,S⟩
  rw [show (prs told).length=told.length by delta prs;rw [List.length_map],List.take_length] at S
  exact q Γ₁ cur g L S
theorem cl_found (P:Px cx a) {Q:V→Store→Prop} {H:HS} (O:SideOut rows ps H) (h6:rows.length≤6) {before:List Nat} (g:ClΓ rows ps ((List.range rows.length).map (rt H.par)) before Γ)
  (q:∀ FK σ',FKof H FK→(∀ x,σ x≠none→σ' x=σ x)→Q (.tup [nats ((List.range rows.length).map (rt H.par)),.dT (encN FK)]) σ') :
  Exs cx (n+1) (defScope (defAt 17)) Γ σ ((defBody (defAt 17)).drop 2) (ValP Q):=by
 conv=>arg 6;whnf
 have R:=O.ok
 generalize hlots:(List.range rows.length).map (rt H.par)=lots at g q
 have hl:lots.length=rows.length:=by rw [← hlots,List.length_map,List.length_range]
 have hat:∀ {i:Nat},i<rows.length→lots[i]? = some (rt H.par i):=fun {i} hi=>by rw [← hlots,List.getElem?_map,List.getElem?_range hi];rfl
 have hcn:∀ {i:Nat} {d:Nd},rows[i]? = some d→lkey lots d=cn H.par d:=fun {i d} hd=>by
  skip
  refine congrArg _ (List.map_congr_left fun k hk=>?_)
  have hk':k<rows.length:=Nat.lt_trans (R.kids i d hd k hk) (List.getElem?_eq_some_iff.mp hd).1
  have h1:=getD_at 0 (hl▸hk':k<lots.length)
  rw [hat hk'] at h1
  exact (Option.some.inj h1).symm
 clear hlots
 refine Exs_name (Ev_dict0T fun fd hfd=>?_)
 refine Exs_cons (Ex_for (fun o_=>CFi rows ps lots before H fd σ)
  (EvI_enum (by rfl) P.g_enumerate rfl (EvIs.ev (EvIs_loc g.g0) ⟨_,rfl,⟨⟨g.g0,g.g1,g.g2,g.g3⟩,rfl,[],Store.set_self _ _,.nil,Nat.le_refl _,fun e c=>⟨fun z=>(by contradiction),fun ⟨_,_,z,_⟩=>(by contradiction)⟩,fun x hx=>⟨Store.set_ne _ fun z=>hx (by rw [z];exact hfd),fun z=>hx (by rw [z];exact hfd)⟩⟩,?_,?_⟩)))
 ·rintro i Γ₁ σ₂ v hv ⟨⟨g0,g1,g2,g3⟩,gf,FK,F,hn,hz,hm,hr⟩
  obtain ⟨u,hu,rfl⟩:=enumV_get hv
  obtain ⟨d,hd,rfl⟩:=At_map hu
  have hi:=(List.getElem?_eq_some_iff.mp hd).1
  have har:=R.ar d (List.mem_of_getElem? hd)
  have zk:d.kids.length≤2:=by rw [har.2];exact arity_le _
  have hlt:∀ k∈d.kids,k<lots.length:=fun k hk=>by rw [hl];exact Nat.lt_trans (R.kids i d hd k hk) hi
  rw [Nat.zero_add]
  refine As_tuple (c:=.tup [.int (i:Nat),T d.at]) rfl rfl rfl ⟨rfl,As_name (.inl (by rfl)) ⟨rfl,As_name (.inl (by rfl)) ?_⟩⟩
  refine Exs_cons (Ex_sub (EvIs.ev (Ev_sb (EvIs_loc (v:=nats lots) g2) (EvIs_loc rfl) (P2_itemN rfl (by rw [hl];exact Nat.le_trans (by assumption) (by decide)) (hat hi) .rfl)) (EvIs.ev (EvIs_loc gf) (EvIs.ev (EvIs_lkey (lots:=lots) P (by decide +kernel) (by rfl) rfl (by show (if _ then _ else _)=_;rw [if_pos (by rfl)];exact g2) (by decide) hlt zk (by rw [hl];exact Nat.le_trans (by assumption) (by decide)) (.inl (by rfl)) (by first | exact .inl (by rfl) | exact .inr (.inl (by rfl))) (by first | exact .inr (.inl (by rfl)) | exact .inr (.inr (by rfl))) (by decide) (by decide) (by decide) (by decide) (by decide) (by decide) (by rfl)) ⟨_,PS_T F (by rw [encN_len];omega),Exs_nil ?_⟩))))
  rw [dput_encN hn,hcn hd]
  refine ⟨⟨g0,g1,g2,g3⟩,gf,ap FK (cn H.par d) (rt H.par i),Store.set_self _ _,ap_nodup hn,?_,fun e c=>?_,fun x hx=>⟨(Store.set_ne _ (hr x hx).2).trans (hr x hx).1,(hr x hx).2⟩⟩
  ·rcases e:ag FK (cn H.par d) with _|u
   ·rw [ap_none e,List.length_append];exact Nat.succ_le_succ hz
   ·
    have:=congrArg List.length (ap_keys (v:=rt H.par i) e)
    rw [List.length_map,List.length_map] at this
    rw [this];exact Nat.le_succ_of_le hz
  ·rw [ag_ap]
   by_cases q:e=cn H.par d
   ·rw [if_pos q]
    constructor
    ·intro h;exact ⟨i,d,Nat.lt_succ_self i,hd,Option.some.inj h,q⟩
    ·rintro ⟨j,d',_,hd',hc,he⟩
     rw [← hc]
     exact congrArg some (O.side.I.alike_eq O.side.w (by rw [O.nodes];exact hd) (by rw [O.nodes];exact hd') (q.symm.trans he))
   ·rw [if_neg q,hm]
    constructor
    ·rintro ⟨j,d',h1,h2⟩;exact ⟨j,d',Nat.lt_succ_of_lt h1,h2⟩
    ·rintro ⟨j,d',h1,h2,h3,h4⟩
     refine ⟨j,d',Nat.lt_of_le_of_ne (Nat.le_of_lt_succ h1) fun z=>?_,h2,h3,h4⟩
     subst z
     rw [hd] at h2;(injection h2 with h2;subst h2)
     exact q h4
 ·rintro Γ₁ σ₂ ⟨g,gf,FK,F,hn,hz,hm,hr⟩
  rw [enumV_length,List.length_map] at hz hm
  refine Exs.freeze gf (by rfl) F (Exs_ret (EvIs.ev (EvIs_tup (.cons (EvIs_loc (v:=nats lots) g.g2) (.cons (EvIs_loc rfl) .nil))) (q FK _ ⟨hn,Nat.le_trans hz h6,fun e c=>?_⟩ fun x hx=>?_)))
  ·rw [hm]
   constructor
   ·rintro ⟨j,d,_,h2,h3,h4⟩;exact ⟨j,d,by rw [O.nodes];exact h2,h3,h4⟩
   ·rintro ⟨j,d,h2,h3,h4⟩
    rw [O.nodes] at h2
    exact ⟨j,d,(List.getElem?_eq_some_iff.mp h2).1,h2,h3,h4⟩
  ·exact (if_neg (hr x hx).2).trans (hr x hx).1
end
section
variable {cx:Cx} {a:Ads} {n:Nat} {sc csc:Scope} {Γ:Str→Option V} {σ:Store} {rows:List Nd} {ps:List Pr}
theorem closed (P:Px cx a) {Q:V→Store→Prop} {H:HS} (O:SideOut rows ps H)
  (q:∀ FK σ',FKof H FK→(∀ x,σ x≠none→σ' x=σ x)→Q (.tup [nats ((List.range rows.length).map (rt H.par)),.dT (encN FK)]) σ'):Cc cx (n+2) σ (.ref a.f_closed) [nds rows,.lst (prs ps)] Q:=by
 refine P.f_closed.go rfl ?_
 have hb:defBody (defAt 17)=stAt (defBody (defAt 17)) 0::stAt (defBody (defAt 17)) 1::(defBody (defAt 17)).drop 2:=by rfl
 rw [hb]
 clear hb
 have h6:rows.length≤6:=by rw [← O.nodes];exact O.side.n
 have zr:(rows.map fun d=>T d.at).length≤1000000:=by rw [List.length_map];exact Nat.le_trans (by assumption) (by decide)
 conv=>arg 6;arg 1;whnf
 refine Exs_cons (Ex_tuple (Ev_tuple ⟨rfl,Ev_listrange (hp:=by rfl) (hk:=by rfl) (hk2:=by rfl) P (Ev_b P.g_len (.cons (EvIs_loc rfl) .nil) (Cl_len (l:=rows.map fun d=>T d.at) (c:=nds rows) rfl rfl zr ⟨rows.length,by rw [List.length_map],by exact Nat.le_trans (by assumption) (by decide),rfl,EvIs.ev (EvIs_lst .nil) ⟨Nat.le_of_ble_eq_true rfl,?_⟩⟩))⟩) (hw:=by intro env e;cases env;dsimp only at e;cases e;rfl))
 refine As_tuple (l:=[nats (List.range rows.length),.lst []]) rfl rfl rfl ⟨rfl,As_name (by first | exact .inl (by rfl) | exact .inr (by rfl)) ⟨rfl,As_name (by first | exact .inl (by rfl) | exact .inr (by rfl)) ?_⟩⟩
 generalize hΓ:upd (upd _ _ _) _ _=Γ
 have g:ClΓ rows ps (List.range rows.length) [] Γ:=by subst hΓ;exact ⟨rfl,rfl,rfl,rfl⟩
 clear hΓ
 show Exs cx (n+1) _ Γ _ (stAt (defBody (defAt 17)) 1::(defBody (defAt 17)).drop 2) _
 conv=>arg 6;arg 1;whnf
 refine Exs_cons (Ex_while (ClW rows ps σ) _ ⟨List.range rows.length,[],g,LInv.start,fun e=>?_,rfl,fun o_ o_=>rfl⟩ ?_)
 ·have h0:rows.length=0:=by have:=congrArg List.length e;rwa [List.length_range] at this
  have hr:rows=[]:=List.eq_nil_of_length_eq_zero h0
  subst hr
  exact ⟨fun p hp=>absurd (O.pls p hp).1 (Nat.not_lt_zero _),fun i j d d' hi=>by contradiction⟩
 rintro m Γ₁ σ₁ ⟨lots,before,g,L,hcl,rfl,keep⟩
 have zl:lots.length≤1000000:=by rw [L.len];exact Nat.le_trans (by assumption) (by decide)
 have zp:(prs ps).length≤1000000:=by unfold prs;rw [List.length_map];have:=O.pn;exact Nat.le_trans (by assumption) (by decide)
 refine Te_cm (EvIs_loc (v:=nats lots) g.g2) (EvIs_loc (v:=nats before) g.g3) (P2_ne (nats_dat _) (nats_dat _) (Nat.le_trans (Nat.min_le_left _ _) (nats_depth _)) fun b hb=>.of ⟨fun hb1=>?_,fun hb0=>?_⟩)
 ·have hne:lots≠before:=fun z=>(hb.mp hb1) (by rw [z])
  rw [if_neg hne]
  clear hcl hb hb1 hne
  refine Exs_cons (Ex_swap (hs:=by intro _;rfl) (names:=["before", "known", "told"]) (allLoc (by decide +kernel)) (Ev_tuple ⟨rfl,Ev_ty P.g_list (.cons (EvIs_loc (v:=nats lots) g.g2) .nil) (Cl_list_of (c:=nats lots) (l:=vi lots) rfl rfl (by rw [vi_len];exact zl) (.inl ⟨rfl,Ev_dict0T fun kd hkd=>⟨rfl,Ev_ty P.g_list (.cons (EvIs_loc g.g1) .nil) (Cl_list_of (c:=.lst (prs ps)) (l:=prs ps) rfl rfl zp (.inr fun td htd=>⟨Nat.le_of_ble_eq_true rfl,_,_,rfl,rfl,rfl,?_⟩)) (keeps_type _)⟩⟩)) (keeps_type _)⟩) (hw:=by intro env e;cases env;dsimp only at e;cases e;rfl))
  have hne:kd≠td:=fun z=>by rw [← z,show (σ₁.set kd (.dT [])) kd=_ from Store.set_self _ _] at htd;contradiction
  have htd1:σ₁ td=none:=(Store.set_ne _ (Ne.symm hne)).symm.trans htd
  have hrest:∀ x,σ x≠none→((σ₁.set kd (.dT [])).set td (.lst (prs ps))) x=σ x∧x≠kd∧x≠td:=fun x hx=>by
   have n1:x≠kd:=fun z=>by rw [z] at hx;exact hx ((keep kd hx).symm.trans hkd)
   have n2:x≠td:=fun z=>by rw [z] at hx;exact hx ((keep td hx).symm.trans htd1)
   exact ⟨(Store.set_ne _ n2).trans ((Store.set_ne _ n1).trans (keep x hx)),n1,n2⟩
  have C:ClR rows ps lots kd td σ 0 ((σ₁.set kd (.dT [])).set td (.lst (prs ps))) [] ps:=⟨(Store.set_ne _ hne).trans (Store.set_self _ _),Store.set_self _ _,hne,⟨.nil,Nat.le_refl _,fun e m h=>(by contradiction),fun j d h=>(by contradiction)⟩,fun p hp=>⟨(O.pls p hp).1,(O.pls p hp).2,fun E o_ o_ h=>h p hp⟩,fun p hp=>hp,rfl,hrest⟩
  show Exs cx (n+1) (defScope (defAt 17)) (updL Γ₁ ["told", "known", "before"] [V.ref td,V.ref kd,nats lots]) _ ((clB.drop 1).take 1++((clB.drop 2).take 1++[])) _
  generalize hΓ:updL Γ₁ ["told", "known", "before"] [V.ref td,V.ref kd,nats lots]=Γ'
  have g':ClΓ rows ps lots lots Γ':=by subst hΓ;exact ⟨g.g0,g.g1,g.g2,rfl⟩
  have gk:Γ' ("known" : Str)=some (.ref kd):=by subst hΓ;rfl
  have gt':Γ' ("told" : Str)=some (.ref td):=by subst hΓ;rfl
  clear hΓ
  refine cl_rows (σ:=σ) P O.ok L h6 O.pn g' gk gt' C fun Γ₂ σ₂ known told g₂ gt C₂=>Exs.freeze gt (by rfl) C₂.t (cl_pass P L h6 ⟨g₂.g0,g₂.g1,g₂.g2,g₂.g3⟩ rfl C₂.ok (by rw [C₂.size];have:=O.pn;omega) fun Γ₃ cur g₃ L₃ S=>Exs_nil ⟨_,?_,cur,lots,g₃,L₃,fun e=>?_,rfl,fun x hx=>?_⟩)
  ·have hs:=sum_le S.len fun i c b h1 h2=>S.le i c b h1 h2
   by_cases e:cur=lots
   ·rw [if_pos e];exact Nat.succ_pos _
   ·rw [if_neg e];exact Nat.succ_lt_succ (hs.2 e)
  ·have hs:=S.same e
   subst e
   exact ⟨fun p hp=>hs p (C₂.sub p hp),C₂.K.cong O.ok L₃.len hs⟩
  ·exact (if_neg (C₂.rest x hx).2.2).trans (C₂.rest x hx).1
 ·have he:lots=before:=Classical.byContradiction fun z=>by
   have:=hb.mpr fun w=>z (nats_inj w)
   rw [hb0] at this;contradiction
  obtain ⟨h1,h2⟩:=hcl he
  have hlots:=closed_eq O L h1 h2
  exact cl_found P O h6 (before:=before) (hlots▸g) fun FK σ' F k=>q FK σ' F fun x hx=>(k x (by rw [keep x hx];exact hx)).trans (keep x hx)
end
inductive Sh (H1 H2:HS):Nat→Nat→Prop
 | mk (e1 e2:Nd) (c d:Nat) (h1:Kn H1 e1 c) (h2:Kn H2 e2 d) (ho:e1.op=e2.op) (hk:∀ p∈e1.kids.zip e2.kids,Sh H1 H2 p.1 p.2):Sh H1 H2 c d
noncomputable abbrev SM:=List (Pr×Unit)
noncomputable def encS (S:SM):List (List At×V):=S.map fun p=>(pairAt p.1,V.bool true)
theorem dget_encS (S:SM) (p:Pr):dget (encS S) (pairAt p)=(ag S p).map fun o_=>V.bool true:=dget_enc pairAt pairAt_inj (fun o_=>V.bool true) p S
theorem dput_encS {S:SM} (hn:(S.map (·.1)).Nodup) (p:Pr):dput (encS S) (pairAt p) (V.bool true)=encS (ap S p ()):=dput_enc pairAt pairAt_inj (fun o_=>V.bool true) p () hn
noncomputable def ShC (FK1 FK2:List (Nd×Nat)) (S:SM) (e1 e2:Nd):Prop:=∀ c d,ag FK1 e1=some c→ag FK2 e2=some d→e1.op=e2.op→(∀ p∈e1.kids.zip e2.kids,ag S p≠none)→ag S (c,d)≠none
structure ShP (H1 H2:HS) (FK1 FK2:List (Nd×Nat)) (σ:Store) (fd:Addr) (S0:SM) (D:Nd→Nd→Prop) (σ₁:Store) (S:SM):Prop where
 at_:σ₁ fd=some (.dT (encS S))
 keys:(S.map (·.1)).Nodup
 snd:∀ p,ag S p≠none→Sh H1 H2 p.1 p.2
 sub:∀ p,ag S p≠none→∃ e1 e2,ag FK1 e1=some p.1∧ag FK2 e2=some p.2
 le:S0.length≤S.length
 same:S.length=S0.length→S=S0∧∀ e1 e2,D e1 e2→ShC FK1 FK2 S0 e1 e2
 rest:∀ x,σ x≠none→σ₁ x=σ x∧x≠fd
section
variable {cx:Cx} {a:Ads} {n:Nat} {sc csc:Scope} {Γ:Str→Option V} {σ σ₁:Store} {H1 H2:HS} {FK1 FK2:List (Nd×Nat)} {fd:Addr} {S0 S:SM} {D D':Nd→Nd→Prop}
theorem ShP.weak (h:∀ e1 e2,D' e1 e2→D e1 e2) (g:ShP H1 H2 FK1 FK2 σ fd S0 D σ₁ S):ShP H1 H2 FK1 FK2 σ fd S0 D' σ₁ S:=
 { g with same:=fun z=>⟨(g.same z).1,fun e1 e2 hd=>(g.same z).2 e1 e2 (h _ _ hd)⟩ }
theorem ShP.size (g:ShP H1 H2 FK1 FK2 σ fd S0 D σ₁ S) (h1:FK1.length≤6) (h2:FK2.length≤6):S.length≤36:=by
 have hs:S.map (·.1) ⊆ (FK1.map (·.2)).flatMap fun c=>(FK2.map (·.2)).map fun d=>(c,d):=fun p hp=>by
  obtain ⟨e1,e2,a1,a2⟩:=g.sub p fun z=>absurd hp (ag_none.mp z)
  exact List.mem_flatMap.mpr ⟨p.1,List.mem_map.mpr ⟨_,ag_mem a1,rfl⟩,List.mem_map.mpr ⟨p.2,List.mem_map.mpr ⟨_,ag_mem a2,rfl⟩,rfl⟩⟩
 have:=g.keys.length_le_of_subset hs
 rw [List.length_map] at this
 refine Nat.le_trans this ?_
 have hl:∀ (l:List Nat) (m:List Nat),(l.flatMap fun c=>m.map fun d=>(c,d)).length=l.length*m.length:=fun l m=>by
  induction l with
  | nil=>exact (Nat.zero_mul _).symm
  | cons x l ih=>rw [List.flatMap_cons,List.length_append,ih,List.length_map,List.length_cons,Nat.succ_mul,Nat.add_comm]
 rw [hl,List.length_map,List.length_map]
 exact Nat.mul_le_mul h1 h2
theorem ap_same {S:SM} {p:Pr} (h:ag S p≠none):ap S p ()=S:=by
 induction S with
 | nil=>exact absurd rfl h
 | cons x r ih=>
  obtain ⟨k,u⟩:=x
  by_cases q:k=p
  ·rw [show ap ((k,u)::r) p ()=(k,())::r from if_pos q]
  ·rw [show ap ((k,u)::r) p ()=(k,u)::ap r p () from if_neg q,ih (by rwa [show ag ((k,u)::r) p=ag r p from if_neg q] at h)]
theorem ShP.skip (g:ShP H1 H2 FK1 FK2 σ fd S0 D σ₁ S) {e1 e2:Nd} (h:ShC FK1 FK2 S e1 e2):ShP H1 H2 FK1 FK2 σ fd S0 (fun x y=>D x y∨x=e1∧y=e2) σ₁ S:=
 { g with same:=fun z=>⟨(g.same z).1,fun x y hd=>by
   rcases hd with hd|⟨rfl,rfl⟩
   ·exact (g.same z).2 x y hd
   ·rw [← (g.same z).1];exact h⟩ }
theorem ShP.put (F1:FKof H1 FK1) (F2:FKof H2 FK2) (g:ShP H1 H2 FK1 FK2 σ fd S0 D σ₁ S) {e1 e2:Nd} {c d:Nat} (h1:ag FK1 e1=some c) (h2:ag FK2 e2=some d) (ho:e1.op=e2.op) (hk:∀ p∈e1.kids.zip e2.kids,ag S p≠none):ShP H1 H2 FK1 FK2 σ fd S0 (fun x y=>D x y∨x=e1∧y=e2) (σ₁.set fd (.dT (encS (ap S (c,d) ())))) (ap S (c,d) ()):=by
 have hsh:Sh H1 H2 c d:=.mk e1 e2 c d ((F1.mem _ _).mp h1) ((F2.mem _ _).mp h2) ho fun p hp=>g.snd p (hk p hp)
 have hag:∀ p,ag (ap S (c,d) ()) p≠none→p=(c,d)∨ag S p≠none:=fun p hp=>by
  rw [ag_ap] at hp
  by_cases q:p=(c,d)
  ·exact .inl q
  ·rw [if_neg q] at hp;exact .inr hp
 refine ⟨Store.set_self _ _,ap_nodup g.keys,fun p hp=>?_,fun p hp=>?_,?_,fun z=>?_,fun x hx=>⟨(Store.set_ne _ (g.rest x hx).2).trans (g.rest x hx).1,(g.rest x hx).2⟩⟩
 ·rcases hag p hp with e|e
  ·rw [e];exact hsh
  ·exact g.snd p e
 ·rcases hag p hp with e|e
  ·rw [e];exact ⟨e1,e2,h1,h2⟩
  ·exact g.sub p e
 ·by_cases e:ag S (c,d)=none
  ·rw [ap_none e,List.length_append];exact Nat.le_succ_of_le g.le
  ·rw [ap_same e];exact g.le
 ·by_cases e:ag S (c,d)=none
  ·rw [ap_none e,List.length_append] at z
   have:=g.le
   have z:S.length+1=S0.length:=z
   omega
  ·rw [ap_same e] at z ⊢
   refine ⟨(g.same z).1,fun x y hd=>?_⟩
   rcases hd with hd|⟨rfl,rfl⟩
   ·exact (g.same z).2 x y hd
   ·intro c' d' k1 k2 _ _
    rw [h1] at k1;rw [h2] at k2
    (injection k1 with k1;subst k1);(injection k2 with k2;subst k2)
    rw [← (g.same z).1];exact e
end
set_option genInjectivity false in
structure ShK where
 (H1 H2:HS)
 (FK1 FK2:List (Nd×Nat))
 (σ:Store)
 (fd:Addr)
structure ShΓ (K:ShK) (mm:Int) (Γ:Str→Option V):Prop where
 g0:Γ ("known" : Str)=some (.dT (encN K.FK1))
 g1:Γ ("other" : Str)=some (.dT (encN K.FK2))
 g2:Γ ("found" : Str)=some (.ref K.fd)
 g3:Γ ("many" : Str)=some (.int mm)
noncomputable def ShK.P (K:ShK) (S0:SM) (D:DD) (σ₁:Store) (S:SM):Prop:=ShP K.H1 K.H2 K.FK1 K.FK2 K.σ K.fd S0 D σ₁ S
noncomputable def SD1 (K:ShK) (i:Nat):DD:=fun x y=>x∈(K.FK1.map (·.1)).take i∧y∈K.FK2.map (·.1)
noncomputable def SD2 (K:ShK) (i:Nat) (e1:Nd) (j:Nat):DD:=fun x y=>SD1 K i x y∨x=e1∧y∈(K.FK2.map (·.1)).take j
theorem SD2_step {K:ShK} {i j:Nat} {e1 e2 x y:Nd} {d:Nat} (h:K.FK2[j]? = some (e2,d)) (z:SD2 K i e1 (j+1) x y):D3 (SD2 K i e1 j) e1 e2 x y:=by
 rcases z with z|⟨h1,h2⟩
 ·exact .inl (.inl z)
 ·rw [List.take_add_one,List.getElem?_map,h] at h2
  exact (List.mem_append.mp h2).elim (fun h2=>.inl (.inr ⟨h1,h2⟩)) fun h2=>.inr ⟨h1,List.mem_singleton.mp h2⟩
theorem SD1_step {K:ShK} {i:Nat} {e1 x y:Nd} {c:Nat} (h:K.FK1[i]? = some (e1,c)) (z:SD1 K (i+1) x y):SD2 K i e1 K.FK2.length x y:=by
 obtain ⟨h1,h2⟩:=z
 rw [List.take_add_one,List.getElem?_map,h] at h1
 refine (List.mem_append.mp h1).elim (fun h1=>.inl ⟨h1,h2⟩) fun h1=>.inr ⟨List.mem_singleton.mp h1,?_⟩
 rw [← List.length_map (f:=(·.1)) (as:=K.FK2),List.take_length];exact h2
inductive ShW (K:ShK) (m:Nat) (Γ:Str→Option V) (σ₁:Store):Prop
 | mk (S:SM) (mm:Int) (g:ShΓ K mm Γ) (G:K.P S (fun o_ o_=>False) σ₁ S) (h1 : -1≤mm) (h2:mm≤S.length) (h3:(S.length:Int)≤mm→∀ e1 e2,ShC K.FK1 K.FK2 S e1 e2) (h4:m=38 - (mm+1).toNat)
inductive ShI (K:ShK) (S0:SM) (mm:Int) (i:Nat) (Γ:Str→Option V) (σ₁:Store):Prop
 | mk (S:SM) (g:ShΓ K mm Γ) (G:K.P S0 (SD1 K i) σ₁ S)
inductive ShJ (K:ShK) (S0:SM) (mm:Int) (i:Nat) (e1:Nd) (j:Nat) (Γ:Str→Option V) (σ₁:Store):Prop
 | mk (S:SM) (g:ShΓ K mm Γ) (g4:Γ ("node" : Str)=some (T e1.at)) (G:K.P S0 (SD2 K i e1 j) σ₁ S)
theorem keysV_encN (FK:List (Nd×Nat)):keysV (encN FK)=FK.map fun p=>T p.1.at:=by delta keysV encN;rw [List.map_map];rfl
section
variable {cx:Cx} {a:Ads} {n:Nat} {sc csc:Scope} {Γ:Str→Option V} {σ:Store} {Q:V→Store→Prop} {H1 H2:HS} {FK1 FK2:List (Nd×Nat)}
theorem FKof.kids {H:HS} {FK:List (Nd×Nat)} (s:Side H) (F:FKof H FK) {e:Nd} {c:Nat} (hp:(e,c)∈FK):e.kids.length≤999999:=by
 obtain ⟨i,d,hi,hr,hd⟩:=(F.mem _ _).mp (ag_of_mem F.keys hp)
 exact Kn_kids s.I ⟨i,d,hi,hr,hd⟩
theorem encS_len {S:SM} (h:S.length≤36):(encS S).length≤1000000:=by delta encS;rw [List.length_map];exact Nat.le_trans h (by decide)
theorem zip_sh (l:List Nat) {l':List Nat} (h:l.length≤999999):(prs (l.zip l')).length≤1000000:=by
 delta prs
 rw [List.length_map,List.length_zip]
 exact Nat.le_trans (Nat.min_le_left _ _) (Nat.le_succ_of_le h)
theorem left_nil {S:SM} {l:List Pr}:V.lst (prs (l.filter fun p=>!(ag S p).isSome))=.lst []↔∀ p∈l,ag S p≠none:=by
 constructor
 ·intro h1 p hp z
  injection h1 with h1
  have h3:T (pairAt p)∈prs (l.filter fun p=>!(ag S p).isSome):=List.mem_map.mpr ⟨p,List.mem_filter.mpr ⟨hp,by rw [z];rfl⟩,rfl⟩
  rw [h1] at h3
  contradiction
 ·intro h
  rw [List.filter_eq_nil_iff.mpr fun p hp=>?_]
  ·rfl
  ·rcases e:ag S p with _|u
   ·exact absurd e (h p hp)
   ·exact Bool.noConfusion
theorem many_down {mm:Int} {k:Nat} (h1 : -1≤mm) (h2:mm<k) (h3:k≤36):38 - ((k:Int)+1).toNat<38 - (mm+1).toNat:=
 have q:(mm+1).toNat≤k:=Int.toNat_le.mpr h2
 Nat.sub_lt_sub_left (Nat.lt_of_le_of_lt q (Nat.lt_of_le_of_lt h3 (by decide))) (Nat.lt_succ_of_le q)
theorem sh_len {K:ShK} {S0 S:SM} {D:DD} {σ₁:Store} {m:Nat} (P:Px cx a) (G:K.P S0 D σ₁ S) (h:S.length≤36):Cl cx m σ₁ (.builtin "len") [.ref K.fd] (Is (.int (S.length:Nat)) σ₁):=
 Cl_lenT G.at_ (encS_len h) (by delta encS;rw [List.length_map];exact .rfl)
set_option maxHeartbeats 1000000 in
theorem sh_while {K:ShK} (P:Px cx a) (s1:Side K.H1) (s2:Side K.H2) (F1:FKof K.H1 K.FK1) (F2:FKof K.H2 K.FK2) (w:ShW K 38 Γ σ) {Q:Fl→(Str→Option V)→Store→Prop} (hc:sc=defScope (defAt 21))
  (q:∀ S Γ' σ',ShΓ K S.length Γ'→K.P S (fun o_ o_=>False) σ' S→S.length≤36→(∀ e1 e2,ShC K.FK1 K.FK2 S e1 e2)→Exs cx n sc Γ' σ' ((defBody (defAt 21)).drop 2) Q):Exs cx n sc Γ σ ((defBody (defAt 21)).drop 1) Q:=by
 subst hc
 conv=>arg 6;whnf
 refine Exs_cons (Ex_while (ShW K) _ w ?_)
 clear w
 rintro m Γ₁ σ₁ ⟨S0,mm,g,G,hm1,hm2,hcl,rfl⟩
 have z36:=G.size F1.size F2.size
 refine Te_cm (Ev_b P.g_len (.cons (EvIs_loc g.g2) .nil) (sh_len P G z36)) (EvIs_loc g.g3) (P2_gt (.of ⟨fun e=>?_,fun e=>?_⟩))
 ·have hlt:mm<S0.length:=of_decide_eq_true e
  refine Exs_name (Ev_b P.g_len (.cons (EvIs_loc g.g2) .nil) ((sh_len P G z36).mono fun v σ' h=>?_))
  obtain ⟨rfl,rfl⟩:=h
  refine Exs_cons (Ex_for (fun o_=>ShI K S0 S0.length) (EvI_keys (EvIs.ev (EvIs_loc g.g0) ⟨_,rfl,⟨S0,⟨g.g0,g.g1,g.g2,rfl⟩,G.weak fun o_ o_ h=>nomatch h.1⟩,?_,?_⟩)))
  ·clear G
   rintro i Γ₂ σ₂ v hv ⟨S,g,G⟩
   rw [keysV_encN] at hv
   obtain ⟨⟨e1,c⟩,hp1,rfl⟩:=At_map hv
   have zk1:=F1.kids s1 (List.mem_of_getElem? hp1)
   refine As_name (by first | exact .inl (by rfl) | exact .inr (by rfl)) (Exs_cons (Ex_for (fun o_=>ShJ K S0 S0.length i e1) (EvI_keys (EvIs.ev (EvIs_loc g.g1) ⟨_,rfl,⟨S,⟨g.g0,g.g1,g.g2,g.g3⟩,rfl,G.weak fun o_ o_ h=>h.resolve_right fun z=>nomatch z.2⟩,?_,?_⟩))))
   ·clear G
    rintro j Γ₃ σ₃ v hv ⟨S,g,g4,G⟩
    rw [keysV_encN] at hv
    obtain ⟨⟨e2,d⟩,hp2,rfl⟩:=At_map hv
    have zk2:=F2.kids s2 (List.mem_of_getElem? hp2)
    have zS':=G.size F1.size F2.size
    refine As_name (by first | exact .inl (by rfl) | exact .inr (by rfl)) (Exs_wk fun Q' hq=>?_)
    have hno:ShC K.FK1 K.FK2 S e1 e2→Q' .next (upd Γ₃ ("late" : Str) (T e2.at)) σ₃:=fun h=>hq ⟨S,⟨g.g0,g.g1,g.g2,g.g3⟩,g4,(G.skip h).weak fun o_ o_=>SD2_step hp2⟩
    refine Exs_cons (Ex_if (Te_and (Te_cm (Ev_sb (EvIs_loc g4) EvIs_int (P2_op zk1 .rfl)) (Ev_sb (EvIs_loc rfl) EvIs_int (P2_op zk2 .rfl)) (P2_eqs (.of ⟨fun ho=>?_,fun ho=>?_⟩)))))
    ·exact ⟨fun z=>Bool.noConfusion z,fun o_=>Exs_nil (Exs_nil (hno fun c d o_ o_ z=>absurd z (of_decide_eq_false ho)))⟩
    ·have ho:e1.op=e2.op:=of_decide_eq_true ho
     refine Te_and (Te_cmp (hm:=by with_unfolding_all rfl) (Ev_comp (by decide +kernel) (by rfl) (EvI_zip (by rfl) P.g_zip rfl rfl (EvIs.ev (Ev_kids (EvIs_loc g4) zk1) (EvIs.ev (Ev_kids (EvIs_loc rfl) zk2) ⟨_,_,rfl,rfl,?_⟩)))))
     rw [zipV_vi]
     refine ⟨_,Turns_filter id (fun v=>!(ag S (prOf v)).isSome) (zip_sh _ zk1) (fun v hv=>?_) (fun v hv hp=>EvIs.ev (EvIs_loc rfl) ⟨rfl,rfl⟩),.inl ?_⟩
     ·obtain ⟨p,hp,rfl⟩:=List.mem_map.mp hv
      refine Te_cm (EvIs_loc rfl) (EvIs_loc g.g2) (P2_notinT (l:=encS S) G.at_ (.of ⟨rfl,?_⟩))
      rw [dget_encS,Option.isSome_map,prOf_at]
     rw [prs_filter _ fun p=>!(ag S p).isSome]
     refine Ev_list_fz ⟨Nat.le_of_ble_eq_true rfl,P2_eq (prs_dat _) rfl (Nat.le_trans (Nat.min_le_right _ _) (by decide)) fun b hb=>⟨b,rfl,fun hb0=>?_,fun hb1=>?_⟩⟩
     ·exact ⟨fun z=>Bool.noConfusion z,fun o_=>Exs_nil (Exs_nil (hno fun c d o_ o_ o_ hall=>absurd (hb0.symm.trans (hb.mpr (left_nil.mpr hall))) Bool.noConfusion))⟩
     ·refine Te_and_nil ⟨fun o_=>?_,fun z=>Bool.noConfusion z⟩
      have hag1:=ag_of_mem F1.keys (List.mem_of_getElem? hp1)
      have hag2:=ag_of_mem F2.keys (List.mem_of_getElem? hp2)
      refine Exs_cons (Ex_sub (EvIs.ev EvIs_bool (EvIs.ev (EvIs_loc g.g2) (EvIs.ev (v:=T (pairAt (c,d))) (EvIs_tup (.cons (Ev_sb (EvIs_loc g.g0) (EvIs_loc g4) (P2_itemT rfl (by rw [dget_encN,hag1];rfl) .rfl)) (.cons (Ev_sb (EvIs_loc g.g1) (EvIs_loc rfl) (P2_itemT rfl (by rw [dget_encN,hag2];rfl) .rfl)) .nil))) ⟨_,PS_T G.at_ (encS_len zS'),Exs_nil (Exs_nil (hq ?_))⟩))))
      rw [dput_encS G.keys]
      exact ⟨_,⟨g.g0,g.g1,g.g2,g.g3⟩,g4,(G.put F1 F2 hag1 hag2 ho (left_nil.mp (hb.mp hb1))).weak fun o_ o_=>SD2_step hp2⟩
   ·rintro Γ₃ σ₃ ⟨S,g,g4,G⟩
    rw [keysV_encN,List.length_map] at G
    exact Exs_nil ⟨S,g,G.weak fun x y=>SD1_step hp1⟩
  ·rintro Γ₂ σ₂ ⟨S,g,G⟩
   rw [keysV_encN,List.length_map] at G
   refine Exs_nil ⟨38 - ((S0.length:Int)+1).toNat,many_down hm1 hlt z36,S,S0.length,g,⟨G.at_,G.keys,G.snd,G.sub,Nat.le_refl _,fun o_=>⟨rfl,fun o_ o_ h=>h.elim⟩,G.rest⟩,Int.le_trans (by decide) (Int.natCast_nonneg _),Int.ofNat_le.mpr G.le,fun h e1 e2 c d h1 h2=>?_,rfl⟩
   obtain ⟨e,hc⟩:=G.same (Nat.le_antisymm (Int.ofNat_le.mp h) G.le)
   rw [e]
   refine hc e1 e2 ⟨?_,List.mem_map.mpr ⟨_,ag_mem h2,rfl⟩⟩ c d h1 h2
   rw [← List.length_map (f:=(·.1)) (as:=K.FK1),List.take_length]
   exact List.mem_map.mpr ⟨_,ag_mem h1,rfl⟩
 ·have hle:(S0.length:Int)≤mm:=Int.not_lt.mp (of_decide_eq_false e)
  exact q S0 _ _ (Int.le_antisymm hm2 hle▸g) G z36 (hcl hle)
theorem Sh_all (F1:FKof H1 FK1) (F2:FKof H2 FK2) {S:SM} (hc:∀ e1 e2,ShC FK1 FK2 S e1 e2):∀ {c d:Nat},Sh H1 H2 c d→ag S (c,d)≠none:=fun hs=>by
 induction hs with
 | mk e1 e2 c d h1 h2 ho hk ih=>exact hc e1 e2 c d ((F1.mem _ _).mpr h1) ((F2.mem _ _).mpr h2) ho fun p hp=>ih p hp
theorem shared (P:Px cx a) (s1:Side H1) (s2:Side H2) (F1:FKof H1 FK1) (F2:FKof H2 FK2) (q:∀ S σ',(S.map (·.1)).Nodup→(∀ p,ag S p≠none↔Sh H1 H2 p.1 p.2)→S.length≤36→(∀ x,σ x≠none→σ' x=σ x)→Q (.dT (encS S)) σ'):Cc cx (n+1) σ (.ref a.f_shared) [.dT (encN FK1),.dT (encN FK2)] Q:=by
 refine P.f_shared.go rfl ?_
 conv=>arg 6;whnf
 refine Exs_cons (Ex_tuple (Ev_tuple ⟨rfl,Ev_dict0T fun fd hfd=>⟨rfl,EvIs.ev EvIs_neg ⟨Nat.le_of_ble_eq_true rfl,?_⟩⟩⟩) (hw:=by intro env e;cases env;dsimp only at e;cases e;rfl))
 refine As_tuple (l:=[.ref fd,.int (-1)]) rfl rfl rfl ⟨rfl,As_name (by first | exact .inl (by rfl) | exact .inr (by rfl)) ⟨rfl,As_name (by first | exact .inl (by rfl) | exact .inr (by rfl)) ?_⟩⟩
 refine sh_while (K:=⟨H1,H2,FK1,FK2,σ,fd⟩) P s1 s2 F1 F2 ⟨[],-1,⟨rfl,rfl,rfl,rfl⟩,⟨Store.set_self _ _,.nil,fun p h=>absurd rfl h,fun p h=>absurd rfl h,Nat.le_refl _,fun o_=>⟨rfl,fun o_ o_ h=>h.elim⟩,fun x hx=>⟨Store.set_ne _ fun z=>hx (z▸hfd),fun z=>hx (z▸hfd)⟩⟩,by decide,by decide,fun h=>absurd h (by decide),rfl⟩ rfl fun S Γ' σ' g G z36 hc=>?_
 refine Exs_ret (Ev.freeze (EvIs_loc g.g2) fun u σ' h=>.inl ⟨fd,_,h.1,by rw [h.2];exact G.at_,q S _ G.keys (fun p=>⟨G.snd p,Sh_all F1 F2 hc⟩) z36 fun x hx=>?_⟩)
 rw [h.2]
 exact (if_neg (G.rest x hx).2).trans (G.rest x hx).1
end
inductive Tm where
 | l (op:Str)
 | f (op:Str) (x:Tm)
 | g (op:Str) (x y:Tm)
noncomputable def Tm.v:Tm→V
 | .l op=>.tup [.str op]
 | .f op x=>.tup [.str op,x.v]
 | .g op x y=>.tup [.str op,x.v,y.v]
noncomputable def Tm.rank:Tm→Nat
 | .l _=>0
 | .f _ x=>x.rank+1
 | .g _ x y=>max x.rank y.rank+1
structure TL (N r:Nat) (us:List V):Prop where
 len:us.length≤N
 all:∀ v∈us,∃ t:Tm,v=t.v∧t.rank≤r
theorem TL.app {N M r:Nat} {us ws:List V} (h:TL N r us) (h':TL M r ws):TL (N+M) r (us++ws):=
 ⟨by rw [List.length_append];exact Nat.add_le_add h.len h'.len,fun v hv=>(List.mem_append.mp hv).elim (h.all v) (h'.all v)⟩
theorem TL.up {N r r':Nat} {us:List V} (h:TL N r us) (hr:r≤r'):TL N r' us:=⟨h.len,fun v hv=>by obtain ⟨t,a,b⟩:=h.all v hv;exact ⟨t,a,Nat.le_trans b hr⟩⟩
theorem TL.fs {N r:Nat} {us:List V} (op:Str) (h:TL N r us):TL N (r+1) (us.map fun v=>.tup [.str op,v]):=⟨by rw [List.length_map];exact h.len,fun v hv=>by
 obtain ⟨w,hw,rfl⟩:=List.mem_map.mp hv
 obtain ⟨t,rfl,ht⟩:=h.all w hw
 exact ⟨.f op t,rfl,Nat.succ_le_succ ht⟩⟩
theorem len_flat {α β:Type} (g:α→β→V) (l':List β):∀ l:List α,(l.map fun v=>l'.map fun w=>g v w).flatten.length=l.length*l'.length
 | []=>(Nat.zero_mul _).symm
 | v::l=>by rw [List.map_cons,List.flatten_cons,List.length_append,len_flat g l' l,List.length_map,List.length_cons,Nat.succ_mul,Nat.add_comm]
theorem TL.gs {N M r:Nat} {us ws:List V} (op:Str) (sw:Bool) (h:TL N r us) (h':TL M r ws):TL (N*M) (r+1) (us.map fun v=>ws.map fun w=>if sw then V.tup [.str op,w,v] else .tup [.str op,v,w]).flatten:=⟨by
 rw [len_flat (fun v w=>if sw then V.tup [.str op,w,v] else .tup [.str op,v,w])];exact Nat.mul_le_mul h.len h'.len,fun v hv=>by
 obtain ⟨l,hl,hv⟩:=List.mem_flatten.mp hv
 obtain ⟨x,hx,rfl⟩:=List.mem_map.mp hl
 obtain ⟨y,hy,rfl⟩:=List.mem_map.mp hv
 obtain ⟨t,rfl,ht⟩:=h.all x hx
 obtain ⟨u,rfl,hu⟩:=h'.all y hy
 cases sw with
 | true=>exact ⟨.g op u t,rfl,Nat.succ_le_succ (Nat.max_le.mpr ⟨hu,ht⟩)⟩
 | false=>exact ⟨.g op t u,rfl,Nat.succ_le_succ (Nat.max_le.mpr ⟨ht,hu⟩)⟩⟩
section
variable {cx:Cx} {a:Ads} {n:Nat} {sc csc:Scope} {Γ:Str→Option V} {σ:Store}
theorem EvIs_map {x:Str} {px pos:Pos} {elt iter:Expr} {l:List V} {v:V} (g:V→V) (hok:compOk csc sc=true) (hx:csc.names.lookup x=some .local) (h:EvIs cx n sc Γ σ iter v) (hv:seqOf v=some l) (hz:l.length≤1000000) (he:∀ w∈l,EvIs cx n (relabel' csc sc) (upd (capΓ csc Γ) x w) σ elt (g w)) (hs:∀ env x,foldedSetIterable iter env x=pure x) :
  EvIs cx n sc Γ σ (.ListComp elt [⟨.Name x px,iter,[],0⟩] csc pos) (.lst (l.map g)):=
 Ev_comp hok hx (EvI_seq (h.ev ⟨_,hv,_,Turns_map g hz he,.inl .rfl⟩)) hs
theorem EvIs_map2 {x x2:Str} {px p2 pos:Pos} {elt i1 i2:Expr} {l l2:List V} {v v2:V} (g:V→V→V) (hok:compOk csc sc=true) (hx:csc.names.lookup x=some .local) (h:EvIs cx n sc Γ σ i1 v) (hv:seqOf v=some l) (hz:l.length*l2.length≤1000000) (hz1:l.length≤1000000) (hz2:l2.length≤1000000)
  (hx2:(relabel' csc sc).names.lookup x2=some .local) (hΓ:∀ w,upd (capΓ csc Γ) x w x2=none) (h2:∀ w∈l,EvIs cx n (relabel' csc sc) (upd (capΓ csc Γ) x w) σ i2 v2) (hv2:seqOf v2=some l2) (he:∀ w∈l,∀ u∈l2,EvIs cx n (relabel' csc sc) (upd (upd (capΓ csc Γ) x w) x2 u) σ elt (g w u))
  (hs:∀ env x,foldedSetIterable i1 env x=pure x) (hs2:∀ env x,foldedSetIterable i2 env x=pure x) :
  EvIs cx n sc Γ σ (.ListComp elt [⟨.Name x px,i1,[],0⟩,⟨.Name x2 p2,i2,[],0⟩] csc pos) (.lst (l.map fun w=>l2.map fun u=>g w u).flatten):=by
 refine Ev_comp2 hok hx (EvI_seq (h.ev ⟨_,hv,_,⟨l.map fun w=>l2.map fun u=>g w u,by rw [List.length_map],rfl,by rw [len_flat g];exact hz,fun i w u hw hu=>?_⟩,.inl .rfl⟩)) hs
 have hm:w∈l:=List.mem_of_getElem? hw
 have:u=l2.map fun u=>g w u:=by rw [List.getElem?_map,hw] at hu;exact (Option.some.inj hu).symm
 subst this
 refine (show CompT cx n _ _ σ [] _ from ⟨fun e=>Bool.noConfusion e,fun o_=>CompX_nest hx2 (hΓ w) (EvI_seq ((h2 w hm).ev ⟨_,hv2,rfl,Turns_map (g w) hz2 fun u hu=>he w hm u hu⟩)) hs2⟩)
theorem terms (P:Px cx a) {Q:V→Store→Prop} (q:∀ us,TL 999 3 us→Q (.lst us) σ):Cc cx (n+1) σ (.ref a.f_terms) [] Q:=by
 refine P.f_terms.go rfl ?_
 conv=>arg 6;whnf
 have T0:TL 3 0 [(Tm.l "a").v,(Tm.l "b").v,(Tm.l "c").v]:=⟨Nat.le_refl _,fun v hv=>by
  rcases List.mem_cons.mp hv with e|hv
  ·exact ⟨_,e,Nat.le_refl _⟩
  ·rcases List.mem_cons.mp hv with e|hv
   ·exact ⟨_,e,Nat.le_refl _⟩
   ·exact ⟨_,List.mem_singleton.mp hv,Nat.le_refl _⟩⟩
 refine Exs_name (EvIs.ev (v:=.lst [(Tm.l "a").v,(Tm.l "b").v,(Tm.l "c").v]) (EvIs_lst (.cons (EvIs_tup (.cons EvIs_str .nil)) (.cons (EvIs_tup (.cons EvIs_str .nil)) (.cons (EvIs_tup (.cons EvIs_str .nil)) .nil)))) ?_)
 generalize [(Tm.l "a").v,(Tm.l "b").v,(Tm.l "c").v]=L at T0
 have g0:upd (argsOf [] []) "leaves" (V.lst L) ("leaves" : Str)=some (.lst L):=by rfl
 show Exs cx n _ (upd (argsOf [] []) "leaves" (V.lst L)) σ _ _
 generalize upd (argsOf [] []) "leaves" (V.lst L)=Γ at g0 ⊢
 have z0:=T0.len
 refine Exs_name (Ev_bn (EvIs_map (hs:=by intro _ _;rfl) (fun v=>.tup [.str "f",v]) (by decide +kernel) (by rfl) (EvIs_loc g0) rfl (Nat.le_trans z0 (by decide)) fun w o_=>EvIs_tup (.cons EvIs_str (.cons (EvIs_loc rfl) .nil))) (EvIs_map2 (hs:=by intro _ _;rfl) (hs2:=by intro _ _;rfl) (v2:=.lst L) (l2:=L) (fun v w=>if false then V.tup [.str "g",w,v] else .tup [.str "g",v,w]) (by decide +kernel) (by rfl) (EvIs_loc g0) rfl (Nat.le_trans (Nat.mul_le_mul z0 z0) (by decide)) (Nat.le_trans z0 (by decide)) (Nat.le_trans z0 (by decide)) (by rfl) (fun w=>by rfl) (fun w o_=>EvIs_loc (by exact g0)) rfl fun w o_ u o_=>EvIs_tup (.cons EvIs_str (.cons (EvIs_loc rfl) (.cons (EvIs_loc rfl) .nil)))) (P2_addL rfl rfl ?_ (.inl ?_)))
 ·rw [List.length_map,len_flat (fun v w=>if false then V.tup [.str "g",w,v] else .tup [.str "g",v,w])];exact Nat.le_trans (Nat.add_le_add z0 (Nat.mul_le_mul z0 z0)) (by decide)
 have T1:=(T0.fs "f").app (T0.gs "g" false T0)
 generalize (L.map fun v=>V.tup [.str "f",v])++(L.map fun v=>L.map fun w=>if false=true then V.tup [.str "g",w,v] else .tup [.str "g",v,w]).flatten=M at T1 ⊢
 show Exs cx n _ (upd Γ "some" (V.lst M)) σ _ _
 have g1:upd Γ "some" (V.lst M) ("leaves" : Str)=some (.lst L):=g0
 have g2:upd Γ "some" (V.lst M) ("some" : Str)=some (.lst M):=by rfl
 generalize upd Γ "some" (V.lst M)=Γ at g1 g2 ⊢
 clear g0
 have z1:=T1.len
 refine Exs_name (Ev_bn (EvIs_map (hs:=by intro _ _;rfl) (fun v=>.tup [.str "f",v]) (by decide +kernel) (by rfl) (EvIs_loc g2) rfl (Nat.le_trans z1 (by decide)) fun w o_=>EvIs_tup (.cons EvIs_str (.cons (EvIs_loc rfl) .nil))) (EvIs_map2 (hs:=by intro _ _;rfl) (hs2:=by intro _ _;rfl) (v2:=.lst L) (l2:=L) (fun v w=>if false then V.tup [.str "g",w,v] else .tup [.str "g",v,w]) (by decide +kernel) (by rfl) (EvIs_loc g2) rfl (Nat.le_trans (Nat.mul_le_mul z1 z0) (by decide)) (Nat.le_trans z1 (by decide)) (Nat.le_trans z0 (by decide)) (by rfl) (fun w=>by rfl) (fun w o_=>EvIs_loc (by exact g1)) rfl fun w o_ u o_=>EvIs_tup (.cons EvIs_str (.cons (EvIs_loc rfl) (.cons (EvIs_loc rfl) .nil)))) (P2_addL rfl rfl ?_ (.inl ?_)))
 ·rw [List.length_map,len_flat (fun v w=>if false then V.tup [.str "g",w,v] else .tup [.str "g",v,w])];exact Nat.le_trans (Nat.add_le_add z1 (Nat.mul_le_mul z1 z0)) (by decide)
 have T2:=(T1.fs "f").app (T1.gs "g" false (T0.up (Nat.zero_le 1)))
 generalize (M.map fun v=>V.tup [.str "f",v])++(M.map fun v=>L.map fun w=>if false=true then V.tup [.str "g",w,v] else .tup [.str "g",v,w]).flatten=N at T2 ⊢
 show Exs cx n _ (upd Γ "more" (V.lst N)) σ _ _
 have g3:upd Γ "more" (V.lst N) ("leaves" : Str)=some (.lst L):=g1
 have g4:upd Γ "more" (V.lst N) ("some" : Str)=some (.lst M):=g2
 have g5:upd Γ "more" (V.lst N) ("more" : Str)=some (.lst N):=by rfl
 generalize upd Γ "more" (V.lst N)=Γ at g3 g4 g5 ⊢
 clear g1 g2
 have z2:=T2.len
 have T3:=T1.gs "g" true (T0.up (Nat.zero_le 1))
 have z3:=T3.len
 refine Exs_ret (Ev_bn (v:=.lst (L++M++N)) (Ev_bn (v:=.lst (L++M)) (Ev_bn (EvIs_loc g3) (EvIs_loc g4) (P2_addL rfl rfl (Nat.le_trans (Nat.add_le_add z0 z1) (by decide)) (.inl .rfl))) (EvIs_loc g5) (P2_addL rfl rfl (by rw [List.length_append];exact Nat.le_trans (Nat.add_le_add (Nat.add_le_add z0 z1) z2) (by decide)) (.inl .rfl))) (EvIs_map2 (hs:=by intro _ _;rfl) (hs2:=by intro _ _;rfl) (v2:=.lst L) (l2:=L) (fun v w=>if true then V.tup [.str "g",w,v] else .tup [.str "g",v,w]) (by decide +kernel) (by rfl) (EvIs_loc g4) rfl (Nat.le_trans (Nat.mul_le_mul z1 z0) (by decide)) (Nat.le_trans z1 (by decide)) (Nat.le_trans z0 (by decide)) (by rfl) (fun w=>by rfl) (fun w o_=>EvIs_loc (by exact g3)) rfl fun w o_ u o_=>EvIs_tup (.cons EvIs_str (.cons (EvIs_loc rfl) (.cons (EvIs_loc rfl) .nil)))) (P2_addL rfl rfl ?_ (.inl ?_)))
 ·rw [List.length_append,List.length_append];exact Nat.le_trans (Nat.add_le_add (Nat.add_le_add (Nat.add_le_add z0 z1) z2) z3) (by decide)
 ·exact q _ ⟨Nat.le_trans ((((T0.up (Nat.zero_le 3)).app (T1.up (by decide))).app (T2.up (by decide))).app (T3.up (by decide))).len (by decide),((((T0.up (Nat.zero_le 3)).app (T1.up (by decide:1≤3))).app (T2.up (by decide:2≤3))).app (T3.up (by decide:2≤3))).all⟩
end
noncomputable def ov:Option Nat→Int
 | some c=>(c:Nat)
 | none=>-1
noncomputable def getT (os:List (Option Nat)):List Nat:=os.map fun o=>o.getD 0
noncomputable def stepT (look:Str→List Nat→Option Nat) (op:Str) (os:List (Option Nat)):Option Nat:=if none∈os then none else look op (getT os)
noncomputable def evalT (look:Str→List Nat→Option Nat):Tm→Option Nat
 | .l op=>stepT look op []
 | .f op x=>stepT look op [evalT look x]
 | .g op x y=>stepT look op [evalT look x,evalT look y]
noncomputable def ovs (os:List (Option Nat)):List V:=os.map fun o=>V.int (ov o)
theorem ovs_mem {os:List (Option Nat)}:V.int (-1)∈ovs os↔none∈os:=by
 delta ovs
 rw [List.mem_map]
 constructor
 ·rintro ⟨o,ho,e⟩
  rcases o with _|c
  ·exact ho
  ·
   injection e with e
   exact absurd e (by show ¬ ((c:Nat):Int) = -1;omega)
 ·intro h;exact ⟨none,h,rfl⟩
theorem ovs_dat:∀ os:List (Option Nat),V.areDat (ovs os)=true
 | []=>rfl
 | o::os=>by show (true && V.areDat (ovs os))=true;rw [ovs_dat os];rfl
theorem ovs_vi {os:List (Option Nat)} (h:none∉os):ovs os=vi (getT os):=by
 delta ovs vi getT
 rw [List.map_map]
 refine List.map_congr_left fun o ho=>?_
 rcases o with _|c
 ·exact absurd ho h
 ·rfl
section
variable {cx:Cx} {a:Ads} {n m:Nat} {sc csc:Scope} {Γ:Str→Option V} {σ:Store} {loc:Slot→Addr} {H:HS} {B:Nat}
theorem turnsL {x:Str} {elt:Expr} {l us:List V} (hl:us.length=l.length) (hz:us.length≤1000000) (he:∀ (i:Nat) w u,l[i]? = some w→us[i]? = some u→EvIs cx n csc (upd Γ x w) σ elt u):Turns cx n csc Γ σ x [] (emit elt) l us:=by
 have flat:∀ us:List V,(us.map fun u=>[u]).flatten=us:=fun us=>by
  induction us with
  | nil=>rfl
  | cons u r ih=>rw [List.map_cons,List.flatten_cons,ih];rfl
 refine ⟨us.map fun u=>[u],by rw [List.length_map];exact hl,flat us,hz,fun i w u hw hu=>?_⟩
 rw [List.getElem?_map,Option.map_eq_some_iff] at hu
 obtain ⟨u',hu',rfl⟩:=hu
 exact (show CompT cx n _ _ σ [] _ from ⟨fun e=>Bool.noConfusion e,fun o_=>CompX_emit (he i w u' hw hu')⟩)
theorem Exs_mapL {x y:Str} {px py pos spos:Pos} {elt iter:Expr} {l us:List V} {v:V} {r:List Stmt} {Q:Fl→(Str→Option V)→Store→Prop} (hok:compOk csc sc=true) (hx:csc.names.lookup x=some .local) (hy:sc.names.lookup y=some .local) (h:EvIs cx n sc Γ σ iter v) (hv:seqOf v=some l) (hl:us.length=l.length) (hz:us.length≤1000000) (he:∀ (i:Nat) w u,l[i]? = some w→us[i]? = some u→EvIs cx n (relabel' csc sc) (upd (capΓ csc Γ) x w) σ elt u)
  (q:Exs cx n sc (upd Γ y (.lst us)) σ r Q) (hsw:∀ env,env.scope=sc→swapsWith (.ListComp elt [⟨.Name x px,iter,[],0⟩] csc pos) (some (.Name y py)) spos.line env=pure true) (hs:∀ env x,foldedSetIterable iter env x=pure x) :
  Exs cx n sc Γ σ (.Assign [.Name y py] (.ListComp elt [⟨.Name x px,iter,[],0⟩] csc pos) spos::r) Q:=Exs_cons (Ex_comp hok hx hy (EvI_seq (h.ev ⟨_,hv,us,turnsL hl hz he,.inl q⟩)) hsw hs)
theorem klass_step (P:Px cx a) {FK:List (Nd×Nat)} {op:Str} {l:List V} {os:List (Option Nat)} (hl:os.length=l.length) (hz:os.length≤2) (hk:∀ (i:Nat) v o,l[i]? = some v→os[i]? = some o→CcIs cx m σ (.ref a.f_klass) [v,.dT (encN FK)] (.int (ov o))) :
  CcIs cx (m+1) σ (.ref a.f_klass) [.tup (.str op::l),.dT (encN FK)] (.int (ov (stepT (fun op cs=>ag FK ⟨op,cs⟩) op os))):=by
 refine P.f_klass.go rfl ?_
 conv=>arg 6;whnf
 have zl:l.length≤999999:=by omega
 have zo:(ovs os).length≤1000000:=by delta ovs;rw [List.length_map];exact Nat.le_trans (by assumption) (by decide)
 refine Exs_mapL (hsw:=by intro env e;cases env;dsimp only at e;cases e;rfl) (hs:=by intro _ _;rfl) (us:=ovs os) (l:=l) (by decide +kernel) (by rfl) (by rfl) (Ev_from1 (EvIs.ev (EvIs_loc rfl) ⟨_,_,rfl,zl,.rfl⟩)) rfl (by delta ovs;rw [List.length_map];exact hl) zo (fun i w u hw hu=>?_) ?_
 ·dsimp only [ovs] at hu
  rw [List.getElem?_map,Option.map_eq_some_iff] at hu
  obtain ⟨o,ho,rfl⟩:=hu
  exact Ev_c P.f_klass_g P.f_klass_k (.cons (EvIs_loc rfl) (.cons (EvIs_loc rfl) .nil)) (hk i w o hw ho)
 ·refine Exs_ret (Ev_if (Te_cm EvIs_neg (EvIs_loc (v:=.lst (ovs os)) rfl) (P2_in (c:=.lst (ovs os)) rfl rfl (ovs_dat os) rfl (Nat.zero_le _) fun b hb=>.of ⟨fun e=>?_,fun e=>?_⟩)))
  ·have:stepT (fun op cs=>ag FK ⟨op,cs⟩) op os=none:=if_pos (ovs_mem.mp (hb.mp e))
   rw [this];exact EvIs_neg
  ·have hn:none∉os:=fun z=>by have:=hb.mpr (ovs_mem.mpr z);rw [e] at this;cases this
   have hs:stepT (fun op cs=>ag FK ⟨op,cs⟩) op os=ag FK ⟨op,getT os⟩:=if_neg hn
   rw [hs]
   have zg:(getT os).length≤999999:=by delta getT;rw [List.length_map];exact Nat.le_trans (by assumption) (by decide)
   refine Ev_bm (EvIs_loc (v:=.dT (encN FK)) rfl) (Mt_getT (l:=encN FK) rfl) (.cons (v:=T (Nd.at ⟨op,getT os⟩)) (Ev_bn (EvIs_tup (.cons (v:=.str op) (Ev_sb (EvIs_loc (v:=.tup (.str op::l)) rfl) EvIs_int (P2_item (c:=.tup (.str op::l)) (k:=0) rfl rfl (Int.le_refl 0) (by rw [List.length_cons];exact Nat.succ_le_succ (by assumption)) rfl .rfl)) .nil)) (Ev_ty P.g_tuple (.cons (EvIs_loc (v:=.lst (ovs os)) rfl) .nil) (Cl_tuple_list (l:=vi (getT os)) (congrArg (fun l=>some (V.lst l)) (ovs_vi hn)) (by rw [vi_len];exact Nat.le_succ_of_le (by assumption)) .rfl) (keeps_type _)) (P2_cons zg .rfl)) (.cons EvIs_neg .nil)) (Cl_getT rfl ?_)
   rw [dget_encN]
   rcases ag FK ⟨op,getT os⟩ with _|c
   ·exact .rfl
   ·exact .rfl
theorem klass (P:Px cx a) {FK:List (Nd×Nat)}:∀ (t:Tm) (n:Nat),CcIs cx (n+t.rank+1) σ (.ref a.f_klass) [t.v,.dT (encN FK)] (.int (ov (evalT (fun op cs=>ag FK ⟨op,cs⟩) t)))
 | .l op,n=>klass_step P (os:=[]) rfl (Nat.zero_le _) fun i v o h=>by contradiction
 | .f op x,n=>klass_step P (os:=[_]) rfl (Nat.le_succ _) fun i v o h h'=>by
  match i with
  | 0=>cases h;cases h';exact klass P x n
 | .g op x y,n=>klass_step P (os:=[_,_]) rfl (Nat.le_refl _) fun i v o h h'=>by
  have ex:n+(Tm.g op x y).rank=(n+(max x.rank y.rank - x.rank))+x.rank+1:=by
   have:(Tm.g op x y).rank=max x.rank y.rank+1:=rfl
   omega
  have ey:n+(Tm.g op x y).rank=(n+(max x.rank y.rank - y.rank))+y.rank+1:=by
   have:(Tm.g op x y).rank=max x.rank y.rank+1:=rfl
   omega
  match i with
  | 0=>cases h;cases h';rw [ex];exact klass P x _
  | 1=>cases h;cases h';rw [ey];exact klass P y _
noncomputable def skO (H:HS) (op:Str) (ks:List Nat):Option Nat:=(ag H.known (cn H.par ⟨op,ks⟩)).map (rt H.par)
theorem seekV_ov (H:HS) (op:Str) (ks:List Nat):seekV H op ks=ov (skO H op ks):=by
 delta seekV skO
 cases ag H.known (cn H.par ⟨op,ks⟩) <;> rfl
theorem place_step (P:Px cx a) (h:HeapAt a.c σ loc H) (I:HInv [] B H) (hn:H.nodes.length≤64) (hB:B≤9999) {op:Str} {l:List V} {os:List (Option Nat)} (hl:os.length=l.length) (hz:os.length≤2) (ho:∀ o∈os,∀ c,o=some c→c<H.nodes.length) (hk:∀ (i:Nat) v o,l[i]? = some v→os[i]? = some o→CcIs cx (m+3) σ (.ref a.f_place) [hV a loc,v] (.int (ov o))) :
  CcIs cx (m+4) σ (.ref a.f_place) [hV a loc,.tup (.str op::l)] (.int (ov (stepT (skO H) op os))):=by
 refine P.f_place.go rfl ?_
 conv=>arg 6;whnf
 have zl:l.length≤999999:=by omega
 have zo:(ovs os).length≤1000000:=by delta ovs;rw [List.length_map];exact Nat.le_trans (by assumption) (by decide)
 refine Exs_mapL (hsw:=by intro env e;cases env;dsimp only at e;cases e;rfl) (hs:=by intro _ _;rfl) (us:=ovs os) (l:=l) (by decide +kernel) (by rfl) (by rfl) (Ev_from1 (EvIs.ev (EvIs_loc rfl) ⟨_,_,rfl,zl,.rfl⟩)) rfl (by delta ovs;rw [List.length_map];exact hl) zo (fun i w u hw hu=>?_) ?_
 ·dsimp only [ovs] at hu
  rw [List.getElem?_map,Option.map_eq_some_iff] at hu
  obtain ⟨o,ho,rfl⟩:=hu
  exact Ev_c P.f_place_g P.f_place_k (.cons (EvIs_loc rfl) (.cons (EvIs_loc rfl) .nil)) (hk i w o hw ho)
 ·refine Exs_ret (Ev_if (Te_cm EvIs_neg (EvIs_loc (v:=.lst (ovs os)) rfl) (P2_in (c:=.lst (ovs os)) rfl rfl (ovs_dat os) rfl (Nat.zero_le _) fun b hb=>.of ⟨fun e=>?_,fun e=>?_⟩)))
  ·have:stepT (skO H) op os=none:=if_pos (ovs_mem.mp (hb.mp e))
   rw [this];exact EvIs_neg
  ·have hnn:none∉os:=fun z=>by have:=hb.mpr (ovs_mem.mpr z);rw [e] at this;cases this
   have hs:stepT (skO H) op os=skO H op (getT os):=if_neg hnn
   rw [hs,← seekV_ov]
   refine Ev_m (EvIs_loc (v:=hV a loc) rfl) (can_h h P.heap_seek_m) (.cons (v:=.str op) (Ev_sb (EvIs_loc (v:=.tup (.str op::l)) rfl) EvIs_int (P2_item (c:=.tup (.str op::l)) (k:=0) rfl rfl (Int.le_refl 0) (by rw [List.length_cons];exact Nat.succ_le_succ (by assumption)) rfl .rfl)) (.cons (EvIs_loc (v:=.lst (ovs os)) rfl) .nil)) (H_seek P h I hn hB (by show some (ovs os)=_;rw [ovs_vi hnn]) (fun k hk=>?_) (by delta getT;rw [List.length_map];exact Nat.le_trans (by assumption) (by decide)))
   obtain ⟨o,hom,rfl⟩:=List.mem_map.mp hk
   rcases o with _|c
   ·exact absurd hom hnn
   ·exact ho _ hom c rfl
theorem skO_lt (I:HInv [] B H) {op:Str} {ks:List Nat} {c:Nat} (h:skO H op ks=some c):c<H.nodes.length:=by
 delta skO at h
 rw [Option.map_eq_some_iff] at h
 obtain ⟨m,hm,rfl⟩:=h
 obtain ⟨d,hd,_⟩:=I.known _ _ hm
 rw [← I.lp];exact rt_lt I.down (I.lt hd)
theorem stepT_lt (I:HInv [] B H) {op:Str} {os:List (Option Nat)} {c:Nat} (h:stepT (skO H) op os=some c):c<H.nodes.length:=by
 delta stepT at h
 split at h
 ·cases h
 ·exact skO_lt I h
theorem evalT_lt (I:HInv [] B H) (t:Tm) {c:Nat} (h:evalT (skO H) t=some c):c<H.nodes.length:=by
 cases t <;> exact stepT_lt I h
theorem place (P:Px cx a) (h:HeapAt a.c σ loc H) (I:HInv [] B H) (hn:H.nodes.length≤64) (hB:B≤9999):∀ (t:Tm) (n:Nat),CcIs cx (n+t.rank+4) σ (.ref a.f_place) [hV a loc,t.v] (.int (ov (evalT (skO H) t)))
 | .l op,n=>place_step P h I hn hB (os:=[]) rfl (Nat.zero_le _) (fun o ho=>by contradiction) fun i v o h=>by contradiction
 | .f op x,n=>place_step P h I hn hB (os:=[_]) rfl (Nat.le_succ _) (fun o ho c e=>evalT_lt I x ((List.mem_singleton.mp ho).symm.trans e)) fun i v o h1 h'=>by
  match i with
  | 0=>cases h1;cases h';exact place P h I hn hB x n
 | .g op x y,n=>place_step P h I hn hB (os:=[_,_]) rfl (Nat.le_refl _) (fun o ho c e=>by
   rcases List.mem_cons.mp ho with z|z
   ·exact evalT_lt I x (z.symm.trans e)
   ·exact evalT_lt I y ((List.mem_singleton.mp z).symm.trans e)) fun i v o h1 h'=>by
  have ex:n+(Tm.g op x y).rank+3=(n+(max x.rank y.rank - x.rank))+x.rank+4:=by
   have:(Tm.g op x y).rank=max x.rank y.rank+1:=rfl
   omega
  have ey:n+(Tm.g op x y).rank+3=(n+(max x.rank y.rank - y.rank))+y.rank+4:=by
   have:(Tm.g op x y).rank=max x.rank y.rank+1:=rfl
   omega
  match i with
  | 0=>cases h1;cases h';rw [ex];exact place P h I hn hB x _
  | 1=>cases h1;cases h';rw [ey];exact place P h I hn hB y _
end
section
variable {a:Ads} {σ σ₀:Store} {loc loc1 loc2:Slot→Addr} {H H1 H2:HS} {md mn:Addr} {nums:NM} {π:Nat→Pr} {FK1 FK2:List (Nd×Nat)}
theorem Kn.ar (s:Side H) {e:Nd} {c:Nat} (h:Kn H e c):arOk e:=by
 obtain ⟨i,d,hi,_,rfl⟩:=h
 exact cn_ok s.I hi
theorem nums_iff (s1:Side H1) (s2:Side H2) (D:MDone a σ₀ loc1 loc2 H1 H2 md mn σ loc H nums π) (p:Pr):ag nums p≠none↔Sh H1 H2 p.1 p.2:=by
 constructor
 ·intro h
  have key:∀ (k:Nat) (p:Pr),ag nums p=some k→Sh H1 H2 p.1 p.2:=by
   intro k
   induction k using Nat.strongRecOn with
   | _ k ih=>
    intro p hp
    obtain ⟨hk,hπ⟩:=D.V.num p k hp
    have hd:=List.getElem?_eq_getElem hk
    obtain ⟨e1,e2,a1,a2,r,hm⟩:=D.V.node k _ hd
    rw [hπ] at a1 a2
    refine .mk e1 e2 p.1 p.2 a1 a2 r.op fun p' hp'=>?_
    rcases hk':ag nums p' with _|k'
    ·exact absurd hk' (r.all p' hp')
    ·
     refine ih k' (D.I.kids k _ hd k' ?_) p' hk'
     rw [hm]
     exact List.mem_map.mpr ⟨p',hp',by rw [hk'];rfl⟩
  rcases e:ag nums p with _|k
  ·exact absurd e h
  ·exact key k p e
 ·intro h
  have main:∀ c d,Sh H1 H2 c d→ag nums (c,d)≠none:=fun c d hs=>by
   induction hs with
   | mk e1 e2 c d h1 h2 ho hk ih=>
    have hl:e1.kids.length=e2.kids.length:=by rw [(h1.ar s1).2,(h2.ar s2).2,ho]
    have r:Rdy nums e1 e2:=⟨ho,hl,fun p hp=>ih p hp⟩
    obtain ⟨i,hi⟩:=List.getElem?_of_mem (D.all e1 c e2 d h1 h2 r)
    have hπ:=D.V.at_ (s1.I.knF s1.w) (s2.I.knF s2.w) h1 h2 r hi
    obtain ⟨k,hk,_⟩:=D.V.all i (List.getElem?_eq_some_iff.mp hi).1
    rw [← hπ,hk];exact fun z=>by contradiction
  exact main p.1 p.2 h
noncomputable def Rel (nums:NM) (H:HS) (o c d:Option Nat):Prop:=match c,d with
 | some c,some d=>∃ k,ag nums (c,d)=some k∧o=some (rt H.par k)
 | _,_=>o=none
inductive All3 (nums:NM) (H:HS):List (Option Nat)→List (Option Nat)→List (Option Nat)→Prop
 | nil:All3 nums H [] [] []
 | cons {o c d os cs ds} (h:Rel nums H o c d) (t:All3 nums H os cs ds):All3 nums H (o::os) (c::cs) (d::ds)
theorem All3.nones {os cs ds:List (Option Nat)} (h:All3 nums H os cs ds):none∈os↔none∈cs∨none∈ds:=by
 induction h with
 | nil=>exact ⟨fun h=>(by contradiction),fun h=>h.elim (fun h=>(by contradiction)) fun h=>(by contradiction)⟩
 | @cons o c d os cs ds h t ih=>
  have h0:o=none↔c=none∨d=none:=by
   rcases c with _|c
   ·exact ⟨fun o_=>.inl rfl,fun o_=>h⟩
   ·
    rcases d with _|d
    ·exact ⟨fun o_=>.inr rfl,fun o_=>h⟩
    ·
     obtain ⟨k,_,rfl⟩:=h
     exact ⟨fun z=>(by contradiction),fun z=>z.elim (fun z=>(by contradiction)) fun z=>(by contradiction)⟩
  rw [List.mem_cons,List.mem_cons,List.mem_cons,ih]
  constructor
  ·rintro (z|z|z)
   ·exact (h0.mp z.symm).elim (fun w=>.inl (.inl w.symm)) fun w=>.inr (.inl w.symm)
   ·exact .inl (.inr z)
   ·exact .inr (.inr z)
  ·rintro ((z|z) | (z|z))
   ·exact .inl (h0.mpr (.inl z.symm)).symm
   ·exact .inr (.inl z)
   ·exact .inl (h0.mpr (.inr z.symm)).symm
   ·exact .inr (.inr z)
theorem All3.somes {os cs ds:List (Option Nat)} (h:All3 nums H os cs ds):none∉os→(getT cs).length=(getT ds).length∧(∀ p∈(getT cs).zip (getT ds),ag nums p≠Option.none)∧getT os=((getT cs).zip (getT ds)).map fun p=>rt H.par ((ag nums p).getD 0):=by
 induction h with
 | nil=>exact fun o_=>⟨rfl,fun p hp=>(by contradiction),rfl⟩
 | @cons o c d os cs ds h t ih=>
  intro hn
  obtain ⟨i1,i2,i3⟩:=ih fun z=>hn (.tail _ z)
  rcases c with _|c
  ·have h:o=Option.none:=h;exact absurd (h▸.head _) hn
  ·
   rcases d with _|d
   ·have h:o=Option.none:=h;exact absurd (h▸.head _) hn
   ·
    obtain ⟨k,hk,rfl⟩:=h
    refine ⟨congrArg (· + 1) i1,fun p hp=>?_,?_⟩
    ·rcases List.mem_cons.mp hp with e|hp
     ·rw [e];show ag nums (c,d)≠_;rw [hk];exact fun z=>by contradiction
     ·exact i2 p hp
    ·show rt H.par k::getT os=rt H.par ((ag nums (c,d)).getD 0)::_
     rw [hk,i3];rfl
theorem step_rel (s1:Side H1) (s2:Side H2) (F1:FKof H1 FK1) (F2:FKof H2 FK2) (D:MDone a σ₀ loc1 loc2 H1 H2 md mn σ loc H nums π) {op:Str} {os cs ds:List (Option Nat)} (h:All3 nums H os cs ds):Rel nums H (stepT (skO H) op os) (stepT (fun op cs=>ag FK1 ⟨op,cs⟩) op cs) (stepT (fun op cs=>ag FK2 ⟨op,cs⟩) op ds):=by
 by_cases hn:none∈os
 ·have e:stepT (skO H) op os=none:=if_pos hn
  rw [e]
  rcases h.nones.mp hn with z|z
  ·rw [show stepT (fun op cs=>ag FK1 ⟨op,cs⟩) op cs=none from if_pos z];rfl
  ·rw [show stepT (fun op cs=>ag FK2 ⟨op,cs⟩) op ds=none from if_pos z]
   cases stepT (fun op cs=>ag FK1 ⟨op,cs⟩) op cs <;> rfl
 obtain ⟨hl,hall,hos⟩:=h.somes hn
 have nc:none∉cs:=fun z=>hn (h.nones.mpr (.inl z))
 have nd:none∉ds:=fun z=>hn (h.nones.mpr (.inr z))
 rw [show stepT (skO H) op os=skO H op (getT os) from if_neg hn,show stepT (fun op cs=>ag FK1 ⟨op,cs⟩) op cs=ag FK1 ⟨op,getT cs⟩ from if_neg nc,show stepT (fun op cs=>ag FK2 ⟨op,cs⟩) op ds=ag FK2 ⟨op,getT ds⟩ from if_neg nd]
 generalize getT os=rs at hos
 generalize getT cs=cs' at hl hall hos
 generalize getT ds=ds' at hl hall hos
 have hkn:∀ p∈cs'.zip ds',(ag nums p).getD 0<H.par.length:=fun p hp=>by
  rcases e:ag nums p with _|k
  ·exact absurd e (hall p hp)
  ·rw [D.I.lp];exact (D.V.num p k e).1
 have hroot:rs.map (rt H.par)=rs:=by
  rw [hos,List.map_map]
  exact List.map_congr_left fun p hp=>rt_rt D.I.down (hkn p hp)
 obtain ⟨k1,k2⟩:=D.I.seek D.w (e:=⟨op,rs⟩) hroot
 have hsk:skO H op rs=(ag H.known ⟨op,rs⟩).map (rt H.par):=by delta skO cn;rw [show ({ op:=op,kids:=rs }:Nd).kids=rs from rfl,hroot]
 rw [hsk]
 have f1:=s1.I.knF s1.w
 have f2:=s2.I.knF s2.w
 rcases hm:ag H.known ⟨op,rs⟩ with _|m
 ·
  skip
  rcases c1:ag FK1 ⟨op,cs'⟩ with _|c
  ·rfl
  ·
   rcases c2:ag FK2 ⟨op,ds'⟩ with _|d
   ·rfl
   ·
    have b1:=(F1.mem _ _).mp c1
    have b2:=(F2.mem _ _).mp c2
    have r:Rdy nums ⟨op,cs'⟩ ⟨op,ds'⟩:=⟨rfl,hl,hall⟩
    obtain ⟨i,hi⟩:=List.getElem?_of_mem (D.all _ c _ d b1 b2 r)
    refine absurd ?_ (k2 hm i _ hi)
    skip
    show (⟨op,((cs'.zip ds').map fun p=>(ag nums p).getD 0).map (rt H.par)⟩:Nd)=⟨op,rs⟩
    rw [hos,List.map_map];rfl
 ·
  obtain ⟨d,hd,hcn⟩:=k1 m hm
  obtain ⟨e1,e2,a1,a2,r,rfl⟩:=D.V.node m d hd
  have hop:e1.op=op:=congrArg Nd.op hcn
  have hkids:((e1.kids.zip e2.kids).map fun p=>rt H.par ((ag nums p).getD 0))=(cs'.zip ds').map fun p=>rt H.par ((ag nums p).getD 0):=by
   have:=congrArg Nd.kids hcn
   skip
   rw [← hos]
   refine Eq.trans ?_ this
   show _=((e1.kids.zip e2.kids).map fun p=>(ag nums p).getD 0).map (rt H.par)
   rw [List.map_map];rfl
  have hz:e1.kids.zip e2.kids=cs'.zip ds':=by
   have hlen:=congrArg List.length hkids
   rw [List.length_map,List.length_map] at hlen
   refine List.ext_getElem? fun i=>?_
   rcases Nat.lt_or_ge i (e1.kids.zip e2.kids).length with q|q
   ·have g1:=List.getElem?_eq_getElem q
    have g2:=List.getElem?_eq_getElem (hlen▸q:i<(cs'.zip ds').length)
    have hi:=congrArg (fun l:List Nat=>l[i]?) hkids
    simp only [List.getElem?_map,g1,g2,Option.map_some,Option.some.injEq] at hi
    have b1:=r.all _ (List.mem_of_getElem? g1)
    have b2:=hall _ (List.mem_of_getElem? g2)
    have hlt:∀ {p},ag nums p≠Option.none→(ag nums p).getD 0<H.nodes.length:=fun {p} hp=>by
     rcases e:ag nums p with _|k
     ·exact absurd e hp
     ·exact (D.V.num p k e).1
    have:=(D.V.eq_iff (hlt b1) (hlt b2)).mp hi
    rw [D.V.kid b1,D.V.kid b2] at this
    rw [g1,g2,this]
   ·rw [List.getElem?_eq_none q,List.getElem?_eq_none (hlen▸q)]
  obtain ⟨z1,z2⟩:=zip_eq r.len hl hz
  have ee1:e1=⟨op,cs'⟩:=by cases e1;simp only at hop z1;rw [hop,z1]
  have ee2:e2=⟨op,ds'⟩:=by
   have:=r.op.symm.trans hop
   cases e2;simp only at this z2;rw [this,z2]
  have c1:=(F1.mem _ _).mpr (ee1▸a1)
  have c2:=(F2.mem _ _).mpr (ee2▸a2)
  rw [c1,c2]
  obtain ⟨k,hk,hrt⟩:=D.V.all m (List.getElem?_eq_some_iff.mp hd).1
  exact ⟨k,hk,congrArg Option.some hrt.symm⟩
theorem eval_rel (s1:Side H1) (s2:Side H2) (F1:FKof H1 FK1) (F2:FKof H2 FK2) (D:MDone a σ₀ loc1 loc2 H1 H2 md mn σ loc H nums π):∀ t:Tm,Rel nums H (evalT (skO H) t) (evalT (fun op cs=>ag FK1 ⟨op,cs⟩) t) (evalT (fun op cs=>ag FK2 ⟨op,cs⟩) t)
 | .l op=>step_rel s1 s2 F1 F2 D .nil
 | .f op x=>step_rel s1 s2 F1 F2 D (.cons (eval_rel s1 s2 F1 F2 D x) .nil)
 | .g op x y=>step_rel s1 s2 F1 F2 D (.cons (eval_rel s1 s2 F1 F2 D x) (.cons (eval_rel s1 s2 F1 F2 D y) .nil))
end
theorem firstMet_nodup {ns:List Int} (hn:ns.Nodup):∀ i,i≤ns.length→(firstMet (fun i=>ns.getD i 0) i).length=i
 | 0,_=>by rw [firstMet_zero];rfl
 | i+1,h=>by
  rw [firstMet_succ,step_length,firstMet_nodup hn i (Nat.le_of_succ_le h)]
  rw [if_neg]
  rw [firstMet_any,List.any_eq_true]
  rintro ⟨x,hx,e⟩
  obtain ⟨j,hj,rfl⟩:=List.mem_map.mp hx
  have hj:=List.mem_range.mp hj
  have e:ns.getD j 0=ns.getD i 0:=beq_iff_eq.mp e
  have a1:=getD_at 0 (Nat.lt_trans hj h:j<ns.length)
  have a2:=getD_at 0 (h:i<ns.length)
  rw [e,← a2] at a1
  exact absurd ((List.getElem?_inj (Nat.lt_trans hj h) hn).mp a1) (Nat.ne_of_lt hj)
section
variable {cx:Cx} {a:Ads} {n:Nat} {sc csc:Scope} {Γ:Str→Option V} {σ:Store} {Q:V→Store→Prop}
theorem P2_neb {b c:Bool} (h:Q (.bool (!(b==c))) σ):P2 cx n σ (compareOp .NotEq) (.bool b) (.bool c) Q:=fun B A s x y rd X r r'=>by
 rw [of_bool r,of_bool r']
 exact PySem.EqBoolInt.of_rcne (SeqAt.RcNeAt.bool_bool b c) (out_here X (rp_bool _) h)
theorem Ev_lenset {e:Expr} {fp pos fp2 pos2:Pos} (P:Px cx a) {l:List Nat} (hn:l.Nodup) (hz:l.length≤999) (h:EvIs cx n sc Γ σ e (nats l)) (q:Q (.int (l.length:Nat)) σ)
  (hk:sc.names.lookup ("set" : Str)=some .globalImplicit) (hk2:sc.names.lookup ("len" : Str)=some .globalImplicit) (hp:notStar e=true) :
  Ev cx n sc Γ σ (.Call (.Name ("len" : Str) fp2) [.Call (.Name ("set" : Str) fp) [e] [] pos] [] pos2) Q:=fun B env A s rd X E=>by
 show wpAny _ A (do callWith pos2 (← eval (.Name ("len" : Str) fp2) env) [] (backTo pos2 (starEach [.Call (.Name ("set" : Str) fp) [e] [] pos] env)) (backToKw pos2 (keywordEach [] env))) _ _ s
 refine wpAny_bind (glob_name X E hk2 P.g_len ?_)
 refine callWith_run X (keeps_builtin _) rfl ?_
 rw [starEach_cons rfl]
 show wpAny _ A (spliced ((false,eval (.Call (.Name ("set" : Str) fp) [e] [] pos) env)::backTo pos2 (starEach [] env))) _ _ s
 refine spliced_cons ?_
 show wpAny _ A (do callWith pos (← eval (.Name ("set" : Str) fp) env) [] (backTo pos (starEach [e] env)) (backToKw pos (keywordEach [] env))) _ _ s
 refine wpAny_bind (glob_name X E hk P.g_set ?_)
 have hL:ArgsIs cx n sc Γ σ [e] [nats l]:=.cons h .nil hp
 refine callWith_run X (keeps_type _) (by rw [List.all_cons,hp];rfl) (wpAny_mono (EvL.run hL B env A s rd X E) (fun zs s₁ o=>?_) fun o_ o_ x=>x)
 obtain ⟨vs,σ₁,X₁,S₁,r₁,rfl,rfl⟩:=o
 refine ⟨cx.X.keeps X₁.keep,?_⟩
 obtain ⟨x,_,rfl,hx,rfl⟩:=r₁
 rw [nats_int] at hx
 have g:=G_any hx
 obtain ⟨d,items,m,rfl,_,ho,hl⟩:=g
 have hI:IntsAre items.toList (l.map fun (k:Nat)=>(k:Int)):=RpL_ints.mp hl
 have hsz:items.size=l.length:=by rw [← Array.length_toList,IntsAre.length hI,List.length_map]
 refine call_set_list rd.1 ⟨_,ho,rfl,m,rfl⟩ hI (by rw [hsz];show _<4096;omega) fun h' tk hS k=>?_
 have k':∀ b o,s₁.heap.get? b=some o→h'.get? b=some o:=fun b o e=>k b o (Heap.lt_size e) e
 refine spliced_nil ⟨cx.X.keeps fun b o e=>k' b o (X₁.keep b o e),?_⟩
 obtain ⟨o,es,ep,t,b1,b2,b3,_,_,b4,b5,b6⟩:=hS
 have hnd:(l.map fun (k:Nat)=>(k:Int)).Nodup:=List.Pairwise.map _ (fun a b h z=>h (Int.ofNat_inj.mp z)) hn
 have hes:es.size=l.length:=by rw [b6,hsz];exact firstMet_nodup hnd _ (by rw [List.length_map];exact Nat.le_refl _)
 refine call_len_set b1 b2 b3 b5 (by omega) ?_
 refine Out.pre S₁ (out_keep (tk:=tk+1+1) X₁ k' (fun o_=>rp_int _ _) ?_)
 rw [hes];exact q
end
set_option genInjectivity false in
structure LC where
 (a:Ads)
 (σ₀:Store)
 (loc1 loc2:Slot→Addr)
 (rows1 rows2:List Nd)
 (ps1 ps2:List Pr)
 (H1 H2:HS)
 (FK1 FK2:List (Nd×Nat))
 (md mn:Addr)
 (σb:Store)
 (loc:Slot→Addr)
 (H:HS)
 (nums:NM)
 (π:Nat→Pr)
 (S:SM)
 (pd:Addr)
structure LwΓ (W:LC) (Γ:Str→Option V):Prop where
 one:Γ ("one" : Str)=some (hV W.a W.loc1)
 other:Γ ("other" : Str)=some (hV W.a W.loc2)
 rows:Γ ("rows" : Str)=some (nds W.rows1)
 others:Γ ("others" : Str)=some (nds W.rows2)
 lots:Γ ("lots" : Str)=some (nats ((List.range W.rows1.length).map (rt W.H1.par)))
 late:Γ ("late" : Str)=some (nats ((List.range W.rows2.length).map (rt W.H2.par)))
 known:Γ ("known" : Str)=some (.dT (encN W.FK1))
 knew:Γ ("knew" : Str)=some (.dT (encN W.FK2))
 meet:Γ ("meet" : Str)=some (mV W.a W.md)
 both:Γ ("both" : Str)=some (.dT (encS W.S))
 places:Γ ("places" : Str)=some (.ref W.pd)
noncomputable def LC.D (W:LC) (σ:Store):Prop:=MDone W.a W.σ₀ W.loc1 W.loc2 W.H1 W.H2 W.md W.mn σ W.loc W.H W.nums W.π
structure LwS (W:LC):Prop where
 D:W.D W.σb
 O1:SideOut W.rows1 W.ps1 W.H1
 O2:SideOut W.rows2 W.ps2 W.H2
 F1:FKof W.H1 W.FK1
 F2:FKof W.H2 W.FK2
 keys:(W.S.map (·.1)).Nodup
 mem:∀ p,ag W.S p≠none↔Sh W.H1 W.H2 p.1 p.2
 size:W.S.length≤36
theorem MDone.keep {a:Ads} {σ₀ σ σ':Store} {loc1 loc2 loc:Slot→Addr} {H1 H2 H:HS} {md mn:Addr} {nums:NM} {π:Nat→Pr} (D:MDone a σ₀ loc1 loc2 H1 H2 md mn σ loc H nums π) (k:∀ x,σ x≠none→σ' x=σ x):MDone a σ₀ loc1 loc2 H1 H2 md mn σ' loc H nums π:=
 { D with M:=D.M.keep k }
noncomputable abbrev PMs:=List (Pr×Int)
noncomputable def encI (l:PMs):List (List At×V):=l.map fun p=>(pairAt p.1,V.int p.2)
theorem dget_encI (l:PMs) (p:Pr):dget (encI l) (pairAt p)=(ag l p).map fun (i:Int)=>V.int i:=dget_enc pairAt pairAt_inj (fun (i:Int)=>V.int i) p l
theorem dput_encI {l:PMs} (hn:(l.map (·.1)).Nodup) (p:Pr) (i:Int):dput (encI l) (pairAt p) (V.int i)=encI (ap l p i):=dput_enc pairAt pairAt_inj (fun (i:Int)=>V.int i) p i hn
noncomputable def cv (H:HS) (nums:NM) (p:Pr):Int:=ov ((ag nums p).map (rt H.par))
theorem classV_cv (H1 H2 H:HS) (nums:NM) (x y:Nat):classV H1 H2 H nums x y=cv H nums (rt H1.par x,rt H2.par y):=by
 delta classV cv
 cases ag nums (rt H1.par x,rt H2.par y) <;> rfl
structure PmOk (W:LC) (σ:Store) (PM:PMs) (k:Nat) (D:Nat→Nat→Prop):Prop where
 at_:σ W.pd=some (.dT (encI PM))
 keys:(PM.map (·.1)).Nodup
 val:∀ p c,ag PM p=some c→c=cv W.H W.nums p
 has:∀ x y,D x y→ag PM (rt W.H1.par x,rt W.H2.par y)≠none
 size:PM.length≤k
 rest:∀ x,W.σb x≠none→σ x=W.σb x∧x≠W.pd
section
variable {W:LC} {cx:Cx} {a:Ads} {n:Nat} {sc csc:Scope} {Γ:Str→Option V} {σ σ₀ σb:Store} {loc loc1 loc2:Slot→Addr} {H H1 H2:HS} {md mn pd:Addr} {nums:NM} {π:Nat→Pr} {rows1 rows2:List Nd} {ps1 ps2:List Pr} {FK1 FK2:List (Nd×Nat)} {S:SM} {Q:Fl→(Str→Option V)→Store→Prop} {rest:List Stmt}
theorem LwS.keep {W:LC} (L:LwS W) {σ:Store} {PM:PMs} {k:Nat} {D:Nat→Nat→Prop} (hp:PmOk W σ PM k D):W.D σ:=MDone.keep L.D fun x hx=>(hp.rest x hx).1
theorem LwS.iff (L:LwS W) (p:Pr):ag W.nums p≠none↔ag W.S p≠none:=(nums_iff L.O1.side L.O2.side L.D p).trans (L.mem p).symm
theorem LwS.n1 (L:LwS W):W.rows1.length≤6∧W.rows2.length≤6∧W.H.nodes.length≤36:=⟨by rw [← L.O1.nodes];exact L.O1.side.n,by rw [← L.O2.nodes];exact L.O2.side.n,L.D.toMState.sz L.O1.side L.O2.side⟩
theorem PmOk.weak {PM:PMs} {k k':Nat} {D D':Nat→Nat→Prop} (h:PmOk W σ PM k D) (hk:k≤k') (hd:∀ x y,D' x y→D x y):PmOk W σ PM k' D':={ h with has:=fun x y z=>h.has x y (hd x y z),size:=Nat.le_trans h.size hk }
theorem len_nds {m:Nat} {σ':Store} {rows:List Nd} (h:rows.length≤6):Cl cx m σ' (.builtin "len") [nds rows] (Is (.int (rows.length:Nat)) σ'):=Cl_len (l:=rows.map fun d=>T d.at) (c:=nds rows) rfl rfl (by rw [List.length_map];exact Nat.le_trans h (by decide)) (by rw [List.length_map];exact .rfl)
theorem rts_at {k:Nat} {rows:List Nd} {f:Nat→Nat} (h:k<rows.length):((List.range rows.length).map f)[k]? = some (f k):=by rw [List.getElem?_map,List.getElem?_range h];rfl
theorem rts_len {rows:List Nd} {f:Nat→Nat} (h:rows.length≤6):((List.range rows.length).map f).length≤1000000:=by rw [List.length_map,List.length_range];exact Nat.le_trans h (by decide)
theorem LwΓ.up {Γ:Str→Option V} (g:LwΓ W Γ) {x:Str} {v:V} (h:(["one", "other", "rows", "others", "lots", "late", "known", "knew", "meet", "both", "places"]:List Str).contains x=false):LwΓ W (upd Γ x v):=by
 have k:∀ {y:Str},y∈(["one", "other", "rows", "others", "lots", "late", "known", "knew", "meet", "both", "places"]:List Str)→upd Γ x v y=Γ y:=fun {y} hy=>if_neg fun e=>by
  rw [e] at hy
  rw [List.contains_iff_mem.mpr hy] at h
  contradiction
 exact ⟨(k (by decide)).trans g.one,(k (by decide)).trans g.other,(k (by decide)).trans g.rows,(k (by decide)).trans g.others,(k (by decide)).trans g.lots,(k (by decide)).trans g.late,(k (by decide)).trans g.known,(k (by decide)).trans g.knew,(k (by decide)).trans g.meet,(k (by decide)).trans g.both,(k (by decide)).trans g.places⟩
noncomputable def LD (W:LC) (i j:Nat) (x y:Nat):Prop:=x<i∧y<W.rows2.length∨x=i∧y<j
inductive L7 (W:LC) (i:Nat) (Γ:Str→Option V) (σ:Store):Prop
 | mk (PM:PMs) (g:LwΓ W Γ) (h:PmOk W σ PM (6*i) fun x y=>x<i∧y<W.rows2.length)
inductive L7' (W:LC) (i j:Nat) (Γ:Str→Option V) (σ:Store):Prop
 | mk (PM:PMs) (g:LwΓ W Γ) (ga:Γ ("a" : Str)=some (.int (i:Nat))) (h:PmOk W σ PM (6*i+j) (LD W i j))
theorem L7'.put {i j:Nat} {PM:PMs} {σ:Store} {Γ:Str→Option V} (g:LwΓ W Γ) (ga:Γ ("a" : Str)=some (.int (i:Nat))) (h:PmOk W σ PM (6*i+(j+1)) (LD W i j)) (hh:ag PM (rt W.H1.par i,rt W.H2.par j)≠none):L7' W i (j+1) Γ σ:=by
 refine ⟨PM,g,ga,h.at_,h.keys,h.val,fun x y hd=>?_,h.size,h.rest⟩
 rcases hd with hd|⟨rfl,hy⟩
 ·exact h.has x y (.inl hd)
 ·rcases Nat.lt_or_eq_of_le (Nat.le_of_lt_succ hy) with w|w
  ·exact h.has _ _ (.inr ⟨rfl,w⟩)
  ·exact w▸hh
theorem L7'.turn {i:Nat} {σ:Store} {Γ:Str→Option V} (h2:W.rows2.length≤6) (h:L7' W i W.rows2.length Γ σ):L7 W (i+1) Γ σ:=by
 obtain ⟨PM,g,_,h⟩:=h
 refine ⟨PM,g,h.weak (Nat.add_le_add_left h2 _) fun x y hd=>?_⟩
 exact (Nat.lt_or_eq_of_le (Nat.le_of_lt_succ hd.1)).imp (fun w=>⟨w,hd.2⟩) fun w=>⟨w,hd.2⟩
theorem PmOk.put {i j:Nat} {PM:PMs} {σ:Store} {p:Pr} {k:Nat} {D:Nat→Nat→Prop} (h:PmOk W σ PM k D) (hv:ag PM p=none):PmOk W (σ.set W.pd (.dT (encI (ap PM p (cv W.H W.nums p))))) (ap PM p (cv W.H W.nums p)) (k+1) D∧ag (ap PM p (cv W.H W.nums p)) p≠none:=by
 refine ⟨⟨Store.set_self _ _,ap_nodup h.keys,fun q c hc=>?_,fun x y hd=>?_,?_,fun x hx=>⟨(Store.set_ne _ (h.rest x hx).2).trans (h.rest x hx).1,(h.rest x hx).2⟩⟩,?_⟩
 ·rw [ag_ap] at hc
  by_cases w:q=p
  ·rw [if_pos w] at hc;rw [w];exact (Option.some.inj hc).symm
  ·rw [if_neg w] at hc;exact h.val q c hc
 ·rw [ag_ap]
  by_cases w:(rt W.H1.par x,rt W.H2.par y)=p
  ·rw [if_pos w];exact fun z=>nomatch z
  ·rw [if_neg w];exact h.has x y hd
 ·rw [ap_none hv,List.length_append];exact Nat.succ_le_succ h.size
 ·rw [ag_ap,if_pos rfl];exact fun z=>nomatch z
theorem z_small {i j a b:Nat} (hi:i<a) (hj:j<b) (z1:a≤6) (z2:b≤6):6*i+j≤1000000:=Nat.le_trans (Nat.add_le_add (Nat.mul_le_mul_left 6 (Nat.le_trans (Nat.le_of_lt hi) z1)) (Nat.le_trans (Nat.le_of_lt hj) z2)) (by decide)
theorem same_sign (L:LwS W) (pr:Pr):decide (cv W.H W.nums pr≥0)=(dget (encS W.S) (pairAt pr)).isSome:=by
 rw [dget_encS,Option.isSome_map]
 have:=L.iff pr
 delta cv
 rcases e1:ag W.nums pr with _|k <;> rcases e2:ag W.S pr with _|u
 ·rfl
 ·exact absurd e1 (this.mpr (by rw [e2];exact fun z=>nomatch z))
 ·exact absurd e2 (this.mp (by rw [e1];exact fun z=>nomatch z))
 ·exact decide_eq_true (Int.natCast_nonneg (rt W.H.par k))
set_option maxHeartbeats 1000000 in
theorem lw7 (P:Px cx W.a) (L:LwS W) (g:LwΓ W Γ) (hp:PmOk W σ [] 0 (fun o_ o_=>False))
  (q:∀ Γ₁ σ₁ PM,LwΓ W Γ₁→PmOk W σ₁ PM 36 (fun x y=>x<W.rows1.length∧y<W.rows2.length)→Exs cx (n+4) (defScope (defAt 22)) Γ₁ σ₁ rest Q) :
  Exs cx (n+4) (defScope (defAt 22)) Γ σ (((defBody (defAt 22)).drop 7).take 1++rest) Q:=by
 conv=>arg 6;whnf
 obtain ⟨z1,z2,z3⟩:=L.n1
 have z6:∀ {k:Nat},k≤6→k≤1000000:=fun h=>Nat.le_trans h (by decide)
 have e1:=L.O1.side.I.lp.trans (congrArg List.length L.O1.nodes)
 have e2:=L.O2.side.I.lp.trans (congrArg List.length L.O2.nodes)
 refine Exs_cons (Ex_for (fun o_=>L7 W) (EvI_range (by rfl) P.g_range rfl (EvIs.ev (Ev_b P.g_len (.cons (EvIs_loc g.rows) .nil) (len_nds z1)) ⟨_,rfl,z6 z1,⟨[],g,hp.weak (Nat.le_refl _) fun o_ o_ z=>absurd z.1 (Nat.not_lt_zero _)⟩,?_,?_⟩)))
 ·rintro i Γ₁ σ₁ v hv ⟨PM,g,hp⟩
  obtain ⟨hi,rfl⟩:=upto_at hv
  refine As_name (by first | exact .inl (by rfl) | exact .inr (by rfl)) (Exs_wk fun Q₁ hq₁=>Exs_cons (Ex_for (fun o_=>L7' W i) (EvI_range (by rfl) P.g_range rfl (EvIs.ev (Ev_b P.g_len (.cons (EvIs_loc g.others) .nil) (len_nds z2)) ⟨_,rfl,z6 z2,⟨PM,g.up (by rfl),rfl,hp.weak (Nat.le_refl _) fun o_ o_ z=>z.resolve_right fun w=>absurd w.2 (Nat.not_lt_zero _)⟩,?_,?_⟩))))
  ·clear hp g hv
   rintro j Γ₂ σ₂ v hv ⟨PM,g,ga,hp⟩
   obtain ⟨hj,rfl⟩:=upto_at hv
   have D:=L.keep hp
   refine As_name (by first | exact .inl (by rfl) | exact .inr (by rfl)) (Exs_wk fun Q₂ hq=>Exs_cons (Ex_swap (hs:=by intro _;rfl) (names:=["c", "pair"]) (allLoc (by decide +kernel)) (EvIs.ev (EvIs_tup (vs:=[.int (cv W.H W.nums (rt W.H1.par i,rt W.H2.par j)),T (pairAt (rt W.H1.par i,rt W.H2.par j))]) (.cons ?_ (.cons (EvIs_tup (.cons (Ev_sb (EvIs_loc (v:=nats _) g.lots) (EvIs_loc ga) (P2_itemN rfl (rts_len z1) (rts_at hi) .rfl)) (.cons (Ev_sb (EvIs_loc (v:=nats _) g.late) (EvIs_loc rfl) (P2_itemN rfl (rts_len z2) (rts_at hj) .rfl)) .nil))) .nil))) ⟨_,_,rfl,rfl,rfl,?_⟩) (hw:=by intro env e;cases env;dsimp only at e;cases e;rfl)))
   ·rw [← classV_cv]
    exact Ev_m (EvIs_loc g.meet) (can_mt (hn:=by rfl) D.M P.meet_class_of_m) (.cons (EvIs_loc ga) (.cons (EvIs_loc rfl) .nil)) (M_class_of P D.M L.O1.side.I.down L.O2.side.I.down D.I.down (z6 (e1▸z1)) (z6 (e2▸z2)) (Nat.le_trans (D.I.lp▸z3) (by decide)) (fun p k h=>D.I.lp▸(D.V.num p k h).1) (e1▸hi) (e2▸hj))
   have fin:=@L7'.put W i j
   generalize (rt W.H1.par i,rt W.H2.par j)=pr at fin
   have hz':(encI PM).length≤1000000:=by delta encI;rw [List.length_map];exact Nat.le_trans hp.size (z_small hi hj z1 z2)
   have g':∀ {x y z:V},LwΓ W (upd (upd (upd Γ₂ "b" x) "pair" y) "c" z):=((g.up (by rfl)).up (by rfl)).up (by rfl)
   refine Exs_cons (Ex_if (Te_or (Te_cm (Ev_cm (EvIs_loc rfl) EvIs_int (P2_ge .rfl)) (Ev_cm (EvIs_loc (v:=T (pairAt pr)) rfl) (EvIs_loc g.both) (P2_inT rfl .rfl)) (P2_neb (.of ⟨fun e=>?_,fun o_=>?_⟩)))))
   ·rw [same_sign L,beq_self_eq_true] at e;contradiction
   refine Te_or (Te_cmp (hm:=by with_unfolding_all rfl) (Ev_bm (EvIs_loc g.places) (Mt_setdefT hp.at_) (.cons (v:=T (pairAt pr)) (EvIs_loc rfl) (.cons (v:=.int (cv W.H W.nums pr)) (EvIs_loc rfl) .nil)) (Cl_setdefT hp.at_ hz' (fun v hv=>?_) fun hv=>?_)))
   ·rw [dget_encI,Option.map_eq_some_iff] at hv
    obtain ⟨c,hc,rfl⟩:=hv
    obtain rfl:=hp.val _ _ hc
    refine EvIs.ev (EvIs_loc rfl) (P2_nei ⟨_,rfl,fun e=>?_,fun o_=>Te_or_nil ⟨fun e=>Bool.noConfusion e,fun o_=>Exs_nil (Exs_nil (hq (fin g' ga (hp.weak (Nat.le_succ _) fun o_ o_ z=>z) (by rw [hc];exact fun z=>nomatch z))))⟩⟩)
    rw [decide_eq_true rfl] at e;contradiction
   ·rw [dget_encI,Option.map_eq_none_iff] at hv
    rw [dput_encI hp.keys]
    have pp:=hp.put (i:=i) (j:=j) hv
    refine EvIs.ev (EvIs_loc rfl) (P2_nei ⟨_,rfl,fun e=>?_,fun o_=>Te_or_nil ⟨fun e=>Bool.noConfusion e,fun o_=>Exs_nil (Exs_nil (hq (fin g' ga pp.1 pp.2)))⟩⟩)
    rw [decide_eq_true rfl] at e;contradiction
  ·rintro Γ₂ σ₂ h
   rw [upto_len] at h
   exact Exs_nil (hq₁ (h.turn z2))
 ·rintro Γ₁ σ₁ ⟨PM,g,hp⟩
  rw [upto_len] at hp
  exact q Γ₁ σ₁ PM g (hp.weak (Nat.mul_le_mul_left 6 z1) fun o_ o_ z=>z)
end
section
variable {W:LC} {cx:Cx} {a:Ads} {n:Nat} {sc csc:Scope} {Γ:Str→Option V} {σ σ₀ σb:Store} {loc loc1 loc2:Slot→Addr} {H H1 H2:HS} {md mn pd:Addr} {nums:NM} {π:Nat→Pr} {rows1 rows2:List Nd} {ps1 ps2:List Pr} {FK1 FK2:List (Nd×Nat)} {S:SM} {Q:Fl→(Str→Option V)→Store→Prop} {rest:List Stmt} {PM:PMs}
theorem Kn.num {rows:List Nd} {ps:List Pr} {K:HS} (O:SideOut rows ps K) {e:Nd} {c:Nat} (h:Kn K e c):∃ i,i<rows.length∧rt K.par i=c:=by
 obtain ⟨i,d,hi,hc,_⟩:=h
 rw [O.nodes] at hi
 exact ⟨i,(List.getElem?_eq_some_iff.mp hi).1,hc⟩
theorem pm_at (L:LwS W) (hp:PmOk W σ PM 36 (fun x y=>x<W.rows1.length∧y<W.rows2.length)) {e1 e2:Nd} {c d:Nat} (h1:Kn W.H1 e1 c) (h2:Kn W.H2 e2 d):ag PM (c,d)=some (cv W.H W.nums (c,d)):=by
 obtain ⟨i,hi,rfl⟩:=h1.num L.O1
 obtain ⟨j,hj,rfl⟩:=h2.num L.O2
 have:=hp.has i j ⟨hi,hj⟩
 rcases e:ag PM (rt W.H1.par i,rt W.H2.par j) with _|v
 ·exact absurd e this
 ·rw [hp.val _ _ e]
theorem keysV_encS (S:SM):keysV (encS S)=S.map fun p=>T (pairAt p.1):=by unfold keysV encS;rw [List.map_map];rfl
theorem Sh.kn {c d:Nat} (h:Sh H1 H2 c d):∃ e1 e2,Kn H1 e1 c∧Kn H2 e2 d:=by
 cases h with
 | mk e1 e2 _ _ h1 h2 _ _=>exact ⟨e1,e2,h1,h2⟩
noncomputable def ksOf (H:HS) (nums:NM) (S:SM):List Nat:=S.map fun p=>rt H.par ((ag nums p.1).getD 0)
theorem lw8 (P:Px cx W.a) (L:LwS W) (g:LwΓ W Γ) (hp:PmOk W σ PM 36 (fun x y=>x<W.rows1.length∧y<W.rows2.length))
  (q:∀ Γ₁,LwΓ W Γ₁→Exs cx (n+4) (defScope (defAt 22)) Γ₁ σ rest Q) :
  Exs cx (n+4) (defScope (defAt 22)) Γ σ (((defBody (defAt 22)).drop 8).take 2++rest) Q:=by
 conv=>arg 6;whnf
 have D:=L.keep hp
 have hn:=L.n1.2.2
 have hnum:∀ p∈W.S,∃ k,ag W.nums p.1=some k:=fun p hp'=>by
  have h1:ag W.S p.1≠none:=by rw [ag_of_mem L.keys hp'];exact fun z=>by contradiction
  rcases e:ag W.nums p.1 with _|k
  ·exact absurd e ((L.iff p.1).mpr h1)
  ·exact ⟨k,rfl⟩
 have hat:∀ p∈W.S,ag PM p.1=some ((rt W.H.par ((ag W.nums p.1).getD 0):Nat):Int):=fun p hp'=>by
  have h1:ag W.S p.1≠none:=by rw [ag_of_mem L.keys hp'];exact fun z=>by contradiction
  obtain ⟨e1,e2,a1,a2⟩:=((L.mem p.1).mp h1).kn
  rw [show p.1=(p.1.1,p.1.2) from rfl,pm_at L hp a1 a2]
  obtain ⟨k,hk⟩:=hnum p hp'
  unfold cv
  rw [show (p.1.1,p.1.2)=p.1 from rfl,hk];rfl
 have hlen:(ksOf W.H W.nums W.S).length=W.S.length:=List.length_map _
 have hlt:∀ k∈ksOf W.H W.nums W.S,k<W.H.par.length∧rt W.H.par k=k:=fun k hk=>by
  obtain ⟨p,hp',rfl⟩:=List.mem_map.mp hk
  obtain ⟨m,hm⟩:=hnum p hp'
  have h1:m<W.H.par.length:=by rw [D.I.lp];exact (D.V.num _ _ hm).1
  rw [hm]
  exact ⟨rt_lt D.I.down h1,rt_rt D.I.down h1⟩
 have hnd:(ksOf W.H W.nums W.S).Nodup:=by
  have hk:=L.keys
  unfold List.Nodup at hk
  rw [List.pairwise_map] at hk
  show List.Pairwise _ (W.S.map _)
  rw [List.pairwise_map]
  refine List.Pairwise.imp_of_mem (fun {p q} hp' hq hne z=>hne ?_) hk
  obtain ⟨k,hk⟩:=hnum p hp'
  obtain ⟨k',hk'⟩:=hnum q hq
  rw [hk,hk'] at z
  obtain ⟨b1,b2⟩:=D.V.num _ _ hk
  obtain ⟨c1,c2⟩:=D.V.num _ _ hk'
  rw [← b2,← c2]
  exact (D.V.eq_iff b1 c1).mp z
 refine Exs_cons (Ex_comp (hs:=by intro _ _;rfl) (by decide +kernel) (by rfl) (by rfl) (EvI_keys (EvIs.ev (EvIs_loc g.both) ⟨_,rfl,vi (ksOf W.H W.nums W.S),turnsL (by rw [vi_len,hlen,keysV_encS,List.length_map]) (by rw [vi_len,hlen];exact Nat.le_trans L.size (by decide)) (fun i w u hw hu=>?_),.inl ?_⟩)) (by intro env e;cases env;dsimp only at e;cases e;rfl))
 ·rw [keysV_encS,List.getElem?_map,Option.map_eq_some_iff] at hw
  obtain ⟨p,hp',rfl⟩:=hw
  unfold vi ksOf at hu
  rw [List.getElem?_map,List.getElem?_map,hp'] at hu
  (injection hu with hu;subst hu)
  exact Ev_sb (EvIs_loc g.places) (EvIs_loc rfl) (P2_itemT hp.at_ (by rw [dget_encI,hat p (List.mem_of_getElem? hp')];rfl) .rfl)
 generalize hΓ:upd Γ _ _=Γ'
 have g':LwΓ W Γ':=by subst hΓ;exact g.up (by rfl)
 have gt:Γ' ("there" : Str)=some (nats (ksOf W.H W.nums W.S)):=by subst hΓ;rfl
 clear hΓ g
 have zk:(ksOf W.H W.nums W.S).length≤999:=by rw [hlen];exact Nat.le_trans L.size (by decide)
 have zp:W.H.par.length≤1000000:=by rw [D.I.lp];exact Nat.le_trans (by assumption) (by decide)
 refine Exs_cons (Ex_if (Te_or (Te_cm (Ev_lenset (hk:=by rfl) (hk2:=by rfl) (hp:=by rfl) P hnd zk (EvIs_loc gt) .rfl) (Ev_b P.g_len (.cons (EvIs_loc gt) .nil) (Cl_lenN rfl (Nat.le_trans zk (by decide)) .rfl)) (P2_nei (.of ⟨fun e=>?_,fun o_=>?_⟩)))))
 ·rw [decide_eq_true rfl] at e;contradiction
 refine Te_or (Te_cmp (hm:=by with_unfolding_all rfl) (Ev_comp (by decide +kernel) (by rfl) (EvI_seq (EvIs.ev (EvIs_loc (v:=nats (ksOf W.H W.nums W.S)) gt) ⟨vi (ksOf W.H W.nums W.S),rfl,_,Turns_filter id (fun o_=>false) (by rw [vi_len];exact Nat.le_trans zk (by decide)) (fun v hv=>?_) (fun v hv hp=>Bool.noConfusion hp),.inl ?_⟩))))
 ·obtain ⟨k,hk,rfl⟩:=mem_vi hv
  obtain ⟨h1,h2⟩:=hlt k hk
  refine Te_cm (Ev_m (EvIs_at (EvIs_loc g'.meet) (fl_heap D.M) P.meet_a_heap) (can_h D.M.h P.heap_find_m) (.cons (EvIs_loc rfl) .nil) (H_find P D.M.h D.I.down zp h1)) (EvIs_loc rfl) (P2_nei (.of ⟨rfl,?_⟩))
  rw [h2,decide_eq_true rfl];rfl
 ·rw [show List.map id (List.filter (fun o_=>false) (vi (ksOf W.H W.nums W.S)))=[] by rw [List.filter_eq_nil_iff.mpr fun o_ o_=>Bool.noConfusion];rfl]
  refine Ev_list_fz ⟨Nat.le_of_ble_eq_true rfl,P2_ne rfl rfl (by decide) fun b hb=>⟨b,rfl,fun e=>absurd rfl (hb.mp e),fun o_=>Te_or_nil ⟨fun e=>Bool.noConfusion e,fun o_=>Exs_nil (q Γ' g')⟩⟩⟩
theorem le_split {a m:Nat} (h:a≤m):∃ k,m=k+a:=⟨m - a,(Nat.sub_add_cancel h).symm⟩
theorem klass_at (P:Px cx a) {FK:List (Nd×Nat)} (t:Tm) {m:Nat} (h:t.rank+1≤m):CcIs cx m σ (.ref a.f_klass) [t.v,.dT (encN FK)] (.int (ov (evalT (fun op cs=>ag FK ⟨op,cs⟩) t))):=by
 obtain ⟨k,rfl⟩:=le_split h
 exact klass P t k
theorem place_at (P:Px cx a) {B:Nat} (h:HeapAt a.c σ loc H) (I:HInv [] B H) (hn:H.nodes.length≤64) (hB:B≤9999) (t:Tm) {m:Nat} (hm:t.rank+4≤m):CcIs cx m σ (.ref a.f_place) [hV a loc,t.v] (.int (ov (evalT (skO H) t))):=by
 obtain ⟨k,rfl⟩:=le_split hm
 exact place P h I hn hB t k
theorem evalT_in {FK:List (Nd×Nat)} {t:Tm} {c:Nat} (h:evalT (fun op cs=>ag FK ⟨op,cs⟩) t=some c):∃ e,ag FK e=some c:=by
 have:∀ {op os},stepT (fun op cs=>ag FK ⟨op,cs⟩) op os=some c→∃ e,ag FK e=some c:=fun {op os} h=>by
  unfold stepT at h
  split at h
  ·contradiction
  ·exact ⟨_,h⟩
 cases t <;> exact this h
inductive L10 (W:LC) (σ:Store) (l:List V) (Γ:Str→Option V) (σ₁:Store):Prop
 | mk (ht:∀ v∈l,∃ t:Tm,v=t.v∧t.rank≤3) (g:LwΓ W Γ) (e:σ₁=σ)
theorem rel_none {H:HS} {nums:NM} {o o1 o2:Option Nat} (rel:match (motive:=Option Nat→Option Nat→Prop) o1,o2 with | some c,some d=>∃ k,ag nums (c,d)=some k∧o=some (rt H.par k) | _,_=>o=none) (h:none∈[o1,o2]):o=none:=by
 rcases List.mem_cons.mp h with z|z
 ·rw [← z] at rel;exact rel
 ·rw [← List.mem_singleton.mp z] at rel
  cases o1 <;> exact rel
theorem lw10 (P:Px cx W.a) (L:LwS W) (g:LwΓ W Γ) (hp:PmOk W σ PM 36 (fun x y=>x<W.rows1.length∧y<W.rows2.length))
  (q:∀ Γ₁,LwΓ W Γ₁→Exs cx (n+8) (defScope (defAt 22)) Γ₁ σ rest Q) :
  Exs cx (n+8) (defScope (defAt 22)) Γ σ (((defBody (defAt 22)).drop 10).take 1++rest) Q:=by
 conv=>arg 6;whnf
 have D:=L.keep hp
 have hn:=L.n1.2.2
 refine Exs_cons (Ex_for (fun l o_=>L10 W σ l) (EvI_seq (Ev_c P.f_terms_g P.f_terms_k .nil (terms P fun us hus=>⟨us,rfl,⟨hus.all,g,rfl⟩,?_,?_⟩))))
 ·rintro i Γ₁ σ₁ v hv ⟨ht,g,rfl⟩
  obtain ⟨t,rfl,hr⟩:=ht v (List.mem_of_getElem? hv)
  have rel:=eval_rel L.O1.side L.O2.side L.F1 L.F2 D t
  have zr:t.rank+1≤n+8:=Nat.le_trans (Nat.succ_le_succ hr) (Nat.le_trans (by decide) (Nat.le_add_left 8 n))
  have zr4:t.rank+4≤n+8:=Nat.le_trans (Nat.add_le_add_right hr 4) (Nat.le_trans (by decide) (Nat.le_add_left 8 n))
  refine As_name (by first | exact .inl (by rfl) | exact .inr (by rfl)) (Exs_wk fun Q' hq=>Exs_name (EvIs.ev (EvIs_tup (.cons (Ev_c P.f_klass_g P.f_klass_k (.cons (EvIs_loc rfl) (.cons (EvIs_loc g.known) .nil)) (klass_at P t zr)) (.cons (Ev_c P.f_klass_g P.f_klass_k (.cons (EvIs_loc rfl) (.cons (EvIs_loc g.knew) .nil)) (klass_at P t zr)) .nil))) ?_))
  have fin:∀ {v:V},LwΓ W (upd (upd Γ₁ "term" t.v) "pair" v):=(g.up (by rfl)).up (by rfl)
  generalize ho:evalT (skO W.H) t=o at rel
  have hpl:CcIs cx (n+8) σ₁ (.ref W.a.f_place) [hV W.a W.loc,t.v] (.int (ov o)):=ho▸place_at P D.M.h D.I (Nat.le_trans hn (by decide)) (Nat.le_trans (Nat.mul_le_mul_left 2 hn) (by decide)) t zr4
  generalize h1:evalT (fun op cs=>ag W.FK1 ⟨op,cs⟩) t=o1 at rel ⊢
  generalize h2:evalT (fun op cs=>ag W.FK2 ⟨op,cs⟩) t=o2 at rel ⊢
  refine Exs_if (b:=false) (Te_cm (v:=.int (ov o)) (Ev_c P.f_place_g P.f_place_k (.cons (EvIs_at (EvIs_loc fin.meet) (fl_heap D.M) P.meet_a_heap) (.cons (EvIs_loc rfl) .nil)) hpl) (u:=.int (ov o)) ?_ (P2_nei (.of ⟨by rw [decide_eq_true rfl];rfl,rfl⟩))) (fun e=>Bool.noConfusion e) fun o_=>Exs_nil (Exs_nil (hq ⟨ht,fin,rfl⟩))
  have hin:V.int (-1)∈[V.int (ov o1),V.int (ov o2)]↔none∈[o1,o2]:=ovs_mem (os:=[o1,o2])
  refine Ev_if (Te_cm EvIs_neg (EvIs_loc (v:=.tup [.int (ov o1),.int (ov o2)]) rfl) (P2_in (c:=.tup [.int (ov o1),.int (ov o2)]) rfl rfl rfl rfl (Nat.zero_le _) fun b hb=>.of ⟨fun e=>?_,fun e=>?_⟩))
  ·rw [rel_none rel (hin.mp (hb.mp e))];exact EvIs_neg
  ·have hnn:none∉[o1,o2]:=fun z=>by have:=hb.mpr (hin.mpr z);rw [e] at this;contradiction
   rcases o1 with _|c
   ·exact absurd (.head _) hnn
   rcases o2 with _|d
   ·exact absurd (.tail _ (.head _)) hnn
   obtain ⟨k,hk,rfl⟩:=rel
   obtain ⟨e1,a1⟩:=evalT_in h1
   obtain ⟨e2,a2⟩:=evalT_in h2
   have hpm:=pm_at L hp ((L.F1.mem _ _).mp a1) ((L.F2.mem _ _).mp a2)
   have hcv:cv W.H W.nums (c,d)=ov (some (rt W.H.par k)):=by delta cv;rw [hk];rfl
   refine Ev_sb (EvIs_loc fin.places) (EvIs_loc (v:=T (pairAt (c,d))) rfl) (P2_itemT hp.at_ (by rw [dget_encI,hpm];rfl) ?_)
   rw [hcv];exact .rfl
 ·rintro Γ₁ σ₁ ⟨-,g,rfl⟩
  exact q Γ₁ g
theorem EvIs_rangeN {x:Str} {px fp p2 pos:Pos} {elt e:Expr} {k:Nat} {f:Nat→Nat} (P:Px cx a) (hok:compOk csc sc=true) (hx:csc.names.lookup x=some .local) (h:EvIs cx n sc Γ σ e (.int (k:Nat))) (hz:k≤1000000)
  (he:∀ i,i<k→EvIs cx n (relabel' csc sc) (upd (capΓ csc Γ) x (.int (i:Nat))) σ elt (.int (f i:Nat))) (hp:notStar e=true) (hk:sc.names.lookup ("range" : Str)=some .globalImplicit) (hs:∀ env y,foldedSetIterable (.Call (.Name ("range" : Str) fp) [e] [] p2) env y=pure y) :
  EvIs cx n sc Γ σ (.ListComp elt [⟨.Name x px,.Call (.Name ("range" : Str) fp) [e] [] p2,[],0⟩] csc pos) (nats ((List.range k).map f)):=by
 refine Ev_comp hok hx (EvI_range hk P.g_range hp (h.ev ⟨k,rfl,hz,vi ((List.range k).map f),turnsL ?_ ?_ (fun i w u hw hu=>?_),.inl .rfl⟩)) hs
 ·rw [vi_len,List.length_map,List.length_range];unfold upto;rw [List.length_map,List.length_range]
 ·rw [vi_len,List.length_map,List.length_range];exact hz
 ·unfold upto at hw
  rw [List.getElem?_map,Option.map_eq_some_iff] at hw
  obtain ⟨j,hj,rfl⟩:=hw
  unfold vi at hu
  rw [List.getElem?_map,List.getElem?_map,hj] at hu
  (injection hu with hu;subst hu)
  obtain ⟨y1,y2⟩:=List.getElem?_eq_some_iff.mp hj
  rw [List.length_range] at y1
  rw [List.getElem_range] at y2
  exact he j (y2▸y1)
theorem lw11 (P:Px cx W.a) (L:LwS W) (g:LwΓ W Γ) (hp:PmOk W σ PM 36 (fun x y=>x<W.rows1.length∧y<W.rows2.length))
  (q:Q (.ret (.bool true)) Γ σ):Exs cx (n+4) (defScope (defAt 22)) Γ σ ((defBody (defAt 22)).drop 11) Q:=by
 conv=>arg 6;whnf
 obtain ⟨z1,z2,z3⟩:=L.n1
 have D:=L.keep hp
 have s1:=L.O1.side.I
 have s2:=L.O2.side.I
 have l1:W.H1.nodes.length=W.rows1.length:=by rw [L.O1.nodes]
 have l2:W.H2.nodes.length=W.rows2.length:=by rw [L.O2.nodes]
 refine Exs_ret (Ev_and2 (Ev_cm (EvIs_rangeN (hp:=by rfl) (hk:=by rfl) (hs:=by intro _ _;rfl) (f:=rt W.H1.par) P (by decide +kernel) (by rfl) (Ev_m (EvIs_loc g.one) (can_h D.M.g1 P.heap_size_m) .nil (H_size P D.M.g1 (by omega))) (by omega) fun i hi=>Ev_m (EvIs_loc g.one) (can_h D.M.g1 P.heap_find_m) (.cons (EvIs_loc rfl) .nil) (H_find P D.M.g1 s1.down (by rw [s1.lp];omega) (by rw [s1.lp];exact hi))) (EvIs_loc g.lots) (P2_eq (nats_dat _) (nats_dat _) (Nat.le_trans (Nat.min_le_left _ _) (nats_depth _)) fun b hb=>?_)))
 have hb1:b=true:=hb.mpr (by rw [l1])
 refine ⟨b,rfl,fun e=>(by rw [hb1] at e;contradiction),fun o_=>?_⟩
 refine Ev_cm (EvIs_rangeN (hp:=by rfl) (hk:=by rfl) (hs:=by intro _ _;rfl) (f:=rt W.H2.par) P (by decide +kernel) (by rfl) (Ev_m (EvIs_loc g.other) (can_h D.M.g2 P.heap_size_m) .nil (H_size P D.M.g2 (by omega))) (by omega) fun i hi=>Ev_m (EvIs_loc g.other) (can_h D.M.g2 P.heap_find_m) (.cons (EvIs_loc rfl) .nil) (H_find P D.M.g2 s2.down (by rw [s2.lp];omega) (by rw [s2.lp];exact hi))) (EvIs_loc g.late) (P2_eq (nats_dat _) (nats_dat _) (Nat.le_trans (Nat.min_le_left _ _) (nats_depth _)) fun b hb=>?_)
 have hb2:b=true:=hb.mpr (by rw [l2])
 subst hb2
 exact q
end
section
variable {cx:Cx} {a:Ads} {n:Nat} {sc csc:Scope} {Γ:Str→Option V} {σ σ₀ σb:Store} {loc loc1 loc2:Slot→Addr} {H H1 H2:HS} {md mn pd:Addr} {nums:NM} {π:Nat→Pr} {rows1 rows2:List Nd} {ps1 ps2:List Pr} {FK1 FK2:List (Nd×Nat)} {S:SM} {Q:Fl→(Str→Option V)→Store→Prop} {rest:List Stmt} {PM:PMs}
theorem lwA (P:Px cx a) {ra:Addr} {items:Array Value} {ns:List Int} (g:Γ ("script" : Str)=some (.ref ra)) (hl:cx.h₀.IsList ra items) (hi:IntsAre items.toList ns) (hz:items.size≤1000000)
  (q:∀ Γ₁ σ₁ fd ns b,Γ₁ ("feed" : Str)=some (.ref fd)→σ₁ fd=some (.dS (feedL ns 0 b))→ns.length≤40→Exs cx (n+10) (defScope (defAt 22)) Γ₁ σ₁ rest Q) :
  Exs cx (n+10) (defScope (defAt 22)) Γ σ ((defBody (defAt 22)).take 2++rest) Q:=by
 conv=>arg 6;whnf
 have l40:(ns.take 40).length≤40:=by rw [List.length_take];omega
 generalize hns:ns.take 40=ms at l40
 have zz:(ms.map V.int).length≤1000000:=by rw [List.length_map];exact Nat.le_trans (by assumption) (by decide)
 have gi:∀ {f:Int→Int} {i:Nat} {w u:V},(ms.map V.int)[i]? = some w→((ms.map f).map V.int)[i]? = some u→∃ k,w=.int k∧u=.int (f k):=fun {f i w u} h1 h2=>by
  rw [List.getElem?_map,Option.map_eq_some_iff] at h1
  obtain ⟨k,hk,rfl⟩:=h1
  rw [List.getElem?_map,List.getElem?_map,hk] at h2
  (injection h2 with h2;subst h2)
  exact ⟨k,rfl,rfl⟩
 refine Exs_mapL (hsw:=by intro env e;cases env;dsimp only at e;cases e;rfl) (hs:=by intro _ _;rfl) (l:=ms.map .int) (us:=(ms.map id).map .int) (v:=.lst (ms.map .int)) (by decide +kernel) (by rfl) (by rfl) (Ev_upto (ht:=by intro _ _;with_unfolding_all rfl) (EvIs.ev (EvIs_loc g) ⟨_,_,_,rfl,hl,hi,hz,by rw [hns];exact .rfl⟩)) rfl (by rw [List.map_id]) (by rw [List.map_id];exact zz) (fun i w u h1 h2=>?_) ?_
 ·obtain ⟨k,rfl,rfl⟩:=gi h1 h2
  exact Ev_ty P.g_int (.cons (EvIs_loc rfl) .nil) (Cl_int .rfl) (keeps_type _)
 rw [List.map_id]
 refine Exs_name (Ev_dict3 (by decide) (EvIs.ev (EvIs_loc rfl) (EvIs.ev EvIs_int (EvInt.ev (EvInt_sum (hk:=by rfl) (hs:=by rfl) P (Ev_comp (by decide +kernel) (by rfl) (EvI_seq (EvIs.ev (EvIs_loc rfl) ⟨_,rfl,(ms.map fun i=>(if i<0 then -i else i).fmod 997).map .int,turnsL (by rw [List.length_map,List.length_map,List.length_map]) (by rw [List.length_map,List.length_map];rw [List.length_map] at zz;exact zz) (fun i w u h1 h2=>?_),.inl ⟨_,rfl,rfl,fun u hu=>?_,rfl⟩⟩)))) fun b fd hfd=>?_))))
 ·obtain ⟨k,rfl,rfl⟩:=gi h1 h2
  exact Ev_bn (Ev_b P.g_abs (.cons (EvIs_loc rfl) .nil) (Cl_abs .rfl)) EvIs_int (P2_mod (by decide) .rfl)
 ·obtain ⟨i,_,rfl⟩:=List.mem_map.mp hu;trivial
 exact q _ _ fd ms b rfl (Store.set_self _ _) l40
theorem lwB (P:Px cx a) {fd:Addr} {ns:List Int} {b:Int} (g:Γ ("feed" : Str)=some (.ref fd)) (hf:σ fd=some (.dS (feedL ns 0 b))) (hz:ns.length≤40)
  (q:∀ Γ₁ σ₁ loc1 loc2 H1 H2 rows1 rows2 ps1 ps2,Γ₁ ("one" : Str)=some (hV a loc1)→Γ₁ ("other" : Str)=some (hV a loc2)→Γ₁ ("rows" : Str)=some (nds rows1)→Γ₁ ("others" : Str)=some (nds rows2)→Γ₁ ("pairs" : Str)=some (.lst (prs ps1))→Γ₁ ("told" : Str)=some (.lst (prs ps2))→SideOut rows1 ps1 H1→SideOut rows2 ps2 H2 →
   HeapAt a.c σ₁ loc1 H1→HeapAt a.c σ₁ loc2 H2→Exs cx (n+10) (defScope (defAt 22)) Γ₁ σ₁ rest Q) :
  Exs cx (n+10) (defScope (defAt 22)) Γ σ (((defBody (defAt 22)).drop 2).take 2++rest) Q:=by
 conv=>arg 6;whnf
 refine Exs_cons (Ex_tuple (Ev_c P.f_side_g P.f_side_k (.cons (EvIs_loc g) .nil) (side P hf (Nat.zero_le _) (by exact Nat.le_trans (by assumption) (by decide)) fun σ₁ loc1 H1 rows1 ps1 t S1 ht O1=>?_)) (hw:=by intro env e;cases env;dsimp only at e;cases e;rfl))
 refine As_tuple (l:=[hV a loc1,nds rows1,.lst (prs ps1)]) rfl rfl rfl ⟨rfl,As_name (by first | exact .inl (by rfl) | exact .inr (by rfl)) ⟨rfl,As_name (by first | exact .inl (by rfl) | exact .inr (by rfl)) ⟨rfl,As_name (by first | exact .inl (by rfl) | exact .inr (by rfl)) ?_⟩⟩⟩
 refine Exs_cons (Ex_tuple (Ev_c P.f_side_g P.f_side_k (.cons (EvIs_loc (v:=.ref fd) g) .nil) (side P S1.fd_ (by exact Nat.le_trans (by assumption) (by decide)) (by exact Nat.le_trans (by assumption) (by decide)) fun σ₂ loc2 H2 rows2 ps2 t' S2 o_ O2=>?_)) (hw:=by intro env e;cases env;dsimp only at e;cases e;rfl))
 refine As_tuple (l:=[hV a loc2,nds rows2,.lst (prs ps2)]) rfl rfl rfl ⟨rfl,As_name (by first | exact .inl (by rfl) | exact .inr (by rfl)) ⟨rfl,As_name (by first | exact .inl (by rfl) | exact .inr (by rfl)) ⟨rfl,As_name (by first | exact .inl (by rfl) | exact .inr (by rfl)) ?_⟩⟩⟩
 exact q _ _ loc1 loc2 H1 H2 rows1 rows2 ps1 ps2 rfl rfl rfl rfl rfl rfl O1 O2 (RegAt.keep S1.h fun x hx=>S2.rest x (At_.some S1.h hx) fun z=>S1.fd0 (z▸S1.new x hx)) S2.h
theorem lwC (P:Px cx a) (O1:SideOut rows1 ps1 H1) (O2:SideOut rows2 ps2 H2) (h1:HeapAt a.c σ loc1 H1) (h2:HeapAt a.c σ loc2 H2) (g1:Γ ("one" : Str)=some (hV a loc1)) (g2:Γ ("other" : Str)=some (hV a loc2)) (g3:Γ ("rows" : Str)=some (nds rows1)) (g4:Γ ("others" : Str)=some (nds rows2)) (g5:Γ ("pairs" : Str)=some (.lst (prs ps1))) (g6:Γ ("told" : Str)=some (.lst (prs ps2)))
  (q:∀ Γ₁ W σ₁,W.a=a→LwS W→LwΓ W Γ₁→PmOk W σ₁ [] 0 (fun o_ o_=>False)→Exs cx (n+10) (defScope (defAt 22)) Γ₁ σ₁ rest Q) :
  Exs cx (n+10) (defScope (defAt 22)) Γ σ (((defBody (defAt 22)).drop 4).take 3++rest) Q:=by
 conv=>arg 6;whnf
 refine Exs_cons (Ex_tuple (Ev_c P.f_closed_g P.f_closed_k (.cons (EvIs_loc g3) (.cons (EvIs_loc g5) .nil)) (closed P O1 fun FK1 σ₁ F1 k1=>?_)) (hw:=by intro env e;cases env;dsimp only at e;cases e;rfl))
 refine As_tuple (l:=[nats ((List.range rows1.length).map (rt H1.par)),.dT (encN FK1)]) rfl rfl rfl ⟨rfl,As_name (by first | exact .inl (by rfl) | exact .inr (by rfl)) ⟨rfl,As_name (by first | exact .inl (by rfl) | exact .inr (by rfl)) ?_⟩⟩
 refine Exs_cons (Ex_tuple (Ev_c P.f_closed_g P.f_closed_k (.cons (EvIs_loc (v:=nds rows2) g4) (.cons (EvIs_loc (v:=.lst (prs ps2)) g6) .nil)) (closed P O2 fun FK2 σ₂ F2 k2=>?_)) (hw:=by intro env e;cases env;dsimp only at e;cases e;rfl))
 refine As_tuple (l:=[nats ((List.range rows2.length).map (rt H2.par)),.dT (encN FK2)]) rfl rfl rfl ⟨rfl,As_name (by first | exact .inl (by rfl) | exact .inr (by rfl)) ⟨rfl,As_name (by first | exact .inl (by rfl) | exact .inr (by rfl)) ?_⟩⟩
 have h1':HeapAt a.c σ₂ loc1 H1:=RegAt.keep h1 fun x hx=>(k2 x (by rw [k1 x (At_.some h1 hx)];exact At_.some h1 hx)).trans (k1 x (At_.some h1 hx))
 have h2':HeapAt a.c σ₂ loc2 H2:=RegAt.keep h2 fun x hx=>(k2 x (by rw [k1 x (At_.some h2 hx)];exact At_.some h2 hx)).trans (k1 x (At_.some h2 hx))
 clear h1 h2 k1 k2
 refine Exs_cons (Ex_tuple (Ev_tuple ⟨rfl,Ev_c P.meet_g P.meet_keep (.cons (EvIs_loc (v:=hV a loc1) g1) (.cons (EvIs_loc (v:=hV a loc2) g2) .nil)) (new_meet P O1.side O2.side h1' h2' fun md mn σ₃ loc H nums π D=>⟨rfl,Ev_c P.f_shared_g P.f_shared_k (.cons (EvIs_loc (v:=.dT (encN FK1)) rfl) (.cons (EvIs_loc (v:=.dT (encN FK2)) rfl) .nil)) (shared P O1.side O2.side F1 F2 fun S σ₄ hnd hmem hsz k4=>⟨rfl,Ev_dict0T fun pd hpd=>⟨Nat.le_of_ble_eq_true rfl,?_⟩⟩)⟩)⟩) (hw:=by intro env e;cases env;dsimp only at e;cases e;rfl))
 refine As_tuple (l:=[mV a md,.dT (encS S),.ref pd]) rfl rfl rfl ⟨rfl,As_name (by first | exact .inl (by rfl) | exact .inr (by rfl)) ⟨rfl,As_name (by first | exact .inl (by rfl) | exact .inr (by rfl)) ⟨rfl,As_name (by first | exact .inl (by rfl) | exact .inr (by rfl)) ?_⟩⟩⟩
 exact q _ ⟨a,σ₂,loc1,loc2,rows1,rows2,ps1,ps2,H1,H2,FK1,FK2,md,mn,σ₄,loc,H,nums,π,S,pd⟩ _ rfl ⟨D.keep k4,O1,O2,F1,F2,hnd,hmem,hsz⟩ ⟨g1,g2,g3,g4,rfl,rfl,rfl,rfl,rfl,rfl,rfl⟩ ⟨Store.set_self _ _,.nil,fun p c h=>(by contradiction),fun x y z=>z.elim,Nat.le_refl _,fun x hx=>⟨Store.set_ne _ fun z=>hx (z▸hpd),fun z=>hx (z▸hpd)⟩⟩
theorem lw (P:Px cx a) {ra:Addr} {items:Array Value} {ns:List Int} (g:Γ ("script" : Str)=some (.ref ra)) (hl:cx.h₀.IsList ra items) (hi:IntsAre items.toList ns) (hz:items.size≤1000000)
  (q:∀ Γ₁ σ₁,Q (.ret (.bool true)) Γ₁ σ₁):Exs cx (n+10) (defScope (defAt 22)) Γ σ (defBody (defAt 22)) Q:=by
 have hb:defBody (defAt 22)=(defBody (defAt 22)).take 2++(((defBody (defAt 22)).drop 2).take 2++(((defBody (defAt 22)).drop 4).take 3++(((defBody (defAt 22)).drop 7).take 1++(((defBody (defAt 22)).drop 8).take 2++(((defBody (defAt 22)).drop 10).take 1++(defBody (defAt 22)).drop 11))))):=by rfl
 rw [hb]
 refine lwA P g hl hi hz fun Γ₁ σ₁ fd ns b gf hf hn=>?_
 clear g hl hi hz hb
 refine lwB P gf hf hn fun Γ₂ σ₂ loc1 loc2 H1 H2 rows1 rows2 ps1 ps2 g1 g2 g3 g4 g5 g6 O1 O2 h1 h2=>?_
 clear gf hf hn
 refine lwC P O1 O2 h1 h2 g1 g2 g3 g4 g5 g6 fun Γ₃ W σ₃ hW L G hp=>?_
 subst hW
 clear O1 O2 h1 h2 g1 g2 g3 g4 g5 g6
 refine lw7 (n:=n+6) P L G hp fun Γ₄ σ₄ PM G hp=>?_
 refine lw8 (n:=n+6) P L G hp fun Γ₅ G=>?_
 refine lw10 (n:=n+2) P L G hp fun Γ₆ G=>?_
 exact lw11 (n:=n+6) P L G hp (q _ _)
end
open PySem PySem.W PyProof.Rows
noncomputable section
noncomputable def topRunT (tb:String→Option Builtin) (p:Program) (w:World) (n₀:Nat) (ann:Option Value):Nat→SharedT→Thread→Option SharedT
 | 0,_,_=>none
 | n+1,s,t=>match through t with
  | true=>some s
  | false=>match stepOk n₀ ann t with
   | false=>none
   | true=>match PySem.W.stepT (denote tb) p w s t with
    | some (s',t')=>topRunT tb p w n₀ ann n s' t'
    | none=>none
theorem topRunT_of {tb:String→Option Builtin} {p:Program} {w:World} {n₀:Nat} {ann:Option Value}:∀ {n:Nat} {s s':SharedT} {t:Thread},topRunT tb p w n₀ ann n s t=some s'→topRun tb p w n₀ ann n s.abs t=some s'.abs
 | 0,_,_,_,h=>by contradiction
 | n+1,s,s',t,h=>by
  unfold topRunT at h
  unfold topRun
  rcases he:through t with _|_
  ·
   rw [he] at h
   rcases hk:stepOk n₀ ann t with _|_
   ·rw [hk] at h;contradiction
   ·
    rw [hk] at h
    rcases hs:PySem.W.stepT (denote tb) p w s t with _|r
    ·rw [hs] at h;contradiction
    ·obtain ⟨s₂,t₂⟩:=r;rw [hs] at h;rw [stepT_spec hs];exact topRunT_of h
  ·rw [he] at h;(injection h with h;subst h);rfl
noncomputable def btOf:List Obj→Nat→BT→BT
 | [],_,t=>t
 | o::l,n,t=>btOf l (n+1) (t.ins n o)
noncomputable def bootS (w:World) (os:OsState):SharedT:=⟨btOf (boot_heap w.params).objs.toList 0 .nil,(boot_heap w.params).objs.size,(boot_heap w.params).life,#[],boot_drawn,boot_toks,os⟩
end
noncomputable section
noncomputable def fragOf (h:Heap):List Addr→Frag
 | []=>[]
 | a::r=>match h.get? a with
  | some o=>(a,o)::fragOf h r
  | none=>fragOf h r
theorem fragOf_in {h:Heap}:∀ as,(fragOf h as).In h
 | [],a,o,e=>nomatch e
 | b::r,a,o,e=>by
  unfold fragOf at e
  cases q:h.get? b with
  | none=>rw [q] at e;exact fragOf_in r a o e
  | some x=>
   rw [q] at e
   have e:(match a==b with | true=>some x | false=>(fragOf h r).lookup a)=some o:=e
   cases z:a==b with
   | true=>rw [z] at e;cases e;rw [beq_iff_eq.mp z];exact q
   | false=>rw [z] at e;exact fragOf_in r a o e
noncomputable abbrev pw:Program:=PySem.Challenge.pw_pq0060_01
noncomputable def lwView:Program:=view pw [22]
noncomputable def lwLoose:List Str:=["_wall", "HeapError", "TermFault", "is_op", "parts", "Bank", "Unions", "Heap", "Meet", "_law_draw", "_law_side", "_law_closed", "_law_terms", "_law_class", "_law_place", "_law_shared"]
theorem boot_abs (w:World) (os:OsState):(bootS w os).abs=⟨boot_heap w.params,#[],boot_drawn,boot_toks,os⟩:=by kernel_rfl
theorem boot_sz (w:World):((boot_heap w.params).isNs mainGlobals && (#[]:Array GenState).size==0,(boot_heap w.params).objs.size,(boot_heap w.params).nsMap mainGlobals "__annotations__")=(true,11,some (.ref 6)):=by kernel_rfl
theorem pw_open:∀ w:World,(fencedOpening treeTable pw w 3200).map (fun s=>(s.heap,s.gens,s.drawn,s.toks))=some (boot_heap w.params,Array.mk [],boot_drawn,boot_toks):=boot_open (by kernel_rfl) (by kernel_rfl) fun s=>by kernel_rfl
noncomputable def runEnd (w:World) (s:Shared):=((staticsOk (importedModules pw.main.body) (boot_heap w.params) s.heap && namesBound pw s.heap && gensDone s && laidKept (boot_heap w.params) s.heap),openSeen lwView lwLoose (importedModules pw.main.body) (fun o_=>true) true s,pxObs (fragOf s.heap pxAs))
theorem pw_run (w:World):(fun os=>(topRunT treeTable pw w 11 (some (.ref 6)) 3200 (bootS w os) (topStub pw)).map fun s=>runEnd w s.abs)=fun o_=>some (true,openGood lwView lwLoose,pxVal):=by kernel_rfl
end
noncomputable section
theorem left_gen {p q:Program} {loose:List Str} {α:Type} {Yf:Shared→α} {v:α} {N m₀:Nat} {ann:Option Value} {H:Params→Heap} {d:PySem.Drawn} {k:Nat} {S:World→OsState→SharedT}
  (open_:∀ w:World,(fencedOpening treeTable p w N).map (fun s=>(s.heap,s.gens,s.drawn,s.toks))=some (H w.params,#[],d,k))
  (size:∀ w:World,((H w.params).isNs mainGlobals && (#[]:Array GenState).size==0,(H w.params).objs.size,(H w.params).nsMap mainGlobals "__annotations__")=(true,m₀,ann))
  (abs:∀ w os,(S w os).abs=⟨H w.params,#[],d,k,os⟩)
  (run:∀ w:World,(fun os=>(topRunT treeTable p w m₀ ann N (S w os) (topStub p)).map fun s=>((staticsOk (importedModules p.main.body) (H w.params) s.abs.heap && namesBound p s.abs.heap && gensDone s.abs && laidKept (H w.params) s.abs.heap),openSeen q loose (importedModules p.main.body) (fun o_=>true) true s.abs,Yf s.abs))=fun o_=>some (true,openGood q loose,v)) :
  LeftO p q loose (fun o_=>true) Yf (fun o_=>v) N:=fun w=>by
 obtain ⟨⟨h,gs,d,k,os⟩,e,e'⟩:=Option.map_eq_some_iff.mp (open_ w)
 obtain ⟨a,e'⟩:=Prod.mk.inj e'
 obtain ⟨b,e'⟩:=Prod.mk.inj e'
 obtain ⟨c,e'⟩:=Prod.mk.inj e'
 have a:h=H w.params:=a
 have b:gs = #[]:=b
 subst a b
 cases c;cases e'
 obtain ⟨z1,z⟩:=Prod.mk.inj (size w)
 obtain ⟨z2,z3⟩:=Prod.mk.inj z
 obtain ⟨s,hs,l⟩:=Option.map_eq_some_iff.mp (congrFun (run w) os)
 have r:=topRunT_of hs
 rw [abs] at r
 obtain ⟨l1,l⟩:=Prod.mk.inj l
 have t:topFrom treeTable p w N ⟨H w.params,#[],d,k,os⟩=some s.abs:=by
  unfold topFrom
  dsimp only
  rw [z1,z2,z3,r]
  show (match staticsOk (importedModules p.main.body) (H w.params) s.abs.heap && namesBound p s.abs.heap && gensDone s.abs && laidKept (H w.params) s.abs.heap with | true=>_ | false=>_)=_
  rw [l1]
 unfold openEnds
 rw [e]
 show (topFrom treeTable p w N _).map _=_
 rw [t]
 exact congrArg some l
theorem pw_left:LeftO pw lwView lwLoose (fun o_=>true) (fun s=>pxObs (fragOf s.heap pxAs)) (fun o_=>pxVal) 3200:=left_gen pw_open boot_sz boot_abs pw_run
noncomputable def YP (_:World) (h:Heap):Prop:=∃ K:Frag,K.In h∧PxOb K
set_option tactic.hygienic true in
theorem lw_walk {kwd:List (Str×Expr)} {d:DefRec} (hn:d.name = "law"):WalkO lwView lwLoose (fun o_ o_=>True) YP PySem.Challenge.rw_pq0060_01.row.toRowW d kwd fun f vs=>PySem.call f vs:=by
 rintro w s₀ s₁ mg mb G ⟨K,KX,O⟩ a o pm cd doc dV kV ho hd hcd hD hmg hg args vals as hpre hlay hrd hwl hlo
 clear ho hd hcd hD
 have hm:=mg_of KX G.T.g (O.lawg (cx:=⟨pw,w,K,s₁.heap,s₁.os,KX,G.T.nolimit,mg,mb,G.T.g,G.T.b,G.T.builtins⟩))
 rw [hn,hm] at hmg
 cases hmg
 wrow_args hpre hlay hrd hwl hlo
 rename_i ns _ _ _ _ _ _ _ ra vs _ hL _ _ _ hI _ hc _
 let cx:Cx:=⟨pw,w,K,s₁.heap,s₁.os,KX,G.T.nolimit,mg,mb,G.T.g,G.T.b,G.T.builtins⟩
 have hz:vs.toArray.size≤1000000:=by
  have:=hI.length
  rw [List.size_toArray]
  omega
 have C:Cc cx 11 (fun o_=>none) (.ref 479) [.ref ra] (fun v o_=>v=.bool true):=Fun.cc (PxOb.law (cx:=cx) O) rfl (lw (n:=0) ((⟨O⟩:Px cx ⟨()⟩)) rfl hL hI hz fun Γ₁ σ₁=>rfl)
 refine wpAny_mono (C.cl (fun o_=>False) callerA s₁ [.ref ra] ⟨rfl,by decide,by decide⟩ ⟨fun o_ o_ e=>e,hg,rfl,fun o_ o_ e=>(nomatch e),fun o_ e=>e.elim⟩ ?_) (fun x s' o=>?_) (fun o_ o_ x=>x.elim)
 ·simp only [GL]
  exact ⟨_,_,rfl,rp_ref _,rfl⟩
 ·obtain ⟨v,σ',X',S,r,rfl⟩:=o
  refine GoodW.toG ⟨.inl ⟨x,.bool true,[],rfl,fun o_=>rfl,by rw [of_bool r];exact .bool true,?_,fun o_=>⟨.nil,fun o_ h=>(nomatch h)⟩⟩,X'.keep,X'.os,X'.gens⟩
  kernel_rfl
theorem fin:PySem.Challenge.rw_pq0060_01.Holds:=by
 refine holds_law (by kernel_rfl) fun o_=>?_
 refine holds_open (r:=PySem.Challenge.rw_pq0060_01.row) (d:=⟨Str.ofString "law",defParams (defAt 22),defBody (defAt 22),defScope (defAt 22),⟨313,0,333,116⟩⟩) (YP:=YP) (XP:=fun o_ o_=>True) (kwd:=[]) pw_left (fun w s e=>⟨_,fragOf_in pxAs,.of e⟩) (fun w h h' y k=>let ⟨K,a,b⟩:=y;⟨K,a.keeps k,b⟩) (fun o_ o_=>trivial) (fun o_ o_ o_ o_ o_=>trivial) (by kernel_rfl) (by kernel_rfl) rfl (fun s o_=>recFacts_nil rfl) rfl ‹_› (by kernel_rfl) ⟨rfl,rfl,rfl,rfl,rfl,by decide +kernel⟩ (by w_witness2) (lw_walk rfl)
end
end
end Mine
theorem PySem.Challenge.cw_pq0060_01_holds : PySem.Challenge.rw_pq0060_01.Holds :=
 Mine.fin
