import PyProof.Rows.All
import Wide.All
import OpenK.AllK
import Wide.FinOn
import HandS.ForExc
import HandS.ForMost
import HandS.Defaults
import HandS.Lambda
import HandS.HeadHook1
import HandS.ExcCtx
import HandS.ExcOwn
import KE.DataEq
import HandS.TupAny
import HandS.IsInst
import HandS.Wide
import HandS.TupMul
import HandS.Codes
import HandS.Zip
import PyProof.CollectIter
import PyProof.WalksMore
import KE.GoesEnum
import KE.GoesZip
import KE.KItemsList
import HandS.Conv
import HandS.TryOnly
import HandS.SortInts
import HandS.Dict
import HandS.Head0
import HandS.Head1
import HandS.Head2
import HandS.HeadEnd
import HandS.HeadHook2
import HandS.HeadHook4
import HandS.HeadWalk
import HandS.EndTab
import HandS.ExcInit
import HandS.ExcInitHot
import HandS.ExcField
import KE.KMinKey
import HandS.SortKw
import HandS.NoneIn
import KE.KDictDisplayH
import HandS.Style
import HandS.SetFor
import HandS.CallSlots
import HandS.WordsDict
import HandS.DictComp
import HandS.Iter
import HandS.OwnEq
import KE.KFmtOwn
import PyProof.InstNe
import HandS.MakeKwOnly
import HandS.FStr
import KE.KEqDict
import PyProof.NeKinds
import HandS.Small
import HandS.Finally
import HandS.SuiteRaise
import HandS.More
import HandS.Text
import HandS.RaiseMore
import HandS.MapJoin
import HandS.HeadHook3
import KE.KIntText
import KE.IntTextText
import HandS.SetBool
import HandS.TupSets
import HandS.RaiseFrom
import KE.KEqNest
import PyProof.ReprRoads
import PyProof.ReprLen
import PyProof.FitsInt
import KE.KExcIs
import KE.DataFind
import PySem.Challenge.RW_hidelater_k69_classes_apart
set_option Elab.async false
set_option linter.all false
set_option maxRecDepth 100000
set_option maxHeartbeats 0
open List (length_cons replicate_succ flatten_cons getElem?_set_self getElem?_set_ne size_toArray length_append eq_nil_of_length_eq_zero append_nil mem_cons_self mem_cons_of_mem getElem?_eq_none length_set getElem?_map getElem?_append_left getElem?_append_right reverse_cons length_map map_append map_reverse map_cons lookup_cons map_map map_nil all_eq_true)
namespace Ab
open PySem PySem.Spec PyProof.Rows L2
def Hot (d:Option Addr) (H:Hp):Prop:=∃dx fs,d=some dx/\H dx=some (.xd fs)/\(fs.lookup ("word":Str)=some (.str "bad text")\/fs.lookup ("most":Str)=some (.int 60))
def A49 (W:WX):WX:=λcls d σ H=> Hot d H/\W cls d σ H
def A2T (E:XK):XK:=λcls d H=> Hot d H/\E cls d H
def XE (X:Cx) (W:WX) (u:Value) (s:Shared):Prop:=L2N.XE X W u s\/L2.XE X (A49 W) u s
def Takes (X:Cx) (W:WX):Prop:=∀u s,XE X W u s->X.xe u s
def CX (P:Program) (w:World):CXT:=λouter H s E u r=> L2N.CX P w outer H s E u r\/L2.CX P w outer H s (A2T E) u r
section
variable {X:Cx} {W W':WX} {E:XK} {E₁:Value->Shared->Prop} {r:Shared}
theorem Takes.nn (t:Takes X W):L2N.Takes X W:=λu s x=> t u s (.inl x)
theorem Takes.hh (t:Takes X W):L2.Takes X (A49 W):=λu s x=> t u s (.inr x)
theorem Takes.imp (t:Takes X W) (h:∀c d σ H,W' c d σ H->W c d σ H):Takes X W':=λu s x=> x.elim (t.nn.imp h u s) (t.hh.imp (λc d σ H z=> ⟨z.1,h c d σ H z.2⟩) u s)
theorem A3J (hs:X.stack=X.env::X.outer) (hf:X.env.frame=some X.env.locals) (hex:X.ex=[])
  (hx:X.xe=λe s=> wpAny (model X.prog X.w) X.A (leaving X.env e) (λ_ r=> CX X.prog X.w X.outer X.H_0 X.s_0 E e r) E₁ s):Takes X (λcls d _ H=> E cls d H):=λu s x=> by
 rw [hx]
 rcases x with x | x
 ·exact wpAny_mono (L2N.XE.leave (E:=E) hs hf hex (λ_ _ _ _ h=> h) x) (λ_ _ z=> .inl z) λ_ _ z=> z
 ·exact wpAny_mono (L2.XE.leave (E:=A2T E) hs hf hex (λ_ _ _ _ h=> h) x) (λ_ _ z=> .inr z) λ_ _ z=> z
theorem passes_call (tk:Takes X W) (hW:∀cls d σ H,E cls d H->W cls d σ H):∀(pins:List (Addr×Obj)) (σ:L2.St) (H:Hp) (s:Shared) (e:Value) (r:Shared),Inv X pins σ H s->CX X.prog X.w X.stack H s E e r->X.xe e r:=
 λpins σ H s e r I c=> c.elim (L2N.passes_call tk.nn hW pins σ H s e r I) (L2.passes_call tk.hh (E:=A2T E) (λcls d σ H z=> ⟨z.1,hW cls d σ H z.2⟩) pins σ H s e r I)
theorem takes0:Takes X (λ_ _ _ _=> False):=λu s x=> x.elim (λ⟨_,_,_,_,_,_,_,_,_,_,_,_,_,_,_,_,z⟩=> z.elim) λ⟨_,_,_,_,_,_,_,_,_,_,_,_,_,_,_,_,_,z⟩=> z.elim
theorem passAt (tk:Takes X W) (σ:L2.St):PassesAt (CX X.prog X.w) X σ (WE W σ):=λpins H s e r I c=> c.elim (L2N.passAt tk.nn σ pins H s e r I) λc=> L2.passAt tk.hh σ pins H s e r I c
end
inductive W where
 | non | bl (b:Bool) | int (i:Int) | str (x:Str) | tup (xs:List W) | lst (xs:List W) | dct (ks vs:List W) | ref (a:Addr) | ty (n:String) | emp | exc (C:Str) (ns:List Str) (vs:List W)
instance:Inhabited W:=⟨.non⟩
def Y0:W->Option Key
 | .int i=> some (.inl i)
 | .str x=> some (.inr x)
 | _=> none
def A4O:List W->Option (List Key)
 | []=> some []
 | w::ws=> match Y0 w,A4O ws with
  | some k,some ks=> some (k::ks)
  | _,_=> none
def A2U:W->Option (List Key)
 | .tup ws=> A4O ws
 | _=> none
def Imm:HO->Prop
 | .tup _=> True
 | .frz _ _=> True
 | _=> False
def LsF (H:Hp) (a:Addr) (vs:List V):Prop:=∃o,H a=some (.frz o (.lst vs))
theorem LsF.sq {K:PySem.W.Frag} {H:Hp} {a:Addr} {vs:List V} (h:LsF H a vs):SqL K H a vs:=let ⟨o,h⟩:=h;.inl (.inr ⟨o,h⟩)
def TqT (K:PySem.W.Frag) (H:Hp) (a:Addr) (xs:List V):Prop:=
 H a=some (.tup xs)\/xs≠[]/\∃(o:Obj) (its:Array Value) (n:Nat),K.lookup a=some o/\o.cls= .type "tuple"/\o.data= .seq its n/\its.size<=sizeLine/\Vals xs its.toList
theorem TqT.sq {K:PySem.W.Frag} {H:Hp} {a:Addr} {xs:List V} (h:TqT K H a xs):SqT K H a xs:=h.imp .inl (·.2)
def EmpK (K:PySem.W.Frag) (a:Addr):Prop:=∃(o:Obj) (its:Array Value) (n:Nat),K.lookup a=some o/\o.cls= .type "tuple"/\o.data= .seq its n/\its.size<=sizeLine/\Vals [] its.toList
mutual
def Rep (K:PySem.W.Frag) (H:Hp):W->V->Prop
 | .non,v=> v= .non
 | .bl b,v=> v= .bl b
 | .int i,v=> v= .int i
 | .str x,v=> v= .str x
 | .tup ws,v=> ∃a vs,v= .ref a/\TqT K H a vs/\waa K H ws vs
 | .lst ws,v=> ∃a vs,v= .ref a/\LsF H a vs/\waa K H ws vs
 | .dct ks ws,v=> ∃a,v= .ref a/\((∃o kvs,H a=some (.frz o (.dK kvs))/\ks.map Y0=kvs.map (λp=> some p.1)/\waa K H ws (kvs.map (·.2)))\/
   ∃o kvs,H a=some (.frz o (.dT kvs))/\(∃r,ks= .lst []::r/\r.map A2U=kvs.map (λp=> some p.1))/\waa K H ws (.non::kvs.map (·.2)))
 | .ref a,v=> v= .ref a
 | .ty n,v=> v= .ty n
 | .emp,v=> ∃a,v= .ref a/\EmpK K a
 | .exc C ns ws,v=> ∃a dx vs oe u od,v= .ref a/\H a=some (.frz oe u)/\oe.cls= .ref (He.ga K C)/\oe.dict=some dx/\(∃q,oe.data= .fields q)/\H dx=some (.frz od (.xd (ns.zip vs)))/\waa K H ws vs
def waa (K:PySem.W.Frag) (H:Hp):List W->List V->Prop
 | [],vs=> vs=[]
 | w::ws,vs=> ∃v r,vs=v::r/\Rep K H w v/\waa K H ws r
end
def Keeps (H H':Hp):Prop:=∀a o,H a=some o->Imm o->H' a=some o
theorem Keeps.refl (H:Hp):Keeps H H:=λ_ _ h _=> h
theorem Keeps.trans {H H1 H2:Hp} (a:Keeps H H1) (b:Keeps H1 H2):Keeps H H2:=λp o h i=> b p o (a p o h i) i
theorem Keeps.tqT {K:PySem.W.Frag} {H H':Hp} (k:Keeps H H') {a:Addr} {vs:List V} (h:TqT K H a vs):TqT K H' a vs:=h.imp (λe=> k _ _ e trivial) id
theorem Keeps.sqT {K:PySem.W.Frag} {H H':Hp} (k:Keeps H H') {a:Addr} {vs:List V} (h:SqT K H a vs):SqT K H' a vs:=by
 rcases h with (h | ⟨o,h⟩) | h
 ·exact .inl (.inl (k _ _ h trivial))
 ·exact .inl (.inr ⟨o,k _ _ h trivial⟩)
 ·exact .inr h
theorem Keeps.lsF {H H':Hp} (k:Keeps H H') {a:Addr} {vs:List V} (h:LsF H a vs):LsF H' a vs:=let ⟨o,h⟩:=h;⟨o,k _ _ h trivial⟩
mutual
theorem Rep.mono {K:PySem.W.Frag} {H H':Hp} (k:Keeps H H'):∀(w:W) (v:V),Rep K H w v->Rep K H' w v
 | .non,_,h=> by simpa only [Rep] using h
 | .bl _,_,h=> by simpa only [Rep] using h
 | .int _,_,h=> by simpa only [Rep] using h
 | .str _,_,h=> by simpa only [Rep] using h
 | .ref _,_,h=> by simpa only [Rep] using h
 | .ty _,_,h=> by simpa only [Rep] using h
 | .emp,_,h=> by simpa only [Rep] using h
 | .exc _ _ ws,v,h=> by
  simp only [Rep] at h ⊢
  obtain ⟨a,dx,vs,oe,u,od,e,h1,hc,hd,hq,h2,r⟩:=h
  exact ⟨a,dx,vs,oe,u,od,e,k _ _ h1 trivial,hc,hd,hq,k _ _ h2 trivial,waa.mono k _ _ r⟩
 | .tup ws,v,h=> by
  simp only [Rep] at h ⊢
  obtain ⟨a,vs,e,s,r⟩:=h
  exact ⟨a,vs,e,k.tqT s,waa.mono k ws vs r⟩
 | .lst ws,v,h=> by
  simp only [Rep] at h ⊢
  obtain ⟨a,vs,e,s,r⟩:=h
  exact ⟨a,vs,e,k.lsF s,waa.mono k ws vs r⟩
 | .dct ks ws,v,h=> by
  simp only [Rep] at h ⊢
  obtain ⟨a,e,⟨o,kvs,s,t,r⟩ | ⟨o,kvs,s,t,r⟩⟩:=h
  ·exact ⟨a,e,.inl ⟨o,kvs,k _ _ s trivial,t,waa.mono k ws _ r⟩⟩
  ·exact ⟨a,e,.inr ⟨o,kvs,k _ _ s trivial,t,waa.mono k ws _ r⟩⟩
theorem waa.mono {K:PySem.W.Frag} {H H':Hp} (k:Keeps H H'):∀(ws:List W) (vs:List V),waa K H ws vs->waa K H' ws vs
 | [],vs,h=> by simpa only [waa] using h
 | w::ws,vs,h=> by
  simp only [waa] at h ⊢
  obtain ⟨v,r,e,a,b⟩:=h
  exact ⟨v,r,e,Rep.mono k w v a,waa.mono k ws r b⟩
end
section
variable {K:PySem.W.Frag} {H:Hp}
theorem Rep.of_int {i:Int} {v:V} (h:Rep K H (.int i) v):v= .int i:=by simpa only [Rep] using h
theorem Rep.of_str {i:Str} {v:V} (h:Rep K H (.str i) v):v= .str i:=by simpa only [Rep] using h
theorem Rep.of_bl {i:Bool} {v:V} (h:Rep K H (.bl i) v):v= .bl i:=by simpa only [Rep] using h
theorem Rep.of_non {v:V} (h:Rep K H .non v):v= .non:=by simpa only [Rep] using h
theorem Rep.of_ref {a:Addr} {v:V} (h:Rep K H (.ref a) v):v= .ref a:=by simpa only [Rep] using h
theorem Rep.of_ty {n:String} {v:V} (h:Rep K H (.ty n) v):v= .ty n:=by simpa only [Rep] using h
theorem Rep.of_tupT {ws:List W} {v:V} (h:Rep K H (.tup ws) v):∃a vs,v= .ref a/\TqT K H a vs/\waa K H ws vs:=by simpa only [Rep] using h
theorem Rep.of_tup {ws:List W} {v:V} (h:Rep K H (.tup ws) v):∃a vs,v= .ref a/\SqT K H a vs/\waa K H ws vs:=let ⟨a,vs,e,s,r⟩:=h.of_tupT;⟨a,vs,e,s.sq,r⟩
theorem Rep.of_lst {ws:List W} {v:V} (h:Rep K H (.lst ws) v):∃a vs,v= .ref a/\LsF H a vs/\waa K H ws vs:=by simpa only [Rep] using h
theorem Rep.int {i:Int}:Rep K H (.int i) (.int i):=by simp only [Rep]
theorem Rep.str {i:Str}:Rep K H (.str i) (.str i):=by simp only [Rep]
theorem Rep.bl {i:Bool}:Rep K H (.bl i) (.bl i):=by simp only [Rep]
theorem Rep.non:Rep K H .non .non:=by simp only [Rep]
theorem Rep.ref {a:Addr}:Rep K H (.ref a) (.ref a):=by simp only [Rep]
theorem Rep.emp {a:Addr} (e:EmpK K a):Rep K H .emp (.ref a):=by simp only [Rep];exact ⟨a,rfl,e⟩
theorem Rep.of_exc {C:Str} {ns:List Str} {ws:List W} {v:V} (h:Rep K H (.exc C ns ws) v):∃a dx vs oe u od,v= .ref a/\H a=some (.frz oe u)/\oe.cls= .ref (He.ga K C)/\oe.dict=some dx/\(∃q,oe.data= .fields q)/\H dx=some (.frz od (.xd (ns.zip vs)))/\waa K H ws vs:=by simpa only [Rep] using h
theorem Rep.of_emp {v:V} (h:Rep K H .emp v):∃a,v= .ref a/\EmpK K a:=by simpa only [Rep] using h
theorem EmpK.sq {a:Addr} (e:EmpK K a):SqT K H a []:=by
 obtain ⟨o,its,n,h1,h2,h3,h4,h5⟩:=e
 exact .inr ⟨o,its,n,h1,h2,h3,h4,h5⟩
theorem Rep.ty {n:String}:Rep K H (.ty n) (.ty n):=by simp only [Rep]
theorem Rep.tup {ws:List W} {a:Addr} {vs:List V} (s:TqT K H a vs) (r:waa K H ws vs):Rep K H (.tup ws) (.ref a):=by
 simp only [Rep];exact ⟨a,vs,rfl,s,r⟩
theorem Rep.lst {ws:List W} {a:Addr} {vs:List V} (s:LsF H a vs) (r:waa K H ws vs):Rep K H (.lst ws) (.ref a):=by
 simp only [Rep];exact ⟨a,vs,rfl,s,r⟩
theorem waa.nil:waa K H [] []:=by simp only [waa]
theorem waa.cons {w:W} {ws:List W} {v:V} {vs:List V} (a:Rep K H w v) (b:waa K H ws vs):waa K H (w::ws) (v::vs):=by
 simp only [waa];exact ⟨v,vs,rfl,a,b⟩
theorem waa.of_nil {vs:List V} (h:waa K H [] vs):vs=[]:=by simpa only [waa] using h
theorem waa.of_cons {w:W} {ws:List W} {vs:List V} (h:waa K H (w::ws) vs):∃v r,vs=v::r/\Rep K H w v/\waa K H ws r:=by simpa only [waa] using h
theorem waa.length:∀{ws:List W} {vs:List V},waa K H ws vs->ws.length=vs.length
 | [],vs,h=> by rw [h.of_nil];rfl
 | w::ws,vs,h=> by
  obtain ⟨v,r,e,_,t⟩:=h.of_cons
  rw [e,length_cons,length_cons,t.length]
theorem waa.get:∀{ws:List W} {vs:List V} {i:Nat} {w:W},waa K H ws vs->ws[i]? =some w->∃v,vs[i]? =some v/\Rep K H w v
 | [],_,_,_,_,e=> by simp at e
 | w::ws,vs,0,x,h,e=> by
  obtain ⟨v,r,rfl,a,_⟩:=h.of_cons
  simp at e;subst e;exact ⟨v,rfl,a⟩
 | w::ws,vs,i+1,x,h,e=> by
  obtain ⟨v,r,rfl,_,t⟩:=h.of_cons
  obtain ⟨u,h1,h2⟩:=t.get (i:=i) (by simpa using e)
  exact ⟨u,by simpa using h1,h2⟩
theorem waa.append:∀{ws xs:List W} {vs us:List V},waa K H ws vs->waa K H xs us->waa K H (ws++xs) (vs++us)
 | [],xs,vs,us,h,g=> by rw [h.of_nil];exact g
 | w::ws,xs,vs,us,h,g=> by
  obtain ⟨v,r,rfl,a,t⟩:=h.of_cons
  exact .cons a (t.append g)
theorem waa.set:∀{ws:List W} {vs:List V} (i:Nat) {w:W} {v:V},waa K H ws vs->Rep K H w v->waa K H (ws.set i w) (vs.set i v)
 | [],vs,i,w,v,h,g=> by rw [h.of_nil];exact .nil
 | x::ws,vs,0,w,v,h,g=> by
  obtain ⟨u,r,rfl,a,t⟩:=h.of_cons
  exact .cons g t
 | x::ws,vs,i+1,w,v,h,g=> by
  obtain ⟨u,r,rfl,a,t⟩:=h.of_cons
  exact .cons a (t.set i g)
theorem waa.take:∀{ws:List W} {vs:List V} (n:Nat),waa K H ws vs->waa K H (ws.take n) (vs.take n)
 | _,_,0,_=> .nil
 | [],vs,n+1,h=> by rw [h.of_nil];exact .nil
 | w::ws,vs,n+1,h=> by
  obtain ⟨v,r,rfl,a,t⟩:=h.of_cons
  exact .cons a (t.take n)
theorem waa.drop:∀{ws:List W} {vs:List V} (n:Nat),waa K H ws vs->waa K H (ws.drop n) (vs.drop n)
 | _,_,0,h=> h
 | [],vs,n+1,h=> by rw [h.of_nil];exact .nil
 | w::ws,vs,n+1,h=> by
  obtain ⟨v,r,rfl,a,t⟩:=h.of_cons
  exact t.drop n
theorem waa.rep {ws:List W} {vs:List V} (h:waa K H ws vs):∀k:Nat,waa K H (List.replicate k ws).flatten (List.replicate k vs).flatten
 | 0=> .nil
 | k+1=> by
  rw [replicate_succ,replicate_succ,flatten_cons,flatten_cons]
  exact h.append (h.rep k)
theorem waa.ints {ns:List Int}:waa K H (ns.map W.int) (ns.map V.int):=by
 induction ns with
 | nil=> exact .nil
 | cons n r ih=> exact .cons .int ih
theorem waa.of_ints {ns:List Int} {vs:List V} (h:waa K H (ns.map W.int) vs):vs=ns.map V.int:=by
 induction ns generalizing vs with
 | nil=> exact h.of_nil
 | cons n r ih=>
  obtain ⟨v,t,rfl,a,b⟩:=h.of_cons
  rw [a.of_int,ih b];rfl
theorem waa.of_bls {ns:List Bool} {vs:List V} (h:waa K H (ns.map W.bl) vs):vs=ns.map V.bl:=by
 induction ns generalizing vs with
 | nil=> exact h.of_nil
 | cons n r ih=>
  obtain ⟨v,t,rfl,a,b⟩:=h.of_cons
  rw [a.of_bl,ih b];rfl
end
inductive Cont where
 | seq (ws:List W) | map (kvs:List (W×W))
def Cont.fz:Cont->W
 | .seq ws=> .lst ws
 | .map kvs=> .dct (kvs.map (·.1)) (kvs.map (·.2))
inductive AO where
 | cont (c:Cont) | ins (C:Str) (fs:List (Str×W))
abbrev AH:=Addr->Option AO
inductive SV where
 | val (w:W) | own (c:Cont)
abbrev A0:=List (Option SV)
def wae (K:PySem.W.Frag) (H:Hp) (p:Addr):Cont->Prop
 | .seq ws=> ∃vs,H p=some (.lst vs)/\waa K H ws vs
 | .map kvs=> (∃ks,H p=some (.dK ks)/\(kvs.map (·.1)).map Y0=ks.map (λq=> some q.1)/\waa K H (kvs.map (·.2)) (ks.map (·.2)))\/
   ∃ks,H p=some (.dT ks)/\(∃r,kvs.map (·.1)= .lst []::r/\r.map A2U=ks.map (λq=> some q.1))/\waa K H (kvs.map (·.2)) (.non::ks.map (·.2))
def wai (K:PySem.W.Frag) (H:Hp) (fs:List (Str×W)) (vs:List (Str×V)):Prop:=fs.map (·.1)=vs.map (·.1)/\waa K H (fs.map (·.2)) (vs.map (·.2))
def wam (K:PySem.W.Frag) (H:Hp) (a:Addr):AO->Prop
 | .cont c=> wae K H a c
 | .ins C fs=> ∃dx vs,H a=some (.ins (He.ga K C) dx vs)/\wai K H fs vs
def Mu:HO->Prop
 | .lst _=> True
 | .dK _=> True
 | .dT _=> True
 | .ins _ _ _=> True
 | _=> False
theorem Mu.mut {o:HO} (h:Mu o):Mut (some o):=by cases o <;> first | trivial | exact h.elim
def NT (o:HO):Prop:=∀ps,o≠ .tbl ps
theorem Mu.nt {o:HO} (h:Mu o):NT o:=λ_ e=> by subst e;exact h
theorem Imm.nt {o:HO} (h:Imm o):NT o:=λ_ e=> by subst e;exact h
def A4f:Addr:=builtinsNs
def cs1 (K:PySem.W.Frag) (p:Addr×Obj):Option ((Addr×Addr)×Str):=match p.2.data with
 | .fields vs=> (match vs.getD 11 .none,vs.getD 1 .none with
  | .ref P,.str q _=> some ((p.1,P),q++".<locals>."++"<lambda>")
  | _,_=> none)
 | _=> none
def b5 (K:PySem.W.Frag):List ((Addr×Addr)×Str):=((K.dropWhile λp=> decide (p.1≠A4f)).tail).filterMap (cs1 K)
def r9 (K:PySem.W.Frag):List (Addr×Str):=(b5 K).map λp=> (p.1.2,p.2)
abbrev waf (K:PySem.W.Frag) (H:Hp):Prop:=LamX.Tabs (r9 K) H
theorem waf.keep {K:PySem.W.Frag} {H H':Hp} (t:waf K H) (k:∀a o,H a=some o->(¬Mu o)->H' a=some o):waf K H':=λp hp=> by
 obtain ⟨ps,h1,h2,h3⟩:=t p hp
 refine ⟨ps,k _ _ h1 (λz=> z),h2,λpos cv hc=> ?_⟩
 obtain ⟨c,e1,e2⟩:=h3 pos cv hc
 exact ⟨c,e1,k _ _ e2 (λz=> z)⟩
theorem waf.upd {K:PySem.W.Frag} {H:Hp} {p:Addr} {u:HO} (t:waf K H) (n:∀o,H p=some o->Mu o):waf K (upd H p u):=t.keep λa o e m=> by
 have ne:a≠p:=λz=> m (n o (z▸e))
 rw [upd_ne ne];exact e
theorem Mu.imm {o:HO} (h:Mu o):¬Imm o:=by cases o <;> first | exact h.elim | (intro z;exact z)
theorem wae.there {K:PySem.W.Frag} {H:Hp} {p:Addr} {c:Cont} (h:wae K H p c):∃o,H p=some o/\Mu o:=by
 cases c with
 | seq ws=> obtain ⟨vs,e,_⟩:=h;exact ⟨_,e,trivial⟩
 | map kvs=>
  rcases h with ⟨ks,e,_⟩ | ⟨ks,e,_⟩
  ·exact ⟨_,e,trivial⟩
  ·exact ⟨_,e,trivial⟩
theorem wae.mu_at {K:PySem.W.Frag} {H:Hp} {p:Addr} {c:Cont} {o:HO} (h:wae K H p c) (e:H p=some o):Mu o:=by
 obtain ⟨u,e',m⟩:=h.there
 rw [e] at e';cases e';exact m
theorem wam.there {K:PySem.W.Frag} {H:Hp} {p:Addr} {o:AO} (h:wam K H p o):∃u,H p=some u/\Mu u:=by
 cases o with
 | cont c=> exact wae.there h
 | ins C fs=> obtain ⟨dx,vs,e,_⟩:=h;exact ⟨_,e,trivial⟩
theorem wae.mono {K:PySem.W.Frag} {H H':Hp} (k:Keeps H H') {p:Addr} (s:H' p=H p) {c:Cont} (h:wae K H p c):wae K H' p c:=by
 cases c with
 | seq ws=> obtain ⟨vs,e,r⟩:=h;exact ⟨vs,s.trans e,waa.mono k _ _ r⟩
 | map kvs=>
  rcases h with ⟨ks,e,t,r⟩ | ⟨ks,e,t,r⟩
  ·exact .inl ⟨ks,s.trans e,t,waa.mono k _ _ r⟩
  ·exact .inr ⟨ks,s.trans e,t,waa.mono k _ _ r⟩
theorem wam.mono {K:PySem.W.Frag} {H H':Hp} (k:Keeps H H') {p:Addr} (s:H' p=H p) {o:AO} (h:wam K H p o):wam K H' p o:=by
 cases o with
 | cont c=> exact wae.mono k s h
 | ins C fs=> obtain ⟨dx,vs,e,t,r⟩:=h;exact ⟨dx,vs,s.trans e,t,waa.mono k _ _ r⟩
structure AExc where
 n:Str
 fs:List (Str×W)
structure Gx where
 K:PySem.W.Frag
 h0:AH
 H0:Hp
def wac (env:A0) (σ:L2.St) (p:Addr):Prop:=∃(i:Nat) (c:Cont),env[i]? =some (some (SV.own c))/\σ[i]? =some (some (V.ref p))
structure BS (G:Gx) (env:A0) (h:AH) (σ:L2.St) (H:Hp):Prop where
 len:env.length=σ.length
 val:∀(i:Nat) (w:W),env[i]? =some (some (SV.val w))->∃v,σ[i]? =some (some v)/\Rep G.K H w v
 own:∀(i:Nat) (c:Cont),env[i]? =some (some (SV.own c))->∃p,σ[i]? =some (some (V.ref p))/\wae G.K H p c/\h p=none/\G.H0 p=none
 uni:∀(i j:Nat) (c c':Cont) (p:Addr),env[i]? =some (some (SV.own c))->env[j]? =some (some (SV.own c'))->σ[i]? =some (some (V.ref p))->σ[j]? =some (some (V.ref p))->i=j
 hp:∀a o,h a=some o->wam G.K H a o
 fr:∀p o,G.H0 p=some o->G.h0 p=none->NT o->H p=some o
 ext:∀a o,h a=some o->G.h0 a=none->G.H0 a=none
 tr:∀p o,G.H0 p=some o->∃u,H p=some u
 tabs:waf G.K H
structure Xt (env:A0) (h:AH) (σ:L2.St) (H:Hp) (env':A0) (h':AH) (H':Hp):Prop where
 fr:∀p o,H p=some o->h p=none->¬wac env σ p->NT o->H' p=some o
 hn:∀p o,h' p=some o->h p=none->H p=none
 th:∀p o,H p=some o->∃o',H' p=some o'
 sl:∀(i:Nat) (c':Cont),env'[i]? =some (some (SV.own c'))->∃c,env[i]? =some (some (SV.own c))
section
variable {G:Gx} {env env' env2:A0} {h h' h2:AH} {σ:L2.St} {H H' H2:Hp}
theorem BS.imm (S:BS G env h σ H) {p:Addr} {o:HO} (e:H p=some o) (i:Imm o):h p=none/\¬wac env σ p:=by
 refine ⟨?_,λ⟨j,c,a,b⟩=> ?_⟩
 ·cases q:h p with
  | none=> rfl
  | some u=>
   obtain ⟨o',e',m⟩:=(S.hp p u q).there
   rw [e] at e';cases e'
   exact absurd i m.imm
 ·obtain ⟨p',b',cr,_⟩:=S.own j c a
  rw [b] at b';cases b'
  obtain ⟨o',e',m⟩:=cr.there
  rw [e] at e';cases e'
  exact absurd i m.imm
theorem Xt.keeps (x:Xt env h σ H env' h' H') (S:BS G env h σ H):Keeps H H':=λp o e i=> x.fr p o e (S.imm e i).1 (S.imm e i).2 i.nt
theorem Xt.refl:Xt env h σ H env h H:=⟨λ_ _ e _ _ _=> e,λp o e n=> (by rw [n] at e;cases e),λ_ o e=> ⟨o,e⟩,λi c e=> ⟨c,e⟩⟩
theorem Xt.own (x:Xt env h σ H env' h' H') {p:Addr} (o:wac env' σ p):wac env σ p:=by
 obtain ⟨i,c,e1,e2⟩:=o
 obtain ⟨c0,z⟩:=x.sl i c e1
 exact ⟨i,c0,z,e2⟩
theorem Xt.trans (a:Xt env h σ H env' h' H') (b:Xt env' h' σ H' env2 h2 H2):Xt env h σ H env2 h2 H2:=by
 refine ⟨λp o e n w nt=> ?_,λp o e n=> ?_,λp o e=> ?_,λi c e=> ?_⟩
 ·refine b.fr p o (a.fr p o e n w nt) ?_ (λq=> w (a.own q)) nt
  cases q:h' p with
  | none=> rfl
  | some u=> rw [a.hn p u q n] at e;cases e
 ·cases q:h' p with
  | none=>
   have z:=b.hn p o e q
   cases q2:H p with
   | none=> rfl
   | some u=>
    obtain ⟨o',e'⟩:=a.th p u q2
    rw [z] at e';cases e'
  | some u=> exact a.hn p u q n
 ·obtain ⟨o',e'⟩:=a.th p o e
  exact b.th p o' e'
 ·obtain ⟨c1,z⟩:=b.sl i c e
  exact a.sl i c1 z
end
inductive RV where
 | val (w:W) | own (c:Cont) | slot (i:Nat)
inductive Vw where
 | wv (x:W) | cv (x:Cont) | bad
def A2C:Option (Option SV)->Vw
 | some (some (.val w))=> .wv w
 | some (some (.own c))=> .cv c
 | _=> .bad
def viewW (h:AH):W->Vw
 | .ref a=> match h a with
  | some (.cont c)=> .cv c
  | _=> .wv (.ref a)
 | w=> .wv w
def view (env:A0) (h:AH):RV->Vw
 | .val w=> viewW h w
 | .own c=> .cv c
 | .slot i=> A2C env[i]?
def Vw.toW:Vw->W
 | .wv w=> w
 | .cv c=> c.fz
 | .bad=> .non
def wad (G:Gx) (env:A0) (h:AH) (σ:L2.St) (H:Hp):RV->V->Prop
 | .val w,v=> Rep G.K H w v
 | .own c,v=> ∃p,v= .ref p/\wae G.K H p c/\h p=none/\G.H0 p=none/\¬wac env σ p
 | .slot i,v=> σ[i]? =some (some v)
def VR (K:PySem.W.Frag) (H:Hp):Vw->V->Prop
 | .wv w,v=> Rep K H w v
 | .cv c,v=> ∃p,v= .ref p/\wae K H p c
 | .bad,_=> True
section
variable {G:Gx} {env env':A0} {h h':AH} {σ:L2.St} {H H':Hp}
theorem VR.viewW (S:BS G env h σ H) {w:W} {v:V} (x:Rep G.K H w v):VR G.K H (viewW h w) v:=by
 cases w with
 | ref a=>
  have e:v= .ref a:=Rep.of_ref x
  subst e
  show VR G.K H (match h a with
   | some (.cont c)=> .cv c
   | _=> .wv (.ref a)) _
  cases q:h a with
  | none=> exact x
  | some o=>
   cases o with
   | cont c=> exact ⟨a,rfl,S.hp a _ q⟩
   | ins C fs=> exact x
 | _=> exact x
theorem wad.vr (S:BS G env h σ H) {r:RV} {v:V} (x:wad G env h σ H r v):VR G.K H (view env h r) v:=by
 cases r with
 | val w=> exact VR.viewW S x
 | own c=> obtain ⟨p,e,c,_⟩:=x;exact ⟨p,e,c⟩
 | slot i=>
  have e1:σ[i]? =some (some v):=x
  show VR G.K H (A2C env[i]?) v
  cases e2:env[i]? with
  | none=> trivial
  | some o=>
   cases o with
   | none=> trivial
   | some sv=>
    cases sv with
    | val w=>
     obtain ⟨u,e3,r⟩:=S.val i w e2
     rw [e1] at e3;cases e3
     exact r
    | own c=>
     obtain ⟨p,e3,r,_⟩:=S.own i c e2
     rw [e1] at e3;cases e3
     exact ⟨p,rfl,r⟩
theorem wad.xt (S:BS G env h σ H) (x:Xt env h σ H env' h' H') {r:RV} {v:V} (a:wad G env h σ H r v):wad G env' h' σ H' r v:=by
 cases r with
 | val w=> exact Rep.mono (x.keeps S) w v a
 | own c=>
  obtain ⟨p,e,c,n,n0,no⟩:=a
  obtain ⟨o,eo,_⟩:=c.there
  refine ⟨p,e,c.mono (x.keeps S) ((x.fr p o eo n no (c.mu_at eo).nt).trans eo.symm),?_,n0,λq=> no (x.own q)⟩
  cases q:h' p with
  | none=> rfl
  | some u=> rw [x.hn p u q n] at eo;cases eo
 | slot i=> exact a
def New (H H':Hp):Prop:=∀p o,H p=some o->H' p=some o
theorem New.refl (H:Hp):New H H:=λ_ _ e=> e
theorem New.upd {p:Addr} {o:HO} (n:H p=none):New H (upd H p o):=λq u e=> by rw [upd_ne (ne_of_none e n)];exact e
theorem New.keeps (n:New H H'):Keeps H H':=λp o e _=> n p o e
theorem New.xt (n:New H H'):Xt env h σ H env h H':=⟨λp o e _ _ _=> n p o e,λp o e q=> (by rw [q] at e;cases e),λp o e=> ⟨o,n p o e⟩,λi c e=> ⟨c,e⟩⟩
theorem New.bs (n:New H H') (S:BS G env h σ H):BS G env h σ H' where
 len:=S.len
 val:=λi w e=> let ⟨v,a,b⟩:=S.val i w e;⟨v,a,Rep.mono n.keeps w v b⟩
 own:=λi c e=> by
  obtain ⟨p,a,b,d,f⟩:=S.own i c e
  obtain ⟨o,eo,_⟩:=b.there
  exact ⟨p,a,b.mono n.keeps ((n p o eo).trans eo.symm),d,f⟩
 uni:=S.uni
 hp:=λa o e=> by
  obtain ⟨u,eu,_⟩:=(S.hp a o e).there
  exact (S.hp a o e).mono n.keeps ((n a u eu).trans eu.symm)
 fr:=λp o e q t=> n p o (S.fr p o e q t)
 ext:=S.ext
 tr:=λp o e=> let ⟨u,q⟩:=S.tr p o e;⟨u,n p u q⟩
 tabs:=S.tabs.keep λa o e _=> n a o e
end
abbrev AT:=A0->AH->(RV->A0->AH->Prop)->Prop
abbrev A6:=A0->AH->(W->A0->AH->Prop)->Prop
abbrev B8:=A0->AH->(List W->A0->AH->Prop)->Prop
abbrev C2:=A0->AH->(Bool->A0->AH->Prop)->Prop
def A1 {α:Type} (t:A0->AH->(α->A0->AH->Prop)->Prop):Prop:=∀env h Q Q',(∀r e k,Q r e k->Q' r e k)->t env h Q->t env h Q'
def I9 (H:Hp):RV->V->Prop
 | .own _,v=> ∀p,v= .ref p->H p=none
 | _,_=> True
def cE (G:Gx) (t:AT):TE:=λσ H Q=> ∃env h,BS G env h σ H/\t env h λr env' h'=> ∀v H',BS G env' h' σ H'->Xt env h σ H env' h' H'->wad G env' h' σ H' r v->I9 H r v->Q v H'
def cV (G:Gx) (t:A6):TE:=λσ H Q=> ∃env h,BS G env h σ H/\t env h λw env' h'=> ∀v H',BS G env' h' σ H'->Xt env h σ H env' h' H'->Rep G.K H' w v->Q v H'
def cA (G:Gx) (t:B8):TA:=λσ H Q=> ∃env h,BS G env h σ H/\t env h λws env' h'=> ∀vs H',BS G env' h' σ H'->Xt env h σ H env' h' H'->waa G.K H' ws vs->Q vs H'
def cT (G:Gx) (t:C2):TT:=λσ H Q=> ∃env h,BS G env h σ H/\t env h λb env' h'=> ∀H',BS G env' h' σ H'->Xt env h σ H env' h' H'->Q b H'
structure AE (X:Cx) (G:Gx) (e:Expr) (t:AT):Prop where
 mono:A1 t
 pe:PE X e (cE G t)
structure AV (X:Cx) (G:Gx) (e:Expr) (t:A6):Prop where
 mono:A1 t
 pe:PE X e (cV G t)
structure AA (X:Cx) (G:Gx) (es:List Expr) (t:B8):Prop where
 mono:A1 t
 pa:PA X es (cA G t)
structure AP (X:Cx) (G:Gx) (e:Expr) (t:C2):Prop where
 mono:A1 t
 pt:PT X e (cT G t)
theorem PE.imp {X:Cx} {e:Expr} {t t':TE} (h:PE X e t) (i:∀σ H Q,t' σ H Q->t σ H Q):PE X e t':=⟨λpins s σ H Q I q=> h.run pins s σ H Q I (i σ H Q q)⟩
theorem PA.imp {X:Cx} {e:List Expr} {t t':TA} (h:PA X e t) (i:∀σ H Q,t' σ H Q->t σ H Q):PA X e t':=⟨λpos pins s σ H Q I q=> h.run pos pins s σ H Q I (i σ H Q q)⟩
theorem PT.imp {X:Cx} {e:Expr} {t t':TT} (h:PT X e t) (i:∀σ H Q,t' σ H Q->t σ H Q):PT X e t':=⟨λpins s σ H Q I q=> h.run pins s σ H Q I (i σ H Q q)⟩
theorem PS.imp {X:Cx} {e:Stmt} {t t':TS} (h:PS X e t) (i:∀D σ H,t' D σ H->t D σ H):PS X e t':=⟨λpins s σ H Q I q=> h.run pins s σ H Q I (i Q σ H q)⟩
theorem PSs.imp {X:Cx} {e:List Stmt} {t t':TS} (h:PSs X e t) (i:∀D σ H,t' D σ H->t D σ H):PSs X e t':=⟨λpins s σ H Q I q=> h.run pins s σ H Q I (i Q σ H q)⟩
section
variable {X:Cx} {G:Gx}
def aVar (i:Nat):AT:=λenv h Q=> match env[i]? with
 | some (some (.val w))=> Q (.val w) env h
 | some (some (.own _))=> Q (.slot i) env h
 | _=> False
def aC (w:W):AT:=λenv h Q=> Q (.val w) env h
theorem aVar.mono {i:Nat}:A1 (aVar i):=λenv h Q Q' k q=> by
 unfold aVar at q ⊢
 split at q
 ·exact k _ _ _ q
 ·exact k _ _ _ q
 ·exact q
theorem aC.mono {w:W}:A1 (aC w):=λenv h Q Q' k q=> k _ _ _ q
theorem A4 {e:Expr} {i:Nat} (h:PE X e (tVar i)):AE X G e (aVar i):=by
 refine ⟨aVar.mono,PE.imp h λσ H Q ⟨env,k,S,q⟩=> ?_⟩
 unfold aVar at q
 split at q
 ·rename_i w e
  obtain ⟨v,e1,r⟩:=S.val i w e
  exact ⟨v,e1,q v H S .refl r trivial⟩
 ·rename_i c e
  obtain ⟨p,e1,r⟩:=S.own i c e
  exact ⟨_,e1,q _ H S .refl e1 trivial⟩
 ·exact q.elim
theorem w9 {e:Expr} {w:W} {v:V} (h:PE X e (tC v)) (r:∀H,Rep G.K H w v):AE X G e (aC w):=
 ⟨aC.mono,PE.imp h λσ H Q ⟨env,k,S,q⟩=> q v H S .refl (r H) trivial⟩
theorem wab {i j pos}:AE X G (.Constant (.int i) j pos) (aC (.int i)):=w9 pe_int λ_=> .int
theorem A0n {i j pos}:AE X G (.Constant (.bool i) j pos) (aC (.bl i)):=w9 pe_bl λ_=> .bl
theorem A3y {j pos}:AE X G (.Constant .none j pos) (aC .non):=w9 pe_non λ_=> .non
theorem W9 {i j pos}:AE X G (.Constant (.str i) j pos) (aC (.str i)):=w9 pe_str λ_=> .str
def aFz (t:AT):A6:=λenv h Q=> t env h λr env' h'=> match r with
 | .val w=> Q w env' h'
 | .own c=> Q c.fz env' h'
 | .slot i=> match env'[i]? with
  | some (some (.val w))=> Q w env' h'
  | some (some (.own c))=> Q c.fz (env'.set i (some (.val c.fz))) h'
  | _=> False
theorem aFz.mono {t:AT} (m:A1 t):A1 (aFz t):=λenv h Q Q' k q=> by
 refine m env h _ _ (λr e g z=> ?_) q
 cases r with
 | val w=> exact k _ _ _ z
 | own c=> exact k _ _ _ z
 | slot i=>
  show match e[i]? with
   | some (some (.val w))=> Q' w e g
   | some (some (.own c))=> Q' c.fz (e.set i (some (.val c.fz))) g
   | _=> False
  have z:match e[i]? with
   | some (some (.val w))=> Q w e g
   | some (some (.own c))=> Q c.fz (e.set i (some (.val c.fz))) g
   | _=> False:=z
  split at z
  ·exact k _ _ _ z
  ·exact k _ _ _ z
  ·exact z
theorem A3l {K:PySem.W.Frag} {H:Hp} {p:Addr} {c:Cont} (r:wae K H p c) (hp:∃u,H p=some u/\Mu u):∃u,H p=some u/\Mu u/\∀od,Rep K (upd H p (.frz od u)) c.fz (.ref p):=by
 have keep:∀(u:HO) (od:Obj),H p=some u->Mu u->Keeps H (upd H p (.frz od u)):=λu od e m q o e' i=> by
  have n:q≠p:=λz=> by rw [z,e] at e';cases e';exact m.imm i
  rw [upd_ne n];exact e'
 cases c with
 | seq ws=>
  obtain ⟨vs,e,r⟩:=r
  refine ⟨_,e,trivial,λod=> ?_⟩
  exact .lst ⟨od,upd_same⟩ (waa.mono (keep _ od e trivial) _ _ r)
 | map kvs=>
  rcases r with ⟨ks,e,t,r⟩ | ⟨ks,e,t,r⟩
  ·refine ⟨_,e,trivial,λod=> ?_⟩
   show Rep K _ (.dct _ _) _
   simp only [Rep]
   exact ⟨p,rfl,.inl ⟨od,ks,upd_same,t,waa.mono (keep _ od e trivial) _ _ r⟩⟩
  ·refine ⟨_,e,trivial,λod=> ?_⟩
   show Rep K _ (.dct _ _) _
   simp only [Rep]
   exact ⟨p,rfl,.inr ⟨od,ks,upd_same,t,waa.mono (keep _ od e trivial) _ _ r⟩⟩
theorem BS.freeze {env env':A0} {h:AH} {σ:L2.St} {H:Hp} (S:BS G env h σ H) {p:Addr} {u:HO} (od:Obj) (e:H p=some u) (m:Mu u) (n:h p=none) (n0:G.H0 p=none)
  (len:env'.length=env.length)
  (v':∀(i:Nat) (w:W),env'[i]? =some (some (SV.val w))->env[i]? =some (some (SV.val w))\/∃v,σ[i]? =some (some v)/\Rep G.K (upd H p (.frz od u)) w v)
  (o':∀(i:Nat) (c:Cont),env'[i]? =some (some (SV.own c))->env[i]? =some (some (SV.own c))/\σ[i]? ≠some (some (V.ref p))):BS G env' h σ (upd H p (.frz od u)):=by
 have keep:Keeps H (upd H p (.frz od u)):=λq o e' i=> by
  have n:q≠p:=λz=> by rw [z,e] at e';cases e';exact m.imm i
  rw [upd_ne n];exact e'
 refine ⟨len.trans S.len,λi w z=> ?_,λi c z=> ?_,λi j c c' q a b=> ?_,λa o z=> ?_,λq o z y t=> ?_,S.ext,λq o z=> ?_,S.tabs.upd λo z=> (by rw [e] at z;cases z;exact m)⟩
 ·rcases v' i w z with z | z
  ·obtain ⟨v,a,b⟩:=S.val i w z
   exact ⟨v,a,Rep.mono keep w v b⟩
  ·exact z
 ·obtain ⟨z,ne⟩:=o' i c z
  obtain ⟨q,a,b,d,f⟩:=S.own i c z
  have nq:q≠p:=λy=> ne (by rw [a,y])
  exact ⟨q,a,b.mono keep (upd_ne nq),d,f⟩
 ·exact S.uni i j c c' q (o' i c a).1 (o' j c' b).1
 ·have na:a≠p:=λy=> by rw [y,n] at z;cases z
  exact (S.hp a o z).mono keep (upd_ne na)
 ·have nq:q≠p:=λx=> by rw [x,n0] at z;cases z
  rw [upd_ne nq];exact S.fr q o z y t
 ·by_cases hq:q=p
  ·subst hq;exact ⟨_,upd_same⟩
  ·obtain ⟨u',e'⟩:=S.tr q o z
   exact ⟨u',by rw [upd_ne hq];exact e'⟩
theorem Xt.freeze {env env' env2:A0} {h h':AH} {σ:L2.St} {H H1:Hp} {p:Addr} {u:HO} {od:Obj} (x:Xt env h σ H env' h' H1) (e:H1 p=some u) (f:H p=none\/wac env σ p)
  (sl:∀(i:Nat) (c:Cont),env2[i]? =some (some (SV.own c))->env'[i]? =some (some (SV.own c))):Xt env h σ H env2 h' (upd H1 p (.frz od u)):=by
 refine ⟨λq o e n w t=> ?_,x.hn,λq o e=> ?_,λi c e=> x.sl i c (sl i c e)⟩
 ·have nq:q≠p:=λy=> by
   rcases f with f | f
   ·rw [y,f] at e;cases e
   ·exact w (y▸f)
  rw [upd_ne nq];exact x.fr q o e n w t
 ·by_cases hq:q=p
  ·subst hq;exact ⟨_,upd_same⟩
  ·rw [upd_ne hq];exact x.th q o e
theorem p0 {env:A0} {i j:Nat} {sv sv':SV} (e:env[i]? =some (some sv)):(env.set i (some sv'))[j]? =if j=i then some (some sv') else env[j]? :=by
 have hi:i < env.length:=(List.getElem?_eq_some_iff.mp e).1
 by_cases hj:j=i
 ·subst hj;rw [if_pos rfl,getElem?_set_self hi]
 ·rw [if_neg hj,getElem?_set_ne (Ne.symm hj)]
theorem A2t {env env':A0} {h h':AH} {σ:L2.St} {H H1:Hp} {i:Nat} {c:Cont} {pins:List (Addr×Obj)} {s:Shared} (S:BS G env' h' σ H1) (x:Xt env h σ H env' h' H1) (I:Inv X pins σ H1 s) (e:env'[i]? =some (some (.own c))):
  ∃p H2,σ[i]? =some (some (V.ref p))/\Inv X pins σ H2 s/\BS G (env'.set i (some (.val c.fz))) h' σ H2/\Xt env h σ H (env'.set i (some (.val c.fz))) h' H2/\Rep G.K H2 c.fz (.ref p):=by
 obtain ⟨p,es,cr,n,n0⟩:=S.own i c e
 obtain ⟨u,eu,mu,fr⟩:=A3l cr cr.there
 obtain ⟨od,I2⟩:=I.lock eu mu.mut
 refine ⟨p,_,es,I2,S.freeze od eu mu n n0 (by simp) (λj w z=> ?_) (λj d z=> ?_),x.freeze eu (.inr ?_) (λj d z=> ?_),fr od⟩
 ·rw [p0 e] at z
  by_cases hj:j=i
  ·rw [if_pos hj] at z
   cases z
   exact .inr ⟨_,hj▸es,fr od⟩
  ·rw [if_neg hj] at z;exact .inl z
 ·rw [p0 e] at z
  by_cases hj:j=i
  ·rw [if_pos hj] at z;cases z
  ·rw [if_neg hj] at z
   exact ⟨z,λy=> hj (S.uni j i d c p z e y es)⟩
 ·exact x.own ⟨i,c,e,es⟩
 ·rw [p0 e] at z
  by_cases hj:j=i
  ·rw [if_pos hj] at z;cases z
  ·rw [if_neg hj] at z;exact z
theorem A6E {env env':A0} {h h':AH} {σ:L2.St} {H H1:Hp} {c:Cont} {v:V} {pins:List (Addr×Obj)} {s:Shared} (S:BS G env' h' σ H1) (x:Xt env h σ H env' h' H1) (I:Inv X pins σ H1 s) (r:wad G env' h' σ H1 (.own c) v) (f:I9 H (.own c) v):
  ∃H2,Inv X pins σ H2 s/\BS G env' h' σ H2/\Xt env h σ H env' h' H2/\Rep G.K H2 c.fz v:=by
 obtain ⟨p,ex,cr,n,n0,no⟩:=r
 obtain ⟨u,eu,mu,fr⟩:=A3l cr cr.there
 obtain ⟨od,I2⟩:=I.lock eu mu.mut
 subst ex
 exact ⟨_,I2,S.freeze od eu mu n n0 rfl (λi w e=> .inl e) λi c e=> ⟨e,λy=> no ⟨i,c,e,y⟩⟩,x.freeze eu (.inl (f p rfl)) λi c e=> e,fr od⟩
theorem A8 {e:Expr} {t:AT} (a:AE X G e t):AV X G e (aFz t):=by
 refine ⟨aFz.mono a.mono,⟨λpins s σ H Q I ⟨env,h,S,q⟩=> ?_⟩⟩
 refine thn (a.pe.run pins s σ H (λv H1=> ∃r env' h',BS G env' h' σ H1/\Xt env h σ H env' h' H1/\wad G env' h' σ H1 r v/\I9 H r v/\match r with
  | .val w=> ∀v H',BS G env' h' σ H'->Xt env h σ H env' h' H'->Rep G.K H' w v->Q v H'
  | .own c=> ∀v H',BS G env' h' σ H'->Xt env h σ H env' h' H'->Rep G.K H' c.fz v->Q v H'
  | .slot i=> match env'[i]? with
   | some (some (.val w))=> ∀v H',BS G env' h' σ H'->Xt env h σ H env' h' H'->Rep G.K H' w v->Q v H'
   | some (some (.own c))=> ∀v H',BS G (env'.set i (some (.val c.fz))) h' σ H'->Xt env h σ H (env'.set i (some (.val c.fz))) h' H'->Rep G.K H' c.fz v->Q v H'
   | _=> False) I ⟨env,h,S,a.mono env h _ _ (λr env' h' z v H1 S1 x1 r1 f1=> ⟨r,env',h',S1,x1,r1,f1,z⟩) q⟩) λv s1 ⟨x,H1,I1,r1,r,env',h',S1,x1,rr,f1,z⟩=> ?_
 cases r with
 | val w=> exact ⟨x,H1,I1,r1,z x H1 S1 x1 rr⟩
 | own c=>
  obtain ⟨H2,I2,S2,x2,r2⟩:=A6E S1 x1 I1 rr f1
  exact ⟨x,H2,I2,r1,z x H2 S2 x2 r2⟩
 | slot i=>
  have es:σ[i]? =some (some x):=rr
  have z:match env'[i]? with
   | some (some (.val w))=> ∀v H',BS G env' h' σ H'->Xt env h σ H env' h' H'->Rep G.K H' w v->Q v H'
   | some (some (.own c))=> ∀v H',BS G (env'.set i (some (.val c.fz))) h' σ H'->Xt env h σ H (env'.set i (some (.val c.fz))) h' H'->Rep G.K H' c.fz v->Q v H'
   | _=> False:=z
  split at z
  ·rename_i w e
   obtain ⟨u,e3,r⟩:=S1.val i w e
   rw [es] at e3;cases e3
   exact ⟨x,H1,I1,r1,z x H1 S1 x1 r⟩
  ·rename_i c e
   obtain ⟨p,H2,ep,I2,S2,x2,r2⟩:=A2t S1 x1 I1 e
   rw [es] at ep;cases ep
   exact ⟨_,H2,I2,r1,z _ H2 S2 x2 r2⟩
  ·exact z.elim
def aNil:B8:=λenv h Q=> Q [] env h
def aCons (t:A6) (u:B8):B8:=λenv h Q=> t env h λw env' h'=> u env' h' λws env2 h2=> Q (w::ws) env2 h2
theorem aNil.mono:A1 aNil:=λenv h Q Q' k q=> k _ _ _ q
theorem aCons.mono {t:A6} {u:B8} (m:A1 t) (n:A1 u):A1 (aCons t u):=λenv h Q Q' k q=> m env h _ _ (λw e g z=> n e g _ _ (λws e2 g2 z2=> k _ _ _ z2) z) q
theorem L6:AA X G [] aNil:=⟨aNil.mono,PA.imp pa_nil λσ H Q ⟨env,h,S,q⟩=> q [] H S .refl .nil⟩
theorem B5 {e:Expr} {es:List Expr} {t:A6} {u:B8} (a:AV X G e t) (b:AA X G es u) (hs:starEach (e::es) X.env=(false,eval e X.env)::starEach es X.env:=by rfl):AA X G (e::es) (aCons t u):=by
 refine ⟨aCons.mono a.mono b.mono,PA.imp (pa_cons a.pe b.pa hs) λσ H Q ⟨env,h,S,q⟩=> ?_⟩
 refine ⟨env,h,S,a.mono env h _ _ (λw env1 h1 z v H1 S1 x1 r1=> ?_) q⟩
 refine ⟨env1,h1,S1,b.mono env1 h1 _ _ (λws env2 h2 z vs H2 S2 x2 r2=> ?_) z⟩
 exact z (v::vs) H2 S2 (x1.trans x2) (.cons (Rep.mono (x2.keeps S1) w v r1) r2)
def aTup (t:B8):AT:=λenv h Q=> t env h λws env' h'=> ws.length<=sizeLine/\Q (.val (.tup ws)) env' h'
def aLst (t:B8):AT:=λenv h Q=> t env h λws env' h'=> ws.length<=sizeLine/\Q (.own (.seq ws)) env' h'
theorem aTup.mono {t:B8} (m:A1 t):A1 (aTup t):=λenv h Q Q' k q=> m env h _ _ (λws e g z=> ⟨z.1,k _ _ _ z.2⟩) q
theorem aLst.mono {t:B8} (m:A1 t):A1 (aLst t):=λenv h Q Q' k q=> m env h _ _ (λws e g z=> ⟨z.1,k _ _ _ z.2⟩) q
section
variable {env:A0} {h:AH} {σ:L2.St} {H:Hp}
theorem BS.noAt (S:BS G env h σ H) {p:Addr} (n:H p=none):h p=none/\G.H0 p=none/\¬wac env σ p:=by
 refine ⟨?_,?_,λ⟨i,c,e1,e2⟩=> ?_⟩
 ·cases q:h p with
  | none=> rfl
  | some u=> obtain ⟨o,e,_⟩:=(S.hp p u q).there;rw [n] at e;cases e
 ·cases q:G.H0 p with
  | none=> rfl
  | some o=> obtain ⟨u,e⟩:=S.tr p o q;rw [n] at e;cases e
 ·obtain ⟨q,e3,cr,_⟩:=S.own i c e1
  rw [e2] at e3;cases e3
  obtain ⟨o,e,_⟩:=cr.there;rw [n] at e;cases e
theorem Xt.fresh {env env':A0} {h':AH} {H':Hp} (x:Xt env h σ H env' h' H') {p:Addr} (n:H' p=none):H p=none:=by
 cases q:H p with
 | none=> rfl
 | some o=> obtain ⟨u,e⟩:=x.th p o q;rw [n] at e;cases e
theorem A3Y {env env1:A0} {h h1:AH} {σ:L2.St} {H H1:Hp} {p:Addr} {o:HO} {c:Cont} (S:BS G env1 h1 σ H1) (x:Xt env h σ H env1 h1 H1) (n:H1 p=none) (r:New H1 (upd H1 p o)->wae G.K (upd H1 p o) p c):
  BS G env1 h1 σ (upd H1 p o)/\Xt env h σ H env1 h1 (upd H1 p o)/\wad G env1 h1 σ (upd H1 p o) (.own c) (.ref p)/\I9 H (.own c) (.ref p):=by
 have nw:New H1 (upd H1 p o):=New.upd n
 obtain ⟨a,b,d⟩:=S.noAt n
 exact ⟨nw.bs S,x.trans nw.xt,⟨p,rfl,r nw,a,b,d⟩,λq e=> by cases e;exact x.fresh n⟩
theorem M6 {es:List Expr} {t:B8} {pos} (a:AA X G es t):AE X G (.List es pos) (aLst t):=by
 refine ⟨aLst.mono a.mono,PE.imp (pe_lst a.pa) λσ H Q ⟨env,h,S,q⟩=> ?_⟩
 refine ⟨env,h,S,a.mono env h _ _ (λws env1 h1 z vs H1 S1 x1 r1=> ⟨by rw [<-r1.length];exact z.1,λp n=> ?_⟩) q⟩
 obtain ⟨S2,x2,r2,f2⟩:=A3Y S1 x1 n (o:= .lst vs) (c:= .seq ws) λnw=> ⟨vs,upd_same,waa.mono nw.keeps _ _ r1⟩
 exact z.2 _ _ S2 x2 r2 f2
end
end
def Vw.seq:Vw->Option (List W)
 | .wv (.lst xs)=> some xs
 | .cv (.seq xs)=> some xs
 | _=> none
def Vw.tpl:Vw->Option (List W)
 | .wv (.tup xs)=> some xs
 | _=> none
section
variable {K:PySem.W.Frag} {H:Hp} {a:Vw} {v:V} {xs:List W}
theorem VR.seq (r:VR K H a v) (e:a.seq=some xs):∃p vs,v= .ref p/\Rd H p (.lst vs)/\waa K H xs vs:=by
 cases a with
 | wv w=>
  cases w with
  | lst ys=>
   cases e
   obtain ⟨p,vs,e1,⟨o,l⟩,r⟩:=Rep.of_lst r
   exact ⟨p,vs,e1,.inr ⟨o,l⟩,r⟩
  | _=> cases e
 | cv c=>
  cases c with
  | seq ys=>
   cases e
   obtain ⟨p,e1,vs,l,r⟩:=r
   exact ⟨p,vs,e1,.inl l,r⟩
  | map _=> cases e
 | bad=> cases e
theorem VR.tplT (r:VR K H a v) (e:a.tpl=some xs):∃p vs,v= .ref p/\TqT K H p vs/\waa K H xs vs:=by
 cases a with
 | wv w=>
  cases w with
  | tup ys=> cases e;exact Rep.of_tupT r
  | _=> cases e
 | _=> cases e
theorem VR.tpl (r:VR K H a v) (e:a.tpl=some xs):∃p vs,v= .ref p/\SqT K H p vs/\waa K H xs vs:=let ⟨p,vs,e,s,r⟩:=r.tplT e;⟨p,vs,e,s.sq,r⟩
theorem VR.int {i:Int} (r:VR K H (.wv (.int i)) v):v= .int i:=Rep.of_int (K:=K) (H:=H) r
theorem VR.str {i:Str} (r:VR K H (.wv (.str i)) v):v= .str i:=Rep.of_str (K:=K) (H:=H) r
theorem VR.bl {i:Bool} (r:VR K H (.wv (.bl i)) v):v= .bl i:=Rep.of_bl (K:=K) (H:=H) r
theorem VR.non (r:VR K H (.wv .non) v):v= .non:=Rep.of_non (K:=K) (H:=H) r
end
def waq (K:PySem.W.Frag) (H:Hp) (Q:RV->Prop) (v:V) (H':Hp):Prop:=
 (H'=H/\∃w,Q (.val w)/\Rep K H w v)\/∃p o,H p=none/\H'=upd H p o/\v= .ref p/\((∃w,Q (.val w)/\Rep K H' w v)\/∃c,Q (.own c)/\wae K H' p c)
theorem waq.val {K:PySem.W.Frag} {H:Hp} {Q:RV->Prop} {w:W} {v:V} (q:Q (.val w)) (r:Rep K H w v):waq K H Q v H:= .inl ⟨rfl,w,q,r⟩
theorem waq.tup {K:PySem.W.Frag} {H:Hp} {Q:RV->Prop} {ws:List W} {vs:List V} {p:Addr} (n:H p=none) (q:Q (.val (.tup ws))) (r:waa K H ws vs):waq K H Q (.ref p) (upd H p (.tup vs)):=
 .inr ⟨p,_,n,rfl,rfl,.inl ⟨_,q,.tup (.inl upd_same) (waa.mono (New.upd n).keeps _ _ r)⟩⟩
theorem waq.lst {K:PySem.W.Frag} {H:Hp} {Q:RV->Prop} {ws:List W} {vs:List V} {p:Addr} (n:H p=none) (q:Q (.own (.seq ws))) (r:waa K H ws vs):waq K H Q (.ref p) (upd H p (.lst vs)):=
 .inr ⟨p,_,n,rfl,rfl,.inr ⟨_,q,vs,upd_same,waa.mono (New.upd n).keeps _ _ r⟩⟩
section
variable {G:Gx} {env env1:A0} {h h1:AH} {σ:L2.St} {H H1 H2:Hp}
theorem waq.end {Q0:RV->Prop} {v:V} (S:BS G env1 h1 σ H1) (x:Xt env h σ H env1 h1 H1) (o:waq G.K H1 Q0 v H2):
  ∃r,Q0 r/\BS G env1 h1 σ H2/\Xt env h σ H env1 h1 H2/\wad G env1 h1 σ H2 r v/\I9 H r v:=by
 rcases o with ⟨rfl,w,q,r⟩ | ⟨p,o,n,rfl,rfl,⟨w,q,r⟩ | ⟨c,q,r⟩⟩
 ·exact ⟨_,q,S,x,r,trivial⟩
 ·have nw:New H1 (upd H1 p o):=New.upd n
  exact ⟨_,q,nw.bs S,x.trans nw.xt,r,trivial⟩
 ·obtain ⟨a,b,c,d⟩:=A3Y S x n λ_=> r
  exact ⟨_,q,a,b,c,d⟩
end
abbrev C9:=Vw->Vw->(RV->Prop)->Prop
structure OpA (K:PySem.W.Frag) (r:R2) (o:C9):Prop where
 mono:∀a b Q Q',(∀r,Q r->Q' r)->o a b Q->o a b Q'
 ok:∀a b x y H Q0 Q,VR K H a x->VR K H b y->o a b Q0->(∀v H',waq K H Q0 v H'->Q v H')->r x y H Q
def aOp2 (o:C9) (ta tb:AT):AT:=λenv h Q=> ta env h λrx env1 h1=> tb env1 h1 λry env2 h2=> o (view env2 h2 rx) (view env2 h2 ry) λr=> Q r env2 h2
theorem aOp2.mono {K:PySem.W.Frag} {r:R2} {o:C9} (oa:OpA K r o) {ta tb:AT} (a:A1 ta) (b:A1 tb):A1 (aOp2 o ta tb):=λenv h Q Q' k q=>
 a env h _ _ (λrx e g z=> b e g _ _ (λry e2 g2 z2=> oa.mono _ _ _ _ (λr z3=> k _ _ _ z3) z2) z) q
section
variable {X:Cx} {G:Gx}
theorem A0L {ta tb:AT} {o:C9} {r:R2} (ma:A1 ta) (mb:A1 tb) (oa:OpA G.K r o) {σ:L2.St} {H:Hp} {Q:VK} (q:cE G (aOp2 o ta tb) σ H Q):tOp r (cE G ta) (cE G tb) σ H Q:=by
 obtain ⟨env,h,S,q⟩:=q
 refine ⟨env,h,S,ma env h _ _ (λrx env1 h1 z x H1 S1 x1 r1 f1=> ?_) q⟩
 refine ⟨env1,h1,S1,mb env1 h1 _ _ (λry env2 h2 z2 y H2 S2 x2 r2 f2=> ?_) z⟩
 refine oa.ok _ _ _ _ _ _ _ ((r1.xt S1 x2).vr S2) (r2.vr S2) z2 λv H3 out=> ?_
 obtain ⟨res,q0,S3,x3,r3,f3⟩:=out.end S2 (x1.trans x2)
 exact q0 v H3 S3 x3 r3 f3
theorem j5 {op:Operator} {r:R2} {o:C9} {a b:Expr} {ta tb:AT} {pos:Pos} (ho:OpR X (binaryOp op) r) (oa:OpA G.K r o) (ha:AE X G a ta) (hb:AE X G b tb):AE X G (.BinOp a op b pos) (aOp2 o ta tb):=
 ⟨aOp2.mono oa ha.mono hb.mono,PE.imp (pe_op ho ha.pe hb.pe) λ_ _ _ q=> A0L ha.mono hb.mono oa q⟩
theorem A1g {op:CmpOp} {r:R2} {o:C9} {a b:Expr} {ta tb:AT} {pos:Pos} (ho:OpR X (compareOp op) r) (oa:OpA G.K r o) (ha:AE X G a ta) (hb:AE X G b tb) (hm:behindInMarks op b=false):AE X G (.Compare a [op] [b] pos) (aOp2 o ta tb):=
 ⟨aOp2.mono oa ha.mono hb.mono,PE.imp (pe_cmpR ho ha.pe hb.pe hm) λ_ _ _ q=> A0L ha.mono hb.mono oa q⟩
end
theorem OpA.or {K:PySem.W.Frag} {r r':R2} {o o':C9} (a:OpA K r o) (b:OpA K r' o'):OpA K (λx y H Q=> r x y H Q\/r' x y H Q) (λx y Q=> o x y Q\/o' x y Q):=
 ⟨λx y Q Q' k q=> q.elim (λz=> .inl (a.mono x y Q Q' k z)) λz=> .inr (b.mono x y Q Q' k z),λx y u v H Q0 Q r1 r2 q k=> q.elim (λz=> .inl (a.ok x y u v H Q0 Q r1 r2 z k)) λz=> .inr (b.ok x y u v H Q0 Q r1 r2 z k)⟩
theorem OpA.as {K:PySem.W.Frag} {r:R2} {o o':C9} (a:OpA K r o) (i:∀x y Q,o' x y Q->o x y Q) (m:∀a b Q Q',(∀r,Q r->Q' r)->o' a b Q->o' a b Q'):OpA K r o':=⟨m,λx y u v H Q0 Q r1 r2 q k=> a.ok x y u v H Q0 Q r1 r2 (i _ _ _ q) k⟩
def oII (C:Int->Int->Prop) (g:Int->Int->W):C9:=λa b Q=> match a,b with
 | .wv (.int i),.wv (.int j)=> C i j/\Q (.val (g i j))
 | _,_=> False
theorem oII.mono {C:Int->Int->Prop} {g:Int->Int->W} (a b:Vw) (Q Q':RV->Prop) (k:∀r,Q r->Q' r) (q:oII C g a b Q):oII C g a b Q':=by
 unfold oII at q ⊢
 split at q
 ·exact ⟨q.1,k _ q.2⟩
 ·exact q.elim
theorem oII.get {C:Int->Int->Prop} {g:Int->Int->W} {a b:Vw} {Q:RV->Prop} (q:oII C g a b Q):∃i j,a= .wv (.int i)/\b= .wv (.int j)/\C i j/\Q (.val (g i j)):=by
 unfold oII at q
 split at q
 ·exact ⟨_,_,rfl,rfl,q⟩
 ·exact q.elim
theorem A1T {K:PySem.W.Frag} {C:Int->Int->Prop} {g:Int->Int->V} {g':Int->Int->W} (hg:∀H i j,Rep K H (g' i j) (g i j)):OpA K (rI C g) (oII C g'):=
 ⟨λa b Q Q' k q=> oII.mono a b Q Q' k q,λa b x y H Q0 Q ra rb q k=> by
  obtain ⟨i,j,rfl,rfl,c,q⟩:=q.get
  exact ⟨i,j,ra.int,rb.int,c,k _ _ (.val q (hg H i j))⟩⟩
theorem A1L {K:PySem.W.Frag} {g:Int->Int->V} {g':Int->Int->W} (hg:∀H i j,Rep K H (g' i j) (g i j)):OpA K (rI0 g) (oII (λ_ _=> True) g'):=
 ⟨λa b Q Q' k q=> oII.mono a b Q Q' k q,λa b x y H Q0 Q ra rb q k=> by
  obtain ⟨i,j,rfl,rfl,c,q⟩:=q.get
  exact ⟨i,j,ra.int,rb.int,k _ _ (.val q (hg H i j))⟩⟩
def A5Q (_ j:Int):Prop:=0 < j
section
variable {X:Cx} {G:Gx} {a b:Expr} {ta tb:AT} {pos:Pos}
theorem Z5 (ha:AE X G a ta) (hb:AE X G b tb):AE X G (.BinOp a .Mod b pos) (aOp2 (oII A5Q λi j=> .int (i % j)) ta tb):=j5 op_mod (A1T (C:=λ_ j=> 0 < j) λ_ _ _=> .int) ha hb
theorem A3Z (ha:AE X G a ta) (hb:AE X G b tb):AE X G (.BinOp a .FloorDiv b pos) (aOp2 (oII CDivW λi j=> .int (i / j)) ta tb):=j5 op_fdivW (A1T λ_ _ _=> .int) ha hb
end
section
variable {X:Cx}
theorem A1j {pins:List (Addr×Obj)} {σ:L2.St} {H:Hp} {s:Shared} {l:Addr} {xs:List V} (I:Inv X pins σ H s) (r:Rd H l (.lst xs)):
  xs.length<=sizeLine/\∃(us:List Value) (n:Nat),Vals xs us/\s.heap.get? l=some { cls:= .type "list",data:= .seq us.toArray n }:=r.ok I.hok
def A4L:R2:=λx y H Q=> ∃l b xs zs,x= .ref l/\y= .ref b/\Rd H l (.lst xs)/\Rd H b (.lst zs)/\xs.length+zs.length<=sizeLine/\∀p,H p=none->Q (.ref p) (upd H p (.lst (xs++zs)))
theorem A7b:OpR X (binaryOp .Add) A4L:=λpins s σ H x y v u Q I rx ry h=> by
 obtain ⟨l,b,xs,zs,rfl,rfl,h1,h2,hz,q⟩:=h
 obtain rfl:v= .ref l:=rx
 obtain rfl:u= .ref b:=ry
 obtain ⟨_,us,n,r1,e1⟩:=A1j I h1
 obtain ⟨_,ws,m,r2,e2⟩:=A1j I h2
 have z:us.toArray.size+ws.toArray.size<=sizeLine:=by
  rw [size_toArray,size_toArray,<-r1.length,<-r2.length];exact hz
 have w:=r1.append r2
 refine PySem.P.add_list e1 e2 ?_ z
 rw [show us.toArray++ws.toArray=(us++ws).toArray from by simp]
 refine ⟨.ref _,_,I.lnew (t':=s.toks) w ?_,rfl,q _ I.fresh⟩
 rw [length_append];exact hz
end
def A43:C9:=λa b Q=> ∃xs ys,a.seq=some xs/\b.seq=some ys/\xs.length+ys.length<=sizeLine/\Q (.own (.seq (xs++ys)))
theorem A7K {K:PySem.W.Frag}:OpA K A4L A43:=
 ⟨λa b Q Q' k ⟨xs,ys,e,f,z,q⟩=> ⟨xs,ys,e,f,z,k _ q⟩,λa b x y H Q0 Q ra rb q k=> by
  obtain ⟨xs,ys,e,f,z,q⟩:=q
  obtain ⟨p,vs,rfl,d1,r1⟩:=ra.seq e
  obtain ⟨p',us,rfl,d2,r2⟩:=rb.seq f
  exact ⟨p,p',vs,us,rfl,rfl,d1,d2,by rw [<-r1.length,<-r2.length];exact z,λl n=> k _ _ (.lst n q (r1.append r2))⟩⟩
def A4T:C9:=λa b Q=> ∃xs ys,a.tpl=some xs/\b.tpl=some ys/\xs.length+ys.length<=sizeLine/\Q (.val (.tup (xs++ys)))
theorem A6o {K:PySem.W.Frag}:OpA K (rCatA K) A4T:=
 ⟨λa b Q Q' k ⟨xs,ys,e,f,z,q⟩=> ⟨xs,ys,e,f,z,k _ q⟩,λa b x y H Q0 Q ra rb q k=> by
  obtain ⟨xs,ys,e,f,z,q⟩:=q
  obtain ⟨p,vs,rfl,d1,r1⟩:=ra.tplT e
  obtain ⟨p',us,rfl,d2,r2⟩:=rb.tplT f
  refine ⟨p,p',vs,us,rfl,rfl,d1.sq,d2.sq,by rw [<-r1.length,<-r2.length];exact z,λh0=> ?_,λ_ h0=> ?_,λ_ _ l n=> k _ _ (.tup n q (r1.append r2))⟩
  ·have e0:xs=[]:=eq_nil_of_length_eq_zero (by rw [r1.length,h0];rfl)
   subst e0
   exact k _ _ (.val q (.tup d2 r2))
  ·have e0:ys=[]:=eq_nil_of_length_eq_zero (by rw [r2.length,h0];rfl)
   subst e0
   rw [append_nil] at q
   exact k _ _ (.val q (.tup d1 r1))⟩
def A0c:C9:=λa b Q=> match a,b with
 | .wv (.str x),.wv (.str y)=> x.length+y.length<=sizeLine/\Q (.val (.str (x++y)))
 | _,_=> False
theorem A6i {K:PySem.W.Frag}:OpA K (λx y H Q=> ∃i j,x= .str i/\y= .str j/\i.length+j.length<=sizeLine/\Q (.str (i++j)) H) A0c:=
 ⟨λa b Q Q' k q=> by
  unfold A0c at q ⊢
  split at q
  ·exact ⟨q.1,k _ q.2⟩
  ·exact q.elim,λa b x y H Q0 Q ra rb q k=> by
  unfold A0c at q
  split at q
  ·exact ⟨_,_,ra.str,rb.str,q.1,k _ _ (.val q.2 .str)⟩
  ·exact q.elim⟩
def oAdd:C9:=λa b Q=> match a,b with
 | .wv (.int i),.wv (.int j)=> Q (.val (.int (i+j)))
 | .wv (.str x),.wv (.str y)=> x.length+y.length<=sizeLine/\Q (.val (.str (x++y)))
 | .wv (.tup xs),.wv (.tup ys)=> xs.length+ys.length<=sizeLine/\Q (.val (.tup (xs++ys)))
 | .wv (.lst xs),.wv (.lst ys)=> xs.length+ys.length<=sizeLine/\Q (.own (.seq (xs++ys)))
 | .wv (.lst xs),.cv (.seq ys)=> xs.length+ys.length<=sizeLine/\Q (.own (.seq (xs++ys)))
 | .cv (.seq xs),.wv (.lst ys)=> xs.length+ys.length<=sizeLine/\Q (.own (.seq (xs++ys)))
 | .cv (.seq xs),.cv (.seq ys)=> xs.length+ys.length<=sizeLine/\Q (.own (.seq (xs++ys)))
 | _,_=> False
theorem oAdd.as (a b:Vw) (Q:RV->Prop) (q:oAdd a b Q):((oII (λ_ _=> True) (λi j=> .int (i+j)) a b Q\/A0c a b Q)\/A4T a b Q)\/A43 a b Q:=by
 unfold oAdd at q
 split at q
 ·exact .inl (.inl (.inl ⟨trivial,q⟩))
 ·exact .inl (.inl (.inr q))
 ·exact .inl (.inr ⟨_,_,rfl,rfl,q⟩)
 ·exact .inr ⟨_,_,rfl,rfl,q⟩
 ·exact .inr ⟨_,_,rfl,rfl,q⟩
 ·exact .inr ⟨_,_,rfl,rfl,q⟩
 ·exact .inr ⟨_,_,rfl,rfl,q⟩
 ·exact q.elim
theorem oAdd.mono (a b:Vw) (Q Q':RV->Prop) (k:∀r,Q r->Q' r) (q:oAdd a b Q):oAdd a b Q':=by
 unfold oAdd at q ⊢
 split at q <;> first | exact ⟨q.1,k _ q.2⟩ | exact k _ q | exact q.elim
section
variable {X:Cx} {G:Gx} {a b c:Expr} {ta tb tc:AT} {pos:Pos}
theorem L7 (gk:G.K=X.K) (ha:AE X G a ta) (hb:AE X G b tb):AE X G (.BinOp a .Add b pos) (aOp2 oAdd ta tb):=
 j5 (((op_add.or op_add_str).or op_catA).or A7b) ((((A1L λ_ _ _=> .int).or A6i).or (gk▸A6o)).or A7K |>.as (o':=oAdd) oAdd.as oAdd.mono) ha hb
end
mutual
def W.pd:W->PyData
 | .non=> .none
 | .bl b=> .bool b
 | .int i=> .int i
 | .str x=> .str x
 | .tup xs=> .tuple (W.pds xs)
 | .lst xs=> .list (W.pds xs)
 | .dct _ _=> .none
 | .ref _=> .none
 | .ty _=> .none
 | .emp=> .tuple []
 | .exc _ _ _=> .none
def W.pds:List W->List PyData
 | []=> []
 | x::xs=> x.pd::W.pds xs
end
def W.dat:Nat->W->Bool
 | _,.non=> true
 | _,.bl _=> true
 | _,.int _=> true
 | _,.str _=> true
 | n+1,.tup xs=> xs.all (W.dat n)
 | n+1,.lst xs=> xs.all (W.dat n)
 | n+1,.emp=> true
 | _,_=> false
theorem W.depth_all {n:Nat}:∀xs:List W,(∀x∈xs,x.pd.depth<=n)->PyData.depthAll (W.pds xs)<=n
 | [],_=> Nat.zero_le _
 | x::xs,h=> by
  simp only [W.pds,PyData.depthAll]
  exact Nat.max_le.mpr ⟨h x mem_cons_self,W.depth_all xs λy hy=> h y (mem_cons_of_mem _ hy)⟩
theorem W.dat_depth:∀(n:Nat) (w:W),w.dat n=true->w.pd.depth<=n
 | _,.non,_=> by simp only [W.pd,PyData.depth];omega
 | _,.bl _,_=> by simp only [W.pd,PyData.depth];omega
 | _,.int _,_=> by simp only [W.pd,PyData.depth];omega
 | _,.str _,_=> by simp only [W.pd,PyData.depth];omega
 | 0,.tup _,h=> by simp [W.dat] at h
 | 0,.lst _,h=> by simp [W.dat] at h
 | n+1,.tup xs,h=> by
  simp only [W.pd,PyData.depth]
  have z:=W.depth_all xs λx hx=> W.dat_depth n x (all_eq_true.mp (by simpa only [W.dat] using h) x hx)
  omega
 | n+1,.lst xs,h=> by
  simp only [W.pd,PyData.depth]
  have z:=W.depth_all xs λx hx=> W.dat_depth n x (all_eq_true.mp (by simpa only [W.dat] using h) x hx)
  omega
 | n,.dct _ _,h=> by simp [W.dat] at h
 | n,.ref _,h=> by simp [W.dat] at h
 | n,.ty _,h=> by simp [W.dat] at h
 | 0,.emp,h=> by simp [W.dat] at h
 | _,.exc _ _ _,h=> by simp [W.dat] at h
 | n+1,.emp,_=> by simp only [W.pd,PyData.depth,PyData.depthAll];omega
mutual
theorem W.pd_plain:∀w:W,w.pd.plain=true
 | .non=> rfl
 | .bl _=> rfl
 | .int _=> rfl
 | .str _=> rfl
 | .tup xs=> by simp only [W.pd,PyData.plain];exact W.pds_plain xs
 | .lst xs=> by simp only [W.pd,PyData.plain];exact W.pds_plain xs
 | .dct _ _=> rfl
 | .ref _=> rfl
 | .ty _=> rfl
 | .emp=> by simp only [W.pd,PyData.plain,PyData.plainAll]
 | .exc _ _ _=> by simp only [W.pd,PyData.plain]
theorem W.pds_plain:∀ws:List W,PyData.plainAll (W.pds ws)=true
 | []=> rfl
 | w::ws=> by simp only [W.pds,PyData.plainAll,Bool.and_eq_true];exact ⟨W.pd_plain w,W.pds_plain ws⟩
end
section
variable {K:PySem.W.Frag} {H:Hp}
theorem X1 {a:Addr} {vs:List V} (h:Rd H a (.lst vs)):SqL K H a vs:= .inl h
theorem waa.dp {n:Nat} (ih:∀(w:W) (v:V),Rep K H w v->w.dat n=true->Dp K H v w.pd):∀(ws:List W) (vs:List V),waa K H ws vs->ws.all (W.dat n)=true->DpAll K H vs (W.pds ws)
 | [],vs,r,_=> by rw [r.of_nil];exact .nil
 | w::ws,vs,r,d=> by
  obtain ⟨v,t,rfl,a,b⟩:=r.of_cons
  rw [List.all_cons,Bool.and_eq_true] at d
  exact .cons (ih w v a d.1) (waa.dp ih ws t b d.2)
theorem Rep.dp:∀(n:Nat) (w:W) (v:V),Rep K H w v->w.dat n=true->Dp K H v w.pd
 | _,.non,_,r,_=> by rw [Rep.of_non (K:=K) (H:=H) r];exact .non
 | _,.bl _,_,r,_=> by rw [Rep.of_bl (K:=K) (H:=H) r];exact .bl _
 | _,.int _,_,r,_=> by rw [Rep.of_int (K:=K) (H:=H) r];exact .int _
 | _,.str _,_,r,_=> by rw [Rep.of_str (K:=K) (H:=H) r];exact .str _
 | n+1,.tup xs,v,r,d=> by
  obtain ⟨a,vs,rfl,s,r⟩:=Rep.of_tup r
  simp only [W.pd]
  exact .tup s (waa.dp (Rep.dp n) xs vs r (by simpa only [W.dat] using d))
 | n+1,.lst xs,v,r,d=> by
  obtain ⟨a,vs,rfl,⟨o,s⟩,r⟩:=Rep.of_lst r
  simp only [W.pd]
  exact .lst (X1 (.inr ⟨o,s⟩)) (waa.dp (Rep.dp n) xs vs r (by simpa only [W.dat] using d))
 | 0,.tup _,_,_,d=> by simp [W.dat] at d
 | 0,.lst _,_,_,d=> by simp [W.dat] at d
 | _,.dct _ _,_,_,d=> by simp [W.dat] at d
 | _,.ref _,_,_,d=> by simp [W.dat] at d
 | _,.ty _,_,_,d=> by simp [W.dat] at d
 | 0,.emp,_,_,d=> by simp [W.dat] at d
 | _,.exc _ _ _,_,_,d=> by simp [W.dat] at d
 | n+1,.emp,v,r,d=> by
  obtain ⟨a,rfl,e⟩:=Rep.of_emp (K:=K) (H:=H) r
  simp only [W.pd]
  exact .tup e.sq .nil
end
theorem VR.dp {K:PySem.W.Frag} {H:Hp} {a:Vw} {v:V} {n:Nat} (r:VR K H a v) (d:a.toW.dat n=true) (nb:a≠ .bad):Dp K H v a.toW.pd:=by
 cases a with
 | wv w=> exact Rep.dp n w v r d
 | bad=> exact absurd rfl nb
 | cv c=>
  cases c with
  | map kvs=> simp [Vw.toW,Cont.fz,W.dat] at d
  | seq ws=>
   obtain ⟨p,rfl,vs,e,r⟩:=r
   have d:(W.lst ws).dat n=true:=d
   cases n with
   | zero=> simp [W.dat] at d
   | succ n=>
    simp only [W.dat] at d
    show Dp K H _ (W.lst ws).pd
    simp only [W.pd]
    exact .lst (X1 (.inl e)) (waa.dp (Rep.dp n) ws vs r d)
def D2 (a b:W):Bool:=PyData.eqv a.pd b.pd
def Vw.ok:Vw->Bool
 | .bad=> false
 | v=> v.toW.dat 60
theorem Vw.of_ok {a:Vw} (h:a.ok=true):a.toW.dat 60=true/\a≠ .bad:=by
 cases a with
 | bad=> cases h
 | wv w=> exact ⟨h,λz=> nomatch z⟩
 | cv c=> exact ⟨h,λz=> nomatch z⟩
def E1 (neg:Bool):C9:=λa b Q=> a.ok=true/\b.ok=true/\Q (.val (.bl (if neg then !D2 a.toW b.toW else D2 a.toW b.toW)))
def A2I (K:PySem.W.Frag) (neg:Bool):R2:=λx y H Q=> ∃d e,Dp K H x d/\Dp K H y e/\d.plain=true/\e.plain=true/\d.depth<=60/\Q (.bl (if neg then !PyData.eqv d e else PyData.eqv d e)) H
theorem A3w {K:PySem.W.Frag} {neg:Bool}:OpA K (A2I K neg) (E1 neg):=
 ⟨λa b Q Q' k ⟨x,y,q⟩=> ⟨x,y,k _ q⟩,λa b x y H Q0 Q ra rb ⟨da,db,q⟩ k=>
  ⟨_,_,ra.dp (Vw.of_ok da).1 (Vw.of_ok da).2,rb.dp (Vw.of_ok db).1 (Vw.of_ok db).2,W.pd_plain _,W.pd_plain _,W.dat_depth _ _ (Vw.of_ok da).1,k _ _ (.val q .bl)⟩⟩
section
variable {X:Cx} {G:Gx} {a b c:Expr} {ta tb tc:AT} {pos:Pos}
theorem A89 (hu:X.A.units+64 < cLine):OpR X (compareOp .Eq) (A2I X.K false):=λpins s σ H x y v u Q I rx ry ⟨d,e,hd,he,pd,pe,dp,q⟩=> by
 obtain ⟨as,r1⟩:=Dp.reads I d x v hd rx
 obtain ⟨bs,r2⟩:=Dp.reads I e y u he ry
 have z:=Nat.min_le_left d.depth e.depth
 exact SeqAt.eq_plain r1 r2 pd pe (by omega) ⟨.bl _,H,I,rfl,q⟩
theorem A8p (hu:X.A.units+64 < cLine):OpR X (compareOp .NotEq) (A2I X.K true):=λpins s σ H x y v u Q I rx ry ⟨d,e,hd,he,pd,pe,dp,q⟩=> by
 obtain ⟨as,r1⟩:=Dp.reads I d x v hd rx
 obtain ⟨bs,r2⟩:=Dp.reads I e y u he ry
 have z:=Nat.min_le_left d.depth e.depth
 exact SeqAt.ne_plain r1 r2 pd pe (by omega) ⟨.bl _,H,I,rfl,q⟩
theorem A0j (gk:G.K=X.K) (hu:X.A.units+64 < cLine) (ha:AE X G a ta) (hb:AE X G b tb):AE X G (.Compare a [.Eq] [b] pos) (aOp2 (E1 false) ta tb):=A1g (A89 hu) (gk▸A3w) ha hb (nomark _)
end
def Vw.isNon:Vw->Bool
 | .wv .non=> true
 | _=> false
def F4 (neg:Bool):C9:=λa b Q=> b= .wv .non/\a≠ .bad/\Q (.val (.bl (if neg then !a.isNon else a.isNon)))
theorem VR.isN {K:PySem.W.Frag} {H:Hp}:∀{a:Vw} {v:V},VR K H a v->a≠ .bad->decide (v= .non)=a.isNon
 | .bad,_,_,nb=> absurd rfl nb
 | .cv c,v,r,_=> by obtain ⟨p,e,_⟩:=r;subst e;rfl
 | .wv .non,v,r,_=> by have e:=r.non;subst e;rfl
 | .wv (.bl b),v,r,_=> by have e:=r.bl;subst e;rfl
 | .wv (.int b),v,r,_=> by have e:=r.int;subst e;rfl
 | .wv (.str b),v,r,_=> by have e:=r.str;subst e;rfl
 | .wv (.tup b),v,r,_=> by obtain ⟨p,vs,e,_⟩:=Rep.of_tup (K:=K) (H:=H) r;subst e;rfl
 | .wv (.lst b),v,r,_=> by obtain ⟨p,vs,e,_⟩:=Rep.of_lst (K:=K) (H:=H) r;subst e;rfl
 | .wv (.ref a),v,r,_=> by have e:=Rep.of_ref (K:=K) (H:=H) r;subst e;rfl
 | .wv (.ty a),v,r,_=> by have e:=Rep.of_ty (K:=K) (H:=H) r;subst e;rfl
 | .wv (.exc _ _ _),v,r,_=> by obtain ⟨a,_,_,_,_,_,e,_⟩:=Rep.of_exc (K:=K) (H:=H) r;subst e;rfl
 | .wv .emp,v,r,_=> by obtain ⟨a,e,_⟩:=Rep.of_emp (K:=K) (H:=H) r;subst e;rfl
 | .wv (.dct ks vs),v,r,_=> by
  have z:Rep K H (.dct ks vs) v:=r
  simp only [Rep] at z
  obtain ⟨p,e,_⟩:=z;subst e;rfl
theorem A3U {K:PySem.W.Frag}:OpA K (λx y H Q=> y= .non/\Q (.bl (decide (x= .non))) H) (F4 false):=
 ⟨λa b Q Q' k ⟨x,y,q⟩=> ⟨x,y,k _ q⟩,λa b x y H Q0 Q ra rb ⟨e,nb,q⟩ k=> by
  subst e
  refine ⟨rb.non,k _ _ (.val q ?_)⟩
  rw [ra.isN nb]
  exact .bl⟩
def Vw.items:Vw->Option (List W)
 | .wv (.lst xs)=> some xs
 | .wv (.tup xs)=> some xs
 | .cv (.seq xs)=> some xs
 | _=> none
theorem VR.itemsT {K:PySem.W.Frag} {H:Hp} {a:Vw} {v:V} {xs:List W} (r:VR K H a v) (e:a.items=some xs):∃p vs,v= .ref p/\(Rd H p (.lst vs)\/TqT K H p vs)/\waa K H xs vs:=by
 cases a with
 | bad=> cases e
 | cv c=>
  cases c with
  | map _=> cases e
  | seq ws=> obtain ⟨p,vs,a,b,c⟩:=r.seq e;exact ⟨p,vs,a,.inl b,c⟩
 | wv w=>
  cases w with
  | lst ws=> obtain ⟨p,vs,a,b,c⟩:=r.seq e;exact ⟨p,vs,a,.inl b,c⟩
  | tup ws=> obtain ⟨p,vs,a,b,c⟩:=r.tplT e;exact ⟨p,vs,a,.inr b,c⟩
  | _=> cases e
theorem VR.items {K:PySem.W.Frag} {H:Hp} {a:Vw} {v:V} {xs:List W} (r:VR K H a v) (e:a.items=some xs):∃p vs,v= .ref p/\(Rd H p (.lst vs)\/SqT K H p vs)/\waa K H xs vs:=let ⟨p,vs,q,s,r⟩:=r.itemsT e;⟨p,vs,q,s.imp id TqT.sq,r⟩
def R7 (x:W) (xs:List W):Bool:=xs.any λy=> D2 y x
def R9 (neg:Bool):C9:=λa b Q=> ∃xs,b.items=some xs/\a.ok=true/\xs.all (W.dat 60)=true/\Q (.val (.bl (if neg then !R7 a.toW xs else R7 a.toW xs)))
def A5P (K:PySem.W.Frag) (neg:Bool):R2:=λx y H Q=> ∃p vs d ds,y= .ref p/\(SqL K H p vs\/SqT K H p vs)/\Dp K H x d/\DpAll K H vs ds/\d.plain=true/\PyData.plainAll ds=true/\d.depth<=60/\Q (.bl (if neg then !(ds.any λy=> PyData.eqv y d) else ds.any λy=> PyData.eqv y d)) H
theorem A3X (x:W):∀xs:List W,((W.pds xs).any λy=> PyData.eqv y x.pd)=R7 x xs
 | []=> rfl
 | y::ys=> by
  simp only [W.pds,List.any_cons,R7]
  rw [A3X x ys];rfl
theorem A7x {K:PySem.W.Frag} {neg:Bool}:OpA K (A5P K neg) (R9 neg):=
 ⟨λa b Q Q' k ⟨xs,x,y,z,q⟩=> ⟨xs,x,y,z,k _ q⟩,λa b x y H Q0 Q ra rb ⟨xs,e,da,db,q⟩ k=> by
  obtain ⟨p,vs,rfl,hs,rv⟩:=rb.items e
  refine ⟨p,vs,_,_,rfl,hs.imp_left X1,ra.dp (Vw.of_ok da).1 (Vw.of_ok da).2,waa.dp (Rep.dp 60) xs vs rv db,W.pd_plain _,W.pds_plain _,W.dat_depth _ _ (Vw.of_ok da).1,k _ _ (.val q ?_)⟩
  rw [A3X]
  exact .bl⟩
section
variable {X:Cx}
theorem A8N {pins:List (Addr×Obj)} {σ:L2.St} {H:Hp} {s:Shared} {p:Addr} {vs:List V} {ds:List PyData} (I:Inv X pins σ H s) (hq:SqL X.K H p vs\/SqT X.K H p vs) (hd:DpAll X.K H vs ds):(∃as,Reads s.heap (.ref p) (.list ds) as)\/∃as,Reads s.heap (.ref p) (.tuple ds) as:=by
 rcases hq with hq | hq
 ·exact .inl (Dp.reads I (.list ds) (.ref p) (.ref p) (.lst hq hd) rfl)
 ·exact .inr (Dp.reads I (.tuple ds) (.ref p) (.ref p) (.tup hq hd) rfl)
theorem A8i (hu:X.A.units+64 < cLine):OpR X (compareOp .In) (A5P X.K false):=λpins s σ H x y v u Q I rx ry ⟨p,vs,d,ds,e,hq,hx,hd,pd,pe,dp,q⟩=> by
 subst e
 obtain rfl:u= .ref p:=ry
 obtain ⟨as,r1⟩:=Dp.reads I d x v hx rx
 have z:=Nat.min_le_right (PyData.depthAll ds) d.depth
 rcases A8N I hq hd with ⟨bs,r2⟩ | ⟨bs,r2⟩
 ·exact SeqAt.in_list_data r2 r1 pe pd (by omega) ⟨.bl _,H,I,rfl,q⟩
 ·exact SeqAt.in_tuple_data r2 r1 pe pd (by omega) ⟨.bl _,H,I,rfl,q⟩
end
def aTst (t:AT):C2:=λenv h Q=> t env h λr env' h'=> match view env' h' r with
 | .wv (.bl b)=> Q b env' h'
 | _=> False
theorem aTst.mono {t:AT} (m:A1 t):A1 (aTst t):=λenv h Q Q' k q=> m env h _ _ (λr e g z=> by
 show match view e g r with
  | .wv (.bl b)=> Q' b e g
  | _=> False
 have z:match view e g r with
  | .wv (.bl b)=> Q b e g
  | _=> False:=z
 split at z
 ·exact k _ _ _ z
 ·exact z) q
def aAndT (t u:C2):C2:=λenv h Q=> t env h λb env' h'=> if b=true then u env' h' Q else Q false env' h'
def aOrT (t u:C2):C2:=λenv h Q=> t env h λb env' h'=> if b=true then Q true env' h' else u env' h' Q
def aNotT (t:C2):C2:=λenv h Q=> t env h λb env' h'=> Q (!b) env' h'
def aIfE (t:C2) (a b:AT):AT:=λenv h Q=> t env h λc env' h'=> if c=true then a env' h' Q else b env' h' Q
theorem aAndT.mono {t u:C2} (m:A1 t) (n:A1 u):A1 (aAndT t u):=λenv h Q Q' k q=> m env h _ _ (λb e g z=> by
 cases b with
 | true=> exact iteT (n e g _ _ k (by simpa using z))
 | false=> exact iteF (k _ _ _ (by simpa using z))) q
theorem aOrT.mono {t u:C2} (m:A1 t) (n:A1 u):A1 (aOrT t u):=λenv h Q Q' k q=> m env h _ _ (λb e g z=> by
 cases b with
 | true=> exact iteT (k _ _ _ (by simpa using z))
 | false=> exact iteF (n e g _ _ k (by simpa using z))) q
theorem aNotT.mono {t:C2} (m:A1 t):A1 (aNotT t):=λenv h Q Q' k q=> m env h _ _ (λb e g z=> k _ _ _ z) q
theorem aIfE.mono {t:C2} {a b:AT} (m:A1 t) (n:A1 a) (o:A1 b):A1 (aIfE t a b):=λenv h Q Q' k q=> m env h _ _ (λc e g z=> by
 cases c with
 | true=> exact iteT (n e g _ _ k (by simpa using z))
 | false=> exact iteF (o e g _ _ k (by simpa using z))) q
section
variable {X:Cx} {G:Gx} {a b c:Expr} {ta tb tc:AT} {t u:C2} {pos:Pos} {rest:List Expr}
theorem A8k (h:AE X G a ta) (hv:∀t:TE,PE X a t->PT X a (tTest t)):AP X G a (aTst ta):=by
 refine ⟨aTst.mono h.mono,PT.imp (hv _ h.pe) λσ H Q ⟨env,k,S,q⟩=> ?_⟩
 refine ⟨env,k,S,h.mono env k _ _ (λr env1 h1 z v H1 S1 x1 r1 f1=> ?_) q⟩
 have r2:=r1.vr S1
 split at z
 ·rename_i b e
  rw [e] at r2
  exact ⟨b,r2.bl,z H1 S1 x1⟩
 ·exact z.elim
theorem A0U {op:CmpOp} {r:R2} {o:C9} (ho:OpR X (compareOp op) r) (oa:OpA G.K r o) (ha:AE X G a ta) (hb:AE X G b tb) (hm:behindInMarks op b=false):AP X G (.Compare a [op] [b] pos) (aTst (aOp2 o ta tb)):=by
 refine ⟨aTst.mono (aOp2.mono oa ha.mono hb.mono),PT.imp (pt_cmpR ho ha.pe hb.pe hm) λσ H Q ⟨env,k,S,q⟩=> ?_⟩
 refine A0L ha.mono hb.mono oa ⟨env,k,S,aOp2.mono oa ha.mono hb.mono env k _ _ (λr env1 h1 z v H1 S1 x1 r1 f1=> ?_) q⟩
 have r2:=r1.vr S1
 split at z
 ·rename_i b e
  rw [e] at r2
  exact ⟨b,r2.bl,z H1 S1 x1⟩
 ·exact z.elim
theorem A36 (h:AP X G a t):AP X G (.UnaryOp .Not a pos) (aNotT t):=
 ⟨aNotT.mono h.mono,PT.imp (pt_not h.pt) λσ H Q ⟨env,k,S,q⟩=> ⟨env,k,S,q⟩⟩
structure AW (X:Cx) (G:Gx) (e:Expr) (t:C2):Prop where
 mono:A1 t
 pw:PW X e (cT G t)
theorem PW.imp {e:Expr} {t t':TT} (h:PW X e t) (i:∀σ H Q,t' σ H Q->t σ H Q):PW X e t':=⟨λw pins s σ H Q I q=> h.run w pins s σ H Q I (i σ H Q q)⟩
theorem AW.ap (h:AW X G a t):AP X G a t:=⟨h.mono,h.pw.pt⟩
theorem A7E (h:AP X G a t):AW X G (.BoolOp .And [a] pos) t:=⟨h.mono,pw_and1 h.pt⟩
theorem A8E (h:AP X G a t):AW X G (.BoolOp .Or [a] pos) t:=⟨h.mono,pw_or1 h.pt⟩
theorem A6f {σ:L2.St} {H:Hp} {Q:Bool->Hp->Prop} (mt:A1 t) (mu:A1 u) (q:cT G (aAndT t u) σ H Q):tAnd (cT G t) (cT G u) σ H Q:=by
 obtain ⟨env,k,S,q⟩:=q
 refine ⟨env,k,S,mt env k _ _ (λb env1 h1 z H1 S1 x1=> ?_) q⟩
 cases b with
 | true=>
  rw [if_pos rfl] at z
  exact iteT ⟨env1,h1,S1,mu env1 h1 _ _ (λc env2 h2 z2 H2 S2 x2=> z2 H2 S2 (x1.trans x2)) z⟩
 | false=>
  rw [if_neg Bool.false_ne_true] at z ⊢
  exact z H1 S1 x1
theorem A7I {σ:L2.St} {H:Hp} {Q:Bool->Hp->Prop} (mt:A1 t) (mu:A1 u) (q:cT G (aOrT t u) σ H Q):tOr (cT G t) (cT G u) σ H Q:=by
 obtain ⟨env,k,S,q⟩:=q
 refine ⟨env,k,S,mt env k _ _ (λb env1 h1 z H1 S1 x1=> ?_) q⟩
 cases b with
 | false=>
  rw [if_neg Bool.false_ne_true] at z
  exact iteF ⟨env1,h1,S1,mu env1 h1 _ _ (λc env2 h2 z2 H2 S2 x2=> z2 H2 S2 (x1.trans x2)) z⟩
 | true=>
  rw [if_pos rfl] at z ⊢
  exact z H1 S1 x1
theorem A8B (ha:AP X G a t) (hb:AW X G (.BoolOp .And (b::rest) pos) u):AW X G (.BoolOp .And (a::b::rest) pos) (aAndT t u):=
 ⟨aAndT.mono ha.mono hb.mono,PW.imp (pw_and ha.pt hb.pw) λ_ _ _ q=> A6f ha.mono hb.mono q⟩
theorem A9N (ha:AP X G a t) (hb:AW X G (.BoolOp .Or (b::rest) pos) u):AW X G (.BoolOp .Or (a::b::rest) pos) (aOrT t u):=
 ⟨aOrT.mono ha.mono hb.mono,PW.imp (pw_or ha.pt hb.pw) λ_ _ _ q=> A7I ha.mono hb.mono q⟩
end
theorem waa.atI {K:PySem.W.Frag} {H:Hp} {ws:List W} {vs:List V} {i:Int} {w:W} (r:waa K H ws vs) (e:L2.atI ws i=some w):∃v,L2.atI vs i=some v/\Rep K H w v:=by
 unfold L2.atI at e ⊢
 rw [<-r.length]
 cases q:ixN ws.length i with
 | none=> rw [q] at e;cases e
 | some j=>
  rw [q] at e
  exact r.get (i:=j) e
def oIx:C9:=λa b Q=> match b with
 | .wv (.int i)=> match a with
  | .wv (.str x)=> x.length<=sizeLine/\∃c,L2.atI x.cps.toList i=some c/\Q (.val (.str ⟨#[c]⟩))
  | a=> ∃xs w,a.items=some xs/\L2.atI xs i=some w/\Q (.val w)
 | _=> False
theorem oIx.mono (a b:Vw) (Q Q':RV->Prop) (k:∀r,Q r->Q' r) (q:oIx a b Q):oIx a b Q':=by
 unfold oIx at q ⊢
 split at q
 ·split at q
  ·obtain ⟨z,c,e,q⟩:=q;exact ⟨z,c,e,k _ q⟩
  ·obtain ⟨xs,w,e,f,q⟩:=q;exact ⟨xs,w,e,f,k _ q⟩
 ·exact q
theorem A3q {K:PySem.W.Frag}:OpA K (rIx K) oIx:=
 ⟨oIx.mono,λa b x y H Q0 Q ra rb q k=> by
  unfold oIx at q
  split at q
  ·rename_i i
   split at q
   ·obtain ⟨z,c,e,q⟩:=q
    exact .inr (.inr ⟨_,i,c,ra.str,rb.int,z,e,k _ _ (.val q .str)⟩)
   ·obtain ⟨xs,w,e,f,q⟩:=q
    obtain ⟨p,vs,rfl,hs,rv⟩:=ra.items e
    obtain ⟨v,g,r⟩:=rv.atI f
    rcases hs with hs | hs
    ·exact .inl ⟨p,vs,i,v,rfl,rb.int,X1 hs,g,k _ _ (.val q r)⟩
    ·exact .inr (.inl ⟨p,vs,i,v,rfl,rb.int,hs,g,k _ _ (.val q r)⟩)
  ·exact q.elim⟩
section
variable {X:Cx} {G:Gx} {a b c:Expr} {ta tb tc:AT} {pos:Pos}
theorem E6 (gk:G.K=X.K) (ha:AE X G a ta) (hb:AE X G b tb) (hs:PlainIx b):AE X G (.Subscript a b pos) (aOp2 oIx ta tb):=
 ⟨aOp2.mono (A3q (K:=G.K)) ha.mono hb.mono,PE.imp (pe_ix ix_seq ha.pe hb.pe hs) λ_ _ _ q=> A0L ha.mono hb.mono (gk▸A3q) q⟩
end
abbrev g8:=A0->AH->(Option Int->A0->AH->Prop)->Prop
def cO (G:Gx) (t:g8):TO:=λσ H Q=> ∃env h,BS G env h σ H/\t env h λo env' h'=> ∀H',BS G env' h' σ H'->Xt env h σ H env' h' H'->Q o H'
structure AOp (X:Cx) (G:Gx) (e:Option Expr) (t:g8):Prop where
 mono:A1 t
 po:PO X e (cO G t)
def A1U:g8:=λenv h Q=> Q none env h
def A1y (t:AT):g8:=λenv h Q=> t env h λr env' h'=> match view env' h' r with
 | .wv (.int i)=> Q (some i) env' h'
 | _=> False
theorem PO.imp {X:Cx} {e:Option Expr} {t t':TO} (h:PO X e t) (i:∀σ H Q,t' σ H Q->t σ H Q):PO X e t':=⟨λpins s σ H Q I q=> h.run pins s σ H Q I (i σ H Q q)⟩
section
variable {X:Cx} {G:Gx} {a b c:Expr} {ta tb tc:AT} {pos p2:Pos} {lo hi:Option Expr} {tl th:g8}
theorem A7j:AOp X G none A1U:=⟨λenv h Q Q' k q=> k _ _ _ q,PO.imp po_none λσ H Q ⟨env,h,S,q⟩=> q H S .refl⟩
theorem A7X (ha:AE X G a ta):AOp X G (some a) (A1y ta):=by
 refine ⟨λenv h Q Q' k q=> ha.mono env h _ _ (λr e g z=> ?_) q,PO.imp (po_some ha.pe) λσ H Q ⟨env,h,S,q⟩=> ?_⟩
 ·split at z
  ·exact k _ _ _ z
  ·exact z
 ·refine ⟨env,h,S,ha.mono env h _ _ (λr env1 h1 z v H1 S1 x1 r1 f1=> ?_) q⟩
  have r2:=r1.vr S1
  split at z
  ·rename_i i e
   rw [e] at r2
   exact ⟨i,r2.int,z H1 S1 x1⟩
  ·exact z.elim
def O0 (xs:List W) (lo hi:Option Int):List W:=(xs.drop (HT.sIx xs.length 0 lo)).take (HT.sIx xs.length xs.length hi - HT.sIx xs.length 0 lo)
def oSl (a:Vw) (lo hi:Option Int) (Q:RV->Prop):Prop:=match a with
 | .wv (.str x)=> x.length<=sizeLine/\Q (.val (.str (Txt.slice x lo hi)))
 | .wv (.tup xs)=> Q (.val (.tup (O0 xs lo hi)))
 | .wv (.lst xs)=> Q (.own (.seq (O0 xs lo hi)))
 | .cv (.seq xs)=> Q (.own (.seq (O0 xs lo hi)))
 | _=> False
theorem oSl.mono {a:Vw} {lo hi:Option Int} {Q Q':RV->Prop} (k:∀r,Q r->Q' r) (q:oSl a lo hi Q):oSl a lo hi Q':=by
 unfold oSl at q ⊢
 split at q <;> first | exact ⟨q.1,k _ q.2⟩ | exact k _ q | exact q.elim
def aSl (ta:AT) (tl th:g8):AT:=λenv h Q=> ta env h λr env1 h1=> tl env1 h1 λlo env2 h2=> th env2 h2 λhi env3 h3=> oSl (view env3 h3 r) lo hi λr=> Q r env3 h3
theorem waa.cut {K:PySem.W.Frag} {H:Hp} {ws:List W} {vs:List V} (r:waa K H ws vs) (lo hi:Option Int):waa K H (O0 ws lo hi) (cutV vs lo hi):=by
 unfold O0 cutV
 rw [<-r.length]
 exact (r.drop _).take _
theorem A6U {ws:List W} {lo hi:Option Int} (h:HT.sIx ws.length 0 lo=0/\HT.sIx ws.length ws.length hi=ws.length):O0 ws lo hi=ws:=by
 unfold O0
 rw [h.1,h.2]
 simp
theorem A67 (gk:G.K=X.K) (ha:AE X G a ta) (hl:AOp X G lo tl) (hu:AOp X G hi th):AE X G (.Subscript a (.Slice lo hi none p2) pos) (aSl ta tl th):=by
 refine ⟨λenv h Q Q' k q=> ha.mono env h _ _ (λr e g z=> hl.mono e g _ _ (λl e g z=> hu.mono e g _ _ (λu e g z=> oSl.mono (λr q=> k _ _ _ q) z) z) z) q,PE.imp (pe_slice ((C8.sl_txt.or sl_tupA).or sl_list) ha.pe hl.po hu.po) λσ H Q ⟨env,h,S,q⟩=> ?_⟩
 refine ⟨env,h,S,ha.mono env h _ _ (λr env1 h1 z v H1 S1 x1 r1 f1=> ?_) q⟩
 refine ⟨env1,h1,S1,hl.mono env1 h1 _ _ (λl env2 h2 z H2 S2 x2=> ?_) z⟩
 refine ⟨env2,h2,S2,hu.mono env2 h2 _ _ (λu env3 h3 z H3 S3 x3=> ?_) z⟩
 have rr:=((r1.xt S1 x2).xt S2 x3).vr S3
 have fin:∀{v:V} {H':Hp},waq G.K H3 (λr=> ∀v H',BS G env3 h3 σ H'->Xt env h σ H env3 h3 H'->wad G env3 h3 σ H' r v->I9 H r v->Q v H') v H'->Q v H':=λo=> by
  obtain ⟨res,q0,a,b,c,d⟩:=o.end S3 (x1.trans (x2.trans x3))
  exact q0 _ _ a b c d
 unfold oSl at z
 split at z
 ·rename_i x e
  rw [e] at rr
  exact .inl (.inl ⟨x,rr.str,z.1,fin (.val z.2 .str)⟩)
 ·rename_i xs e
  rw [e] at rr
  obtain ⟨p,vs,rfl,hs,rv⟩:=rr.tplT rfl
  refine .inl (.inr ⟨p,vs,rfl,gk▸hs.sq,λy=> ?_,λ_ m n=> fin (.tup n z (rv.cut _ _))⟩)
  rw [<-rv.length] at y
  rw [A6U y] at z
  exact fin (.val z (.tup hs rv))
 ·rename_i xs e
  rw [e] at rr
  obtain ⟨p,vs,rfl,hs,rv⟩:=rr.seq rfl
  exact .inr ⟨p,vs,rfl,X1 hs,λm n=> fin (.lst n z (rv.cut _ _))⟩
 ·rename_i xs e
  rw [e] at rr
  obtain ⟨p,vs,rfl,hs,rv⟩:=rr.seq rfl
  exact .inr ⟨p,vs,rfl,X1 hs,λm n=> fin (.lst n z (rv.cut _ _))⟩
 ·exact z.elim
abbrev J0:=A0->AH->(List RV->A0->AH->Prop)->Prop
inductive RvL (G:Gx) (env:A0) (h:AH) (σ:L2.St) (H:Hp):List RV->List V->Prop where
 | nil:RvL G env h σ H [] []
 | cons {r:RV} {rs:List RV} {v:V} {vs:List V}:wad G env h σ H r v->RvL G env h σ H rs vs->RvL G env h σ H (r::rs) (v::vs)
def cR (G:Gx) (t:J0):TA:=λσ H Q=> ∃env h,BS G env h σ H/\t env h λrs env' h'=> ∀vs H',BS G env' h' σ H'->Xt env h σ H env' h' H'->RvL G env' h' σ H' rs vs->Q vs H'
structure AR (X:Cx) (G:Gx) (es:List Expr) (t:J0):Prop where
 mono:A1 t
 pa:PA X es (cR G t)
def F9:J0:=λenv h Q=> Q [] env h
def D4 (t:AT) (u:J0):J0:=λenv h Q=> t env h λr env' h'=> u env' h' λrs env2 h2=> Q (r::rs) env2 h2
theorem G5:AR X G [] F9:=⟨λenv h Q Q' k q=> k _ _ _ q,PA.imp pa_nil λσ H Q ⟨env,h,S,q⟩=> q [] H S .refl .nil⟩
theorem D7 {e:Expr} {es:List Expr} {t:AT} {u:J0} (a:AE X G e t) (b:AR X G es u) (hs:starEach (e::es) X.env=(false,eval e X.env)::starEach es X.env:=by rfl):AR X G (e::es) (D4 t u):=by
 refine ⟨λenv h Q Q' k q=> a.mono env h _ _ (λr e g z=> b.mono e g _ _ (λrs e2 g2 z2=> k _ _ _ z2) z) q,PA.imp (pa_cons a.pe b.pa hs) λσ H Q ⟨env,h,S,q⟩=> ?_⟩
 refine ⟨env,h,S,a.mono env h _ _ (λr env1 h1 z v H1 S1 x1 r1 f1=> ?_) q⟩
 refine ⟨env1,h1,S1,b.mono env1 h1 _ _ (λrs env2 h2 z vs H2 S2 x2 r2=> ?_) z⟩
 exact z (v::vs) H2 S2 (x1.trans x2) (.cons (r1.xt S1 x2) r2)
inductive VRL (K:PySem.W.Frag) (H:Hp):List Vw->List V->Prop where
 | nil:VRL K H [] []
 | cons {a:Vw} {as:List Vw} {v:V} {vs:List V}:VR K H a v->VRL K H as vs->VRL K H (a::as) (v::vs)
theorem RvL.vrl {env:A0} {h:AH} {σ:L2.St} {H:Hp} (S:BS G env h σ H) {rs:List RV} {vs:List V} (r:RvL G env h σ H rs vs):VRL G.K H (rs.map (view env h)) vs:=by
 induction r with
 | nil=> exact .nil
 | cons a _ ih=> exact .cons (a.vr S) ih
abbrev C7:=List Vw->(RV->Prop)->Prop
structure CallA (K:PySem.W.Frag) (r:List V->Hp->VK->Prop) (o:C7):Prop where
 mono:∀as Q Q',(∀r,Q r->Q' r)->o as Q->o as Q'
 ok:∀as vs H Q0 Q,VRL K H as vs->o as Q0->(∀v H',waq K H Q0 v H'->Q v H')->r vs H Q
def aCB (o:C7) (t:J0):AT:=λenv h Q=> t env h λrs env1 h1=> o (rs.map (view env1 h1)) λr=> Q r env1 h1
theorem CallA.or {K:PySem.W.Frag} {r r':List V->Hp->VK->Prop} {o o':C7} (a:CallA K r o) (b:CallA K r' o'):CallA K (λvs H Q=> r vs H Q\/r' vs H Q) (λas Q=> o as Q\/o' as Q):=
 ⟨λas Q Q' k q=> q.imp (a.mono as Q Q' k) (b.mono as Q Q' k),λas vs H Q0 Q r q k=> q.imp (λz=> a.ok as vs H Q0 Q r z k) λz=> b.ok as vs H Q0 Q r z k⟩
theorem CallA.as {K:PySem.W.Frag} {r:List V->Hp->VK->Prop} {o o':C7} (a:CallA K r o) (i:∀as Q,o' as Q->o as Q) (m:∀as Q Q',(∀r,Q r->Q' r)->o' as Q->o' as Q'):CallA K r o':=⟨m,λas vs H Q0 Q r q k=> a.ok as vs H Q0 Q r (i _ _ q) k⟩
theorem A3a {r:List V->Hp->VK->Prop} {o:C7} {t:J0} (ca:CallA G.K r o) (m:A1 t) {σ:L2.St} {H:Hp} {Q:VK} (q:cE G (aCB o t) σ H Q):tCB r (cR G t) σ H Q:=by
 obtain ⟨env,h,S,q⟩:=q
 refine ⟨env,h,S,m env h _ _ (λrs env1 h1 z vs H1 S1 x1 r1=> ?_) q⟩
 refine ca.ok _ _ _ _ _ (r1.vrl S1) z λv H2 out=> ?_
 obtain ⟨res,q0,a,b,c,d⟩:=out.end S1 x1
 exact q0 v H2 a b c d
theorem aCB.mono {r:List V->Hp->VK->Prop} {o:C7} {t:J0} (ca:CallA G.K r o) (m:A1 t):A1 (aCB o t):=λenv h Q Q' k q=> m env h _ _ (λrs e g z=> ca.mono _ _ _ (λr q=> k _ _ _ q) z) q
theorem K5 {id:String} {x:Str} {e:Expr} {es:List Expr} {p:Pos} {r:List V->Hp->VK->Prop} {o:C7} {t:J0} (hc:CallR X (.builtin id) r) (ca:CallA G.K r o) (hg:Gl X x) (hm:X.mg x=none) (hv:bootBuiltins x=some (.builtin id)) (ha:AR X G (e::es) t)
  (hn:x≠"__name__":=by decide) (hdb:(x==("__debug__":Str))=false:=by decide) (he:starEach (e::es) X.env=(false,eval e X.env)::starEach es X.env:=by rfl) (hpl:(backTo pos (starEach es X.env)).any (·.1)=false:=by rfl):
  AE X G (.Call (.Name x p) (e::es) [] pos) (aCB o t):=
 ⟨aCB.mono ca ha.mono,PE.imp (pe_callB hc hg hm hv ha.pa hn hdb he hpl) λ_ _ _ q=> A3a ca ha.mono q⟩
theorem A6Q {T:String} {x:Str} {e:Expr} {es:List Expr} {p:Pos} {r:List V->Hp->VK->Prop} {o:C7} {t:J0} (hc:CallR X (.type T) r) (ca:CallA G.K r o) (hg:Gl X x) (hm:X.mg x=none) (hv:bootBuiltins x=some (.type T)) (ha:AR X G (e::es) t)
  (hn:x≠"__name__":=by decide) (hdb:(x==("__debug__":Str))=false:=by decide) (he:starEach (e::es) X.env=(false,eval e X.env)::starEach es X.env:=by rfl) (hpl:(backTo pos (starEach es X.env)).any (·.1)=false:=by rfl):
  AE X G (.Call (.Name x p) (e::es) [] pos) (aCB o t):=
 ⟨aCB.mono ca ha.mono,PE.imp (pe_callTy hc hg hm hv ha.pa hn hdb he hpl) λ_ _ _ q=> A3a ca ha.mono q⟩
end
theorem VRL.one {K:PySem.W.Frag} {H:Hp} {a:Vw} {vs:List V} (r:VRL K H [a] vs):∃v,vs=[v]/\VR K H a v:=by
 cases r with
 | cons r t=> cases t;exact ⟨_,rfl,r⟩
theorem VRL.two {K:PySem.W.Frag} {H:Hp} {a b:Vw} {vs:List V} (r:VRL K H [a,b] vs):∃v u,vs=[v,u]/\VR K H a v/\VR K H b u:=by
 cases r with
 | cons r t=> obtain ⟨u,rfl,q⟩:=t.one;exact ⟨_,u,rfl,r,q⟩
def E7:C7:=λas Q=> match as with
 | [.wv (.str x)]=> x.length<=sizeLine/\Q (.val (.int x.length))
 | [.wv .emp]=> Q (.val (.int 0))
 | [a]=> ∃xs,a.items=some xs/\Q (.val (.int xs.length))
 | _=> False
theorem A0S {K:PySem.W.Frag}:CallA K (λxs H Q=> ∃x n,xs=[x]/\LenV K x H n/\Q (.int n) H) E7:=
 ⟨λas Q Q' k q=> by
  unfold E7 at q ⊢
  split at q
  ·exact ⟨q.1,k _ q.2⟩
  ·exact k _ q
  ·obtain ⟨xs,e,q⟩:=q;exact ⟨xs,e,k _ q⟩
  ·exact q,λas vs H Q0 Q r q k=> by
  unfold E7 at q
  split at q
  ·obtain ⟨v,rfl,r1⟩:=r.one
   cases r1.str
   exact ⟨_,_,rfl,⟨q.1,rfl⟩,k _ _ (.val q.2 .int)⟩
  ·obtain ⟨v,rfl,r1⟩:=r.one
   obtain ⟨a,rfl,e⟩:=Rep.of_emp (K:=K) (H:=H) r1
   exact ⟨_,0,rfl,.inr ⟨[],e.sq,rfl⟩,k _ _ (.val q .int)⟩
  ·obtain ⟨v,rfl,r1⟩:=r.one
   obtain ⟨xs,e,q⟩:=q
   obtain ⟨p,us,rfl,hs,rv⟩:=r1.items e
   refine ⟨_,us.length,rfl,?_,k _ _ (.val q (by rw [rv.length];exact .int))⟩
   rcases hs with hs | hs
   ·exact .inl ⟨us,X1 hs,rfl⟩
   ·exact .inr ⟨us,hs,rfl⟩
  ·exact q.elim⟩
def o2I (g:Int->Int->Int):C7:=λas Q=> match as with
 | [.wv (.int i),.wv (.int j)]=> Q (.val (.int (g i j)))
 | _=> False
def o1I (g:Int->Int):C7:=λas Q=> match as with
 | [.wv (.int i)]=> Q (.val (.int (g i)))
 | _=> False
def oInts (g:List Int->(RV->Prop)->Prop):C7:=λas Q=> match as with
 | [a]=> ∃ns:List Int,a.seq=some (ns.map W.int)/\g ns Q
 | _=> False
theorem oInts.mono {g:List Int->(RV->Prop)->Prop} (m:∀ns Q Q',(∀r,Q r->Q' r)->g ns Q->g ns Q') (as:List Vw) (Q Q':RV->Prop) (k:∀r,Q r->Q' r) (q:oInts g as Q):oInts g as Q':=by
 unfold oInts at q ⊢
 split at q
 ·obtain ⟨ns,e,q⟩:=q;exact ⟨ns,e,m _ _ _ k q⟩
 ·exact q
theorem oInts.get {K:PySem.W.Frag} {H:Hp} {g:List Int->(RV->Prop)->Prop} {as:List Vw} {vs:List V} {Q:RV->Prop} (r:VRL K H as vs) (q:oInts g as Q):∃p ns,vs=[.ref p]/\SqL K H p (ns.map V.int)/\g ns Q:=by
 unfold oInts at q
 split at q
 ·obtain ⟨v,rfl,r1⟩:=r.one
  obtain ⟨ns,e,q⟩:=q
  obtain ⟨p,us,rfl,hs,rv⟩:=r1.seq e
  rw [rv.of_ints] at hs
  exact ⟨p,ns,rfl,X1 hs,q⟩
 ·exact q.elim
def oBls (g:List Bool->Bool):C7:=λas Q=> match as with
 | [a]=> ∃bs:List Bool,a.seq=some (bs.map W.bl)/\Q (.val (.bl (g bs)))
 | _=> False
theorem oBls.mono {g:List Bool->Bool} (as:List Vw) (Q Q':RV->Prop) (k:∀r,Q r->Q' r) (q:oBls g as Q):oBls g as Q':=by
 unfold oBls at q ⊢
 split at q
 ·obtain ⟨ns,e,q⟩:=q;exact ⟨ns,e,k _ q⟩
 ·exact q
theorem oBls.get {K:PySem.W.Frag} {H:Hp} {g:List Bool->Bool} {as:List Vw} {vs:List V} {Q:RV->Prop} (r:VRL K H as vs) (q:oBls g as Q):∃p bs,vs=[.ref p]/\SqL K H p (bs.map V.bl)/\Q (.val (.bl (g bs))):=by
 unfold oBls at q
 split at q
 ·obtain ⟨v,rfl,r1⟩:=r.one
  obtain ⟨ns,e,q⟩:=q
  obtain ⟨p,us,rfl,hs,rv⟩:=r1.seq e
  rw [rv.of_bls] at hs
  exact ⟨p,ns,rfl,X1 hs,q⟩
 ·exact q.elim
theorem A8L {K:PySem.W.Frag}:CallA K (rAll K) (oBls λbs=> bs.all id):=
 ⟨oBls.mono,λas vs H Q0 Q r q k=> by
  obtain ⟨p,ns,rfl,hs,q⟩:=oBls.get r q
  exact ⟨p,ns,rfl,hs,k _ _ (.val q .bl)⟩⟩
def Z9:C7:=λas Q=> match as with
 | [a]=> ∃xs,a.items=some xs/\Q (.val (.tup xs))
 | _=> False
def L9:C7:=λas Q=> match as with
 | [a]=> ∃xs,a.items=some xs/\Q (.own (.seq xs))
 | _=> False
theorem A8r {K:PySem.W.Frag}:CallA K (λxs H Q=> ∃p ys,xs=[.ref p]/\(SqL K H p ys\/SqT K H p ys)/\∀l,H l=none->Q (.ref l) (upd H l (.lst ys))) L9:=
 ⟨λas Q Q' k q=> by
  unfold L9 at q ⊢
  split at q
  ·obtain ⟨xs,e,q⟩:=q;exact ⟨xs,e,k _ q⟩
  ·exact q,λas vs H Q0 Q r q k=> by
  unfold L9 at q
  split at q
  ·obtain ⟨v,rfl,r1⟩:=r.one
   obtain ⟨xs,e,q⟩:=q
   obtain ⟨p,us,rfl,hs,rv⟩:=r1.items e
   exact ⟨p,us,rfl,hs.imp_left X1,λl n=> k _ _ (.lst n q rv)⟩
  ·exact q.elim⟩
def W.tyName:W->Option String
 | .non=> some "NoneType"
 | .bl _=> some "bool"
 | .int _=> some "int"
 | .str _=> some "str"
 | .tup _=> some "tuple"
 | .lst _=> some "list"
 | _=> none
def Vw.tyName:Vw->Option String
 | .wv w=> w.tyName
 | .cv (.seq _)=> some "list"
 | _=> none
def Z1:String->String->Option Bool
 | "NoneType","bool"=> some false
 | "NoneType","int"=> some false
 | "NoneType","str"=> some false
 | "NoneType","tuple"=> some false
 | "NoneType","list"=> some false
 | "bool","bool"=> some true
 | "bool","int"=> some true
 | "bool","str"=> some false
 | "bool","tuple"=> some false
 | "bool","list"=> some false
 | "int","bool"=> some false
 | "int","int"=> some true
 | "int","str"=> some false
 | "int","tuple"=> some false
 | "int","list"=> some false
 | "str","bool"=> some false
 | "str","int"=> some false
 | "str","str"=> some true
 | "str","tuple"=> some false
 | "str","list"=> some false
 | "tuple","bool"=> some false
 | "tuple","int"=> some false
 | "tuple","str"=> some false
 | "tuple","tuple"=> some true
 | "tuple","list"=> some false
 | "list","bool"=> some false
 | "list","int"=> some false
 | "list","str"=> some false
 | "list","tuple"=> some false
 | "list","list"=> some true
 | _,_=> none
def B6:C7:=λas Q=> match as with
 | [a,.wv (.ty T)]=> ∃n b,a.tyName=some n/\Z1 n T=some b/\Q (.val (.bl b))
 | _=> False
theorem VR.tyX {K:PySem.W.Frag} {H:Hp}:∀{a:Vw} {v:V} {n:String},VR K H a v->a.tyName=some n->(∀ws,a≠ .wv (.tup ws))->TyX K H v (.type n)
 | .bad,_,_,_,e,_=> by cases e
 | .cv (.seq ws),_,_,r,e,_=> by cases e;obtain ⟨p,rfl,vs,l,_⟩:=r;exact .base (.lst l)
 | .cv (.map _),_,_,_,e,_=> by cases e
 | .wv .non,_,_,r,e,_=> by cases e;cases r.non;exact .base .non
 | .wv (.bl _),_,_,r,e,_=> by cases e;cases r.bl;exact .base (.bl _)
 | .wv (.int _),_,_,r,e,_=> by cases e;cases r.int;exact .base (.int _)
 | .wv (.str _),_,_,r,e,_=> by cases e;cases r.str;exact .base (.str _)
 | .wv (.tup ws),_,_,_,_,h=> absurd rfl (h ws)
 | .wv (.lst ws),_,_,r,e,_=> by cases e;obtain ⟨p,vs,rfl,⟨o,l⟩,_⟩:=Rep.of_lst (K:=K) (H:=H) r;exact .base (.frz l)
 | .wv (.dct _ _),_,_,_,e,_=> by cases e
 | .wv (.ref _),_,_,_,e,_=> by cases e
 | .wv (.ty _),_,_,_,e,_=> by cases e
 | .wv .emp,_,_,_,e,_=> by cases e
 | .wv (.exc _ _ _),_,_,_,e,_=> by cases e
theorem A7o {K:PySem.W.Frag} {n T:String} {b:Bool} (h:Z1 n T=some b):PySem.W.kitOne K (.type n) (.type T)=some b:=by
 unfold Z1 at h
 split at h
 all_goals first
  | (cases h;exact kit_ty (by decide+kernel))
  | cases h
theorem A8u {K:PySem.W.Frag} {H:Hp} {a:Addr} {vs:List V} (h:SqT K H a vs):TyX K H (.ref a) (.type "tuple"):=by
 rcases h with (h | ⟨o,h⟩) | ⟨o,its,n,e,c,_⟩
 ·exact .base (.tup h)
 ·exact .fTuple h
 ·exact .kTuple e c
theorem VR.ty {K:PySem.W.Frag} {H:Hp} {a:Vw} {v:V} {n:String} (r:VR K H a v) (e:a.tyName=some n):TyX K H v (.type n):=by
 by_cases h:∃ws,a= .wv (.tup ws)
 ·obtain ⟨ws,rfl⟩:=h
  cases e
  obtain ⟨p,vs,rfl,s,_⟩:=Rep.of_tup (K:=K) (H:=H) r
  exact A8u s
 ·exact r.tyX e λws z=> h ⟨ws,z⟩
theorem Q9 {K:PySem.W.Frag}:CallA K (rIsi K) B6:=
 ⟨λas Q Q' k q=> by
  unfold B6 at q ⊢
  split at q
  ·obtain ⟨n,b,e,f,q⟩:=q;exact ⟨n,b,e,f,k _ q⟩
  ·exact q,λas vs H Q0 Q r q k=> by
  unfold B6 at q
  split at q
  ·rename_i a T
   obtain ⟨v,u,rfl,r1,r2⟩:=r.two
   cases Rep.of_ty (K:=K) (H:=H) r2
   obtain ⟨n,b,e,f,q⟩:=q
   exact ⟨v,.ty T,.type n,.type T,b,rfl,ClsV.ty T,r1.ty e,A7o f,k _ _ (.val q .bl)⟩
  ·exact q.elim⟩
structure HS (G:Gx) (h:AH) (H:Hp):Prop where
 hp:∀a o,h a=some o->wam G.K H a o
 fr:∀p o,G.H0 p=some o->G.h0 p=none->NT o->H p=some o
 ext:∀a o,h a=some o->G.h0 a=none->G.H0 a=none
 tr:∀p o,G.H0 p=some o->∃u,H p=some u
 tabs:waf G.K H
theorem BS.hs {G:Gx} {env:A0} {h:AH} {σ:L2.St} {H:Hp} (S:BS G env h σ H):HS G h H:=⟨S.hp,S.fr,S.ext,S.tr,S.tabs⟩
def wat (K:PySem.W.Frag) (H:Hp) (x:AExc) (cls:Value) (d:Option Addr):Prop:=cls= .ref (He.ga K x.n)/\∃dd vs,d=some dd/\H dd=some (.xd vs)/\wai K H x.fs vs
inductive RR where
 | val (w:W) | own (c:Cont)
def A0i (G:Gx) (h:AH) (H:Hp):RR->V->Prop
 | .val w,v=> Rep G.K H w v
 | .own c,v=> ∃p,v= .ref p/\wae G.K H p c/\h p=none/\G.H0 p=none
abbrev A5:=List W->AH->(RR->AH->Prop)->(AExc->AH->Prop)->Prop
def M0 (K:PySem.W.Frag) (n:Nat) (sp:A5):Sp:=λvs H Q E=> ∃ws h Qa Ea,ws.length=n/\(∀a o,h a=some o->wam K H a o)/\waf K H/\waa K H ws vs/\sp ws h Qa Ea/\
 (∀r h' v H',Qa r h'->HS ⟨K,h,H⟩ h' H'->A0i ⟨K,h,H⟩ h' H' r v->Q v H')/\
 (∀x h' cls d H',Ea x h'->HS ⟨K,h,H⟩ h' H'->wat K H' x cls d->E cls d H')
section
variable {G:Gx} {env:A0} {h1 h2:AH} {σ:L2.St} {H1 H2:Hp}
theorem BS.after (S:BS G env h1 σ H1) (c:HS ⟨G.K,h1,H1⟩ h2 H2):BS G env h2 σ H2/\Xt env h1 σ H1 env h2 H2:=by
 have kp:Keeps H1 H2:=λp o e i=> c.fr p o e (S.imm e i).1 i.nt
 have x:Xt env h1 σ H1 env h2 H2:=by
  refine ⟨λp o e n _ t=> c.fr p o e n t,λp o e n=> c.ext p o e n,c.tr,λi d e=> ⟨d,e⟩⟩
 refine ⟨⟨S.len,λi w e=> ?_,λi a e=> ?_,S.uni,c.hp,λp o e n t=> ?_,λa o e n=> ?_,λp o e=> ?_,c.tabs⟩,x⟩
 ·obtain ⟨v,a,b⟩:=S.val i w e;exact ⟨v,a,Rep.mono kp w v b⟩
 ·obtain ⟨p,q,r,n,n0⟩:=S.own i a e
  obtain ⟨o,eo,_⟩:=r.there
  refine ⟨p,q,r.mono kp ((c.fr p o eo n (r.mu_at eo).nt).trans eo.symm),?_,n0⟩
  cases z:h2 p with
  | none=> rfl
  | some u=> have y:H1 p=none:=c.ext p u z n;rw [y] at eo;cases eo
 ·have n1:h1 p=none:=by
   cases z:h1 p with
   | none=> rfl
   | some u=> have y:=S.ext p u z n;rw [y] at e;cases e
  exact c.fr p o (S.fr p o e n t) n1 t
 ·cases z:h1 a with
  | some u=> exact S.ext a u z n
  | none=>
   have y:H1 a=none:=c.ext a o e z
   cases w:G.H0 a with
   | none=> rfl
   | some u=> obtain ⟨t,q⟩:=S.tr a u w;rw [y] at q;cases q
 ·obtain ⟨u,q⟩:=S.tr p o e;exact c.tr p u q
end
def aCall (E:AExc->A0->AH->Prop) (sp:A5) (t:B8):AT:=λenv h Q=> t env h λws env1 h1=> sp ws h1 (λr h2=> match r with
 | .val w=> Q (.val w) env1 h2
 | .own c=> Q (.own c) env1 h2) λx h2=> E x env1 h2
def D1 (sp:A5):Prop:=∀ws h Q Q' E E',(∀r k,Q r k->Q' r k)->(∀x k,E x k->E' x k)->sp ws h Q E->sp ws h Q' E'
theorem aCall.mono {E:AExc->A0->AH->Prop} {sp:A5} {t:B8} (m:D1 sp) (n:A1 t):A1 (aCall E sp t):=λenv h Q Q' k q=> n env h _ _ (λws e g z=> m _ _ _ _ _ _ (λr f y=> by
 cases r with
 | val w=> exact k _ _ _ y
 | own c=> exact k _ _ _ y) (λx f y=> y) z) q
def cW (G:Gx) (E:AExc->A0->AH->Prop):WX:=λcls d σ H=> ∃x env h,BS G env h σ H/\wat G.K H x cls d/\E x env h
theorem A7L {X:Cx} {G:Gx}:Takes X (cW G λ_ _ _=> False):=takes0.imp λ_ _ _ _ ⟨_,_,_,_,_,z⟩=> z
section
variable {X:Cx} {G:Gx} {sp:A5} {k n:Nat} {f:Addr} {fd:FuncData} {ps:List Str} {x:Str} {p pos:Pos} {e:Expr} {es:List Expr} {t:B8} {E:AExc->A0->AH->Prop}
theorem A6M {σ:L2.St} {H:Hp} {Q:VK} (m:A1 t) (sm:D1 sp) (hn:∀env h (R:List W->A0->AH->Prop),t env h R->t env h λws e g=> ws.length=n/\R ws e g) (q:cE G (aCall E sp t) σ H Q):
  tCallS (M0 G.K n sp) (WE (cW G E)) (cA G t) σ H Q:=by
 obtain ⟨env,h,S,q⟩:=q
 refine ⟨env,h,S,m env h _ _ (λws env1 h1 ⟨hl,z⟩ vs H1 S1 x1 r1=> ?_) (hn _ _ _ q)⟩
 refine ⟨ws,h1,_,_,hl,S1.hp,S1.tabs,r1,z,λr h' v H' y c rr=> ?_,λx h' cls d H' y c xr=> ?_⟩
 ·obtain ⟨S2,x2⟩:=S1.after c
  cases r with
  | val w=> exact y v H' S2 (x1.trans x2) rr trivial
  | own c0=>
   obtain ⟨p,e,cr,a,b⟩:=rr
   have nw:H1 p=none:=b
   obtain ⟨_,g0,no⟩:=S1.noAt nw
   exact y v H' S2 (x1.trans x2) ⟨p,e,cr,a,g0,no⟩ λp' e'=> by
    rw [e] at e';cases e';exact x1.fresh nw
 ·obtain ⟨S2,x2⟩:=S1.after c
  exact ⟨x,env1,h',S2,xr,y⟩
theorem A7v (F:FnOk X.prog X.w X.K X.mg X.base (Ab.CX X.prog X.w) k f fd ps (M0 G.K n sp)) (sm:D1 sp) (hr:Room k X.A) (hg:Gl X x) (hm:X.mg x=some (.ref f)) (hk:PySem.W.keepIn X.K (.ref f)=true) (hb:Binds X.K fd ps []) (tk:Takes X (cW G E))
  (ha:AA X G (e::es) t) (hn:∀env h (R:List W->A0->AH->Prop),t env h R->t env h λws e g=> ws.length=n/\R ws e g)
  (hdb:(x==("__debug__":Str))=false:=by decide) (he:starEach (e::es) X.env=(false,eval e X.env)::starEach es X.env:=by rfl) (hpl:(backTo pos (starEach es X.env)).any (·.1)=false:=by rfl):
  AE X G (.Call (.Name x p) (e::es) [] pos) (aCall E sp t):=
 ⟨aCall.mono sm ha.mono,PE.imp (pe_callS F hr hg hm hk hb (λσ=> passAt tk σ) ha.pa hdb he hpl) λ_ _ _ q=> A6M ha.mono sm hn q⟩
end
theorem A7l:∀env h (R:List W->A0->AH->Prop),aNil env h R->aNil env h λws e g=> ws.length=0/\R ws e g:=λ_ _ _ q=> ⟨rfl,q⟩
theorem A6r {t:A6} {u:B8} {n:Nat} (mt:A1 t) (hu:∀env h (R:List W->A0->AH->Prop),u env h R->u env h λws e g=> ws.length=n/\R ws e g) (mu:A1 u):
  ∀env h (R:List W->A0->AH->Prop),aCons t u env h R->aCons t u env h λws e g=> ws.length=n+1/\R ws e g:=λenv h R q=>
 mt env h _ _ (λw e g z=> mu e g _ _ (λws e2 g2 ⟨y1,y2⟩=> ⟨by rw [length_cons,y1],y2⟩) (hu e g _ z)) q
structure AEnds where
 nx:A0->AH->Prop
 rt:RV->A0->AH->Prop
 bk:A0->AH->Prop:=λ_ _=> False
 ct:A0->AH->Prop:=λ_ _=> False
structure AEnds.Le (D D':AEnds):Prop where
 nx:∀e h,D.nx e h->D'.nx e h
 rt:∀r e h,D.rt r e h->D'.rt r e h
 bk:∀e h,D.bk e h->D'.bk e h
 ct:∀e h,D.ct e h->D'.ct e h
theorem AEnds.Le.refl (D:AEnds):D.Le D:=⟨λ_ _ q=> q,λ_ _ _ q=> q,λ_ _ q=> q,λ_ _ q=> q⟩
abbrev B9:=AEnds->A0->AH->Prop
def P0 (t:B9):Prop:=∀D D' env h,D.Le D'->t D env h->t D' env h
structure Link (G:Gx) (H0:Hp) (Da:AEnds) (D:Ends):Prop where
 nx:∀env h σ H,BS G env h σ H->Keeps H0 H->Da.nx env h->D.nx σ H
 rt:∀r env h σ H v,BS G env h σ H->Keeps H0 H->wad G env h σ H r v->Da.rt r env h->D.rt v H
 bk:∀env h σ H,BS G env h σ H->Keeps H0 H->Da.bk env h->D.bk σ H
 ct:∀env h σ H,BS G env h σ H->Keeps H0 H->Da.ct env h->D.ct σ H
theorem Link.from {G:Gx} {H H1:Hp} {Da:AEnds} {D:Ends} (l:Link G H Da D) (k:Keeps H H1):Link G H1 Da D:=
 ⟨λe h σ H' S q=> l.nx e h σ H' S (k.trans q),λr e h σ H' v S q=> l.rt r e h σ H' v S (k.trans q),λe h σ H' S q=> l.bk e h σ H' S (k.trans q),λe h σ H' S q=> l.ct e h σ H' S (k.trans q)⟩
def cS (G:Gx) (t:B9):TS:=λD σ H=> ∃env h Da,BS G env h σ H/\t Da env h/\Link G H Da D
structure AS (X:Cx) (G:Gx) (st:Stmt) (t:B9):Prop where
 mono:P0 t
 ps:PS X st (cS G t)
structure ASs (X:Cx) (G:Gx) (st:List Stmt) (t:B9):Prop where
 mono:P0 t
 ps:PSs X st (cS G t)
def O9:B9:=λD env h=> D.nx env h
def aSeq (t u:B9):B9:=λD env h=> t { D with nx:=u D } env h
theorem aSeq.mono {t u:B9} (m:P0 t) (n:P0 u):P0 (aSeq t u):=λD D' env h l q=> m { D with nx:=u D } { D' with nx:=u D' } env h ⟨λe g z=> n D D' e g l z,l.rt,l.bk,l.ct⟩ q
section
variable {X:Cx} {G:Gx} {st:Stmt} {rest:List Stmt} {t u:B9} {e:Expr} {te:AT} {tv:A6} {pos:Pos}
theorem W5:ASs X G [] O9:=⟨λD D' env h l q=> l.nx _ _ q,PSs.imp pss_nil λD σ H ⟨env,h,Da,S,q,l⟩=> l.nx _ _ _ _ S (.refl _) q⟩
theorem E2 (a:AS X G st t) (b:ASs X G rest u):ASs X G (st::rest) (aSeq t u):=
 ⟨aSeq.mono a.mono b.mono,PSs.imp (pss_cons a.ps b.ps) λD σ H ⟨env,h,Da,S,q,l⟩=> ⟨env,h,{ Da with nx:=u Da },S,q,⟨λe g σ' H' S' y z=> ⟨e,g,Da,S',z,l.from y⟩,l.rt,l.bk,l.ct⟩⟩⟩
theorem I6 (a:AS X G st t):ASs X G [st] t:=⟨a.mono,pss_one a.ps⟩
def L0 (t:AT):B9:=λD env h=> t env h D.rt
theorem M4 (a:AE X G e te):AS X G (.Return (some e) pos) (L0 te):=
 ⟨λD D' env h l q=> a.mono env h _ _ l.rt q,PS.imp (ps_ret a.pe) λD σ H ⟨env,h,Da,S,q,l⟩=> ⟨env,h,S,a.mono env h _ _ (λr e g z v H1 S1 x1 r1 _=> l.rt _ _ _ _ _ _ S1 (x1.keeps S) r1 z) q⟩⟩
def O5 (c:C2) (t u:B9):B9:=λD env h=> c env h λb env1 h1=> if b=true then t D env1 h1 else u D env1 h1
theorem R1 {c:Expr} {a b:List Stmt} {tc:C2} (hc:AP X G c tc) (ha:ASs X G a t) (hb:ASs X G b u):AS X G (.If c a b pos) (O5 tc t u):=by
 refine ⟨λD D' env h l q=> hc.mono env h _ _ (λd e g z=> ?_) q,PS.imp (ps_if hc.pt ha.ps hb.ps) λD σ H ⟨env,h,Da,S,q,l⟩=> ⟨env,h,S,hc.mono env h _ _ (λd e g z H1 S1 x1=> ?_) q⟩⟩
 ·cases d with
  | true=> rw [if_pos rfl] at z ⊢;exact ha.mono _ _ _ _ l z
  | false=> rw [if_neg Bool.false_ne_true] at z ⊢;exact hb.mono _ _ _ _ l z
 ·cases d with
  | true=> rw [if_pos rfl] at z ⊢;exact ⟨e,g,Da,S1,z,l.from (x1.keeps S)⟩
  | false=> rw [if_neg Bool.false_ne_true] at z ⊢;exact ⟨e,g,Da,S1,z,l.from (x1.keeps S)⟩
def aNs (t:AT):AT:=λenv h Q=> t env h λr env' h'=> match r with
 | .slot i=> match env'[i]? with
  | some (some (.val w))=> Q (.val w) env' h'
  | some (some (.own c))=> Q (.val c.fz) (env'.set i (some (.val c.fz))) h'
  | _=> False
 | r=> Q r env' h'
def d8:RV->Prop
 | .slot _=> False
 | _=> True
theorem aNs.mono (m:A1 te):A1 (aNs te):=λenv h Q Q' k q=> by
 refine m env h _ _ (λr e g z=> ?_) q
 cases r with
 | val w=> exact k _ _ _ z
 | own c=> exact k _ _ _ z
 | slot i=>
  show match e[i]? with
   | some (some (.val w))=> Q' (.val w) e g
   | some (some (.own c))=> Q' (.val c.fz) (e.set i (some (.val c.fz))) g
   | _=> False
  have z:match e[i]? with
   | some (some (.val w))=> Q (.val w) e g
   | some (some (.own c))=> Q (.val c.fz) (e.set i (some (.val c.fz))) g
   | _=> False:=z
  split at z
  ·exact k _ _ _ z
  ·exact k _ _ _ z
  ·exact z
def cN (G:Gx) (t:AT):TE:=λσ H Q=> ∃env h,BS G env h σ H/\t env h λr env' h'=> ∀v H',BS G env' h' σ H'->Xt env h σ H env' h' H'->wad G env' h' σ H' r v->I9 H r v->d8 r->Q v H'
theorem A9J (a:AE X G e te):PE X e (cN G (aNs te)):=by
 refine ⟨λpins s σ H Q I ⟨env,h,S,q⟩=> ?_⟩
 refine thn (a.pe.run pins s σ H (λv H1=> ∃r env' h',BS G env' h' σ H1/\Xt env h σ H env' h' H1/\wad G env' h' σ H1 r v/\I9 H r v/\match r with
  | .slot i=> match env'[i]? with
   | some (some (.val w))=> ∀v H',BS G env' h' σ H'->Xt env h σ H env' h' H'->wad G env' h' σ H' (.val w) v->I9 H (.val w) v->d8 (.val w)->Q v H'
   | some (some (.own c))=> ∀v H',BS G (env'.set i (some (.val c.fz))) h' σ H'->Xt env h σ H (env'.set i (some (.val c.fz))) h' H'->wad G (env'.set i (some (.val c.fz))) h' σ H' (.val c.fz) v->I9 H (.val c.fz) v->d8 (.val c.fz)->Q v H'
   | _=> False
  | r=> ∀v H',BS G env' h' σ H'->Xt env h σ H env' h' H'->wad G env' h' σ H' r v->I9 H r v->d8 r->Q v H') I ⟨env,h,S,a.mono env h _ _ (λr env' h' z v H1 S1 x1 r1 f1=> ⟨r,env',h',S1,x1,r1,f1,z⟩) q⟩) λv s1 ⟨x,H1,I1,r1,r,env',h',S1,x1,rr,f1,z⟩=> ?_
 cases r with
 | val w=> exact ⟨x,H1,I1,r1,z x H1 S1 x1 rr f1 trivial⟩
 | own c=> exact ⟨x,H1,I1,r1,z x H1 S1 x1 rr f1 trivial⟩
 | slot i=>
  have es:σ[i]? =some (some x):=rr
  have z:match env'[i]? with
   | some (some (.val w))=> ∀v H',BS G env' h' σ H'->Xt env h σ H env' h' H'->wad G env' h' σ H' (.val w) v->I9 H (.val w) v->d8 (.val w)->Q v H'
   | some (some (.own c))=> ∀v H',BS G (env'.set i (some (.val c.fz))) h' σ H'->Xt env h σ H (env'.set i (some (.val c.fz))) h' H'->wad G (env'.set i (some (.val c.fz))) h' σ H' (.val c.fz) v->I9 H (.val c.fz) v->d8 (.val c.fz)->Q v H'
   | _=> False:=z
  split at z
  ·rename_i w e
   obtain ⟨u,e3,r⟩:=S1.val i w e
   rw [es] at e3;cases e3
   exact ⟨x,H1,I1,r1,z x H1 S1 x1 r trivial trivial⟩
  ·rename_i c e
   obtain ⟨p,H2,ep,I2,S2,x2,r2⟩:=A2t S1 x1 I1 e
   rw [es] at ep;cases ep
   exact ⟨_,H2,I2,r1,z _ H2 S2 x2 r2 trivial trivial⟩
  ·exact z.elim
def RV.sv:RV->SV
 | .val w=> .val w
 | .own c=> .own c
 | .slot _=> .val .non
theorem BS.set {env:A0} {h:AH} {σ:L2.St} {H:Hp} (S:BS G env h σ H) {r:RV} {v:V} (i:Nat) (rr:wad G env h σ H r v) (ns:d8 r):BS G (env.set i (some r.sv)) h (σ.set i (some v)) H:=by
 have at_:∀(j:Nat) (sv:SV),(env.set i (some r.sv))[j]? =some (some sv)->(j=i/\sv=r.sv/\(σ.set i (some v))[j]? =some (some v))\/(j≠i/\env[j]? =some (some sv)/\(σ.set i (some v))[j]? =σ[j]?):=λj sv e=> by
  by_cases hj:j=i
  ·subst hj
   have hl:j < env.length:=by
    cases Nat.lt_or_ge j env.length with
    | inl z=> exact z
    | inr z=> rw [getElem?_eq_none (by rw [length_set];exact z)] at e;cases e
   rw [getElem?_set_self hl] at e
   exact .inl ⟨rfl,by injection e with e;injection e with e;exact e.symm,getElem?_set_self (by rw [<-S.len];exact hl)⟩
  ·rw [getElem?_set_ne (Ne.symm hj)] at e
   exact .inr ⟨hj,e,getElem?_set_ne (Ne.symm hj)⟩
 refine ⟨by rw [length_set,length_set];exact S.len,λj w e=> ?_,λj c e=> ?_,λj k c c' p e1 e2 f1 f2=> ?_,S.hp,S.fr,S.ext,S.tr,S.tabs⟩
 ·rcases at_ j _ e with ⟨rfl,z,y⟩ | ⟨_,z,y⟩
  ·cases r with
   | val w'=> cases z;exact ⟨v,y,rr⟩
   | own c=> cases z
   | slot _=> exact ns.elim
  ·obtain ⟨u,a,b⟩:=S.val j w z;exact ⟨u,y.trans a,b⟩
 ·rcases at_ j _ e with ⟨rfl,z,y⟩ | ⟨_,z,y⟩
  ·cases r with
   | val w'=> cases z
   | own c'=> cases z;obtain ⟨p,rfl,a,b,d,_⟩:=rr;exact ⟨p,y,a,b,d⟩
   | slot _=> exact ns.elim
  ·obtain ⟨p,a,b⟩:=S.own j c z;exact ⟨p,y.trans a,b⟩
 ·have other:∀(m:Nat) (d:Cont),env[m]? =some (some (SV.own d))->σ[m]? =some (some (V.ref p))->r.sv= .own c\/r.sv= .own c'->v= .ref p->False:=λm d a b z y=> by
   cases r with
   | val w=> rcases z with z | z <;> cases z
   | slot _=> exact ns
   | own c0=> obtain ⟨q,e,_,_,_,no⟩:=rr;rw [e] at y;cases y;exact no ⟨m,d,a,b⟩
  rcases at_ j _ e1 with ⟨j1,z1,y1⟩ | ⟨j1,z1,y1⟩
  ·rcases at_ k _ e2 with ⟨k1,z2,y2⟩ | ⟨k1,z2,y2⟩
   ·rw [j1,k1]
   ·rw [y1] at f1;injection f1 with f1;injection f1 with f1
    rw [y2] at f2
    exact (other k c' z2 f2 (.inl z1.symm) f1).elim
  ·rcases at_ k _ e2 with ⟨k1,z2,y2⟩ | ⟨k1,z2,y2⟩
   ·rw [y2] at f2;injection f2 with f2;injection f2 with f2
    rw [y1] at f1
    exact (other j c z1 f1 (.inr z2.symm) f2).elim
   ·rw [y1] at f1;rw [y2] at f2
    exact S.uni j k c c' p z1 z2 f1 f2
def A2M (i:Nat) (t:AT):B9:=λD env h=> aNs t env h λr env1 h1=> D.nx (env1.set i (some r.sv)) h1
theorem A87 {i:Nat} {x:Str} {pos':Pos} (hN:X.N.Nodup) (hi:X.N[i]? =some x) (hx:Loc X.env.scope x) (a:AE X G e te) (hs:swapsWith e (some (.Name x pos')) pos.line X.env=pure false:=by rfl) (hf:X.fn x=true\/X.env.scope.names.lookup x=some .local:=by first | exact .inl rfl | exact .inr rfl | assumption):
  AS X G (.Assign [.Name x pos'] e pos) (A2M i te):=by
 refine ⟨λD D' env h l q=> aNs.mono a.mono env h _ _ (λ_ e g z=> l.nx _ _ z) q,PS.imp (ps_set hN hi hx (A9J a) hs hf) λD σ H ⟨env,h,Da,S,q,l⟩=> ?_⟩
 exact ⟨env,h,S,aNs.mono a.mono env h _ _ (λr e g z v H1 S1 x1 r1 _ ns=> l.nx _ _ _ _ (S1.set i r1 ns) (x1.keeps S) z) q⟩
end
abbrev C5:=W->A0->AH->(A0->AH->Prop)->Prop
abbrev A2Q:=List W->A0->AH->(A0->AH->Prop)->Prop
def R5 {α:Type} (g:α->A0->AH->(A0->AH->Prop)->Prop):Prop:=∀w env h Q Q',(∀e k,Q e k->Q' e k)->g w env h Q->g w env h Q'
def But (sl:List Nat) (σ σ':L2.St):Prop:=σ'.length=σ.length/\∀i:Nat,i∉sl->σ'[i]? =σ[i]?
theorem But.refl {sl:List Nat} (σ:L2.St):But sl σ σ:=⟨rfl,λ_ _=> rfl⟩
theorem But.trans {sl sl':List Nat} {σ σ1 σ2:L2.St} (a:But sl σ σ1) (b:But sl' σ1 σ2):But (sl++sl') σ σ2:=
 ⟨b.1.trans a.1,λi hi=> (b.2 i λz=> hi (List.mem_append_right _ z)).trans (a.2 i λz=> hi (List.mem_append_left _ z))⟩
structure Xg (sl:List Nat) (env:A0) (h:AH) (σ:L2.St) (H:Hp) (env':A0) (h':AH) (σ':L2.St) (H':Hp):Prop where
 fr:∀p o,H p=some o->h p=none->¬wac env σ p->NT o->H' p=some o
 hn:∀p o,h' p=some o->h p=none->H p=none
 th:∀p o,H p=some o->∃o',H' p=some o'
 ow:∀p,wac env' σ' p->wac env σ p
 so:∀(i:Nat) (c':Cont),env'[i]? =some (some (SV.own c'))->∃c,env[i]? =some (some (SV.own c))
 bt:But sl σ σ'
theorem Xg.keeps {sl:List Nat} {G:Gx} {env env':A0} {h h':AH} {σ σ':L2.St} {H H':Hp} (x:Xg sl env h σ H env' h' σ' H') (S:BS G env h σ H):Keeps H H':=λp o e i=> x.fr p o e (S.imm e i).1 (S.imm e i).2 i.nt
theorem Xg.refl {sl:List Nat} {env:A0} {h:AH} {σ:L2.St} {H:Hp}:Xg sl env h σ H env h σ H:=⟨λ_ _ e _ _ _=> e,λp o e n=> (by rw [n] at e;cases e),λ_ o e=> ⟨o,e⟩,λ_ q=> q,λi c e=> ⟨c,e⟩,.refl σ⟩
theorem Xg.trans {sl sl':List Nat} {env env1 env2:A0} {h h1 h2:AH} {σ σ1 σ2:L2.St} {H H1 H2:Hp} (a:Xg sl env h σ H env1 h1 σ1 H1) (b:Xg sl' env1 h1 σ1 H1 env2 h2 σ2 H2):Xg (sl++sl') env h σ H env2 h2 σ2 H2:=by
 refine ⟨λp o e n w t=> ?_,λp o e n=> ?_,λp o e=> ?_,λp q=> a.ow p (b.ow p q),λi c e=> ?_,a.bt.trans b.bt⟩
 ·refine b.fr p o (a.fr p o e n w t) ?_ (λq=> w (a.ow p q)) t
  cases q:h1 p with
  | none=> rfl
  | some u=> rw [a.hn p u q n] at e;cases e
 ·cases q:h1 p with
  | some u=> exact a.hn p u q n
  | none=>
   have z:=b.hn p o e q
   cases q2:H p with
   | none=> rfl
   | some u=> obtain ⟨o',e'⟩:=a.th p u q2;rw [z] at e';cases e'
 ·obtain ⟨o',e'⟩:=a.th p o e;exact b.th p o' e'
 ·obtain ⟨c1,z⟩:=b.so i c e
  exact a.so i c1 z
theorem Xt.xg {env env':A0} {h h':AH} {σ:L2.St} {H H':Hp} (x:Xt env h σ H env' h' H'):Xg [] env h σ H env' h' σ H':=
 ⟨x.fr,x.hn,x.th,λ_ q=> x.own q,x.sl,.refl σ⟩
def cG (G:Gx) (sl:List Nat) (g:C5):TG:=λv σ H Q=> ∃w env h,Rep G.K H w v/\BS G env h σ H/\g w env h λenv' h'=> ∀σ' H',BS G env' h' σ' H'->Xg sl env h σ H env' h' σ' H'->Q σ' H'
def cGs (G:Gx) (sl:List Nat) (g:A2Q):TGs:=λvs σ H Q=> ∃ws env h,waa G.K H ws vs/\BS G env h σ H/\g ws env h λenv' h'=> ∀σ' H',BS G env' h' σ' H'->Xg sl env h σ H env' h' σ' H'->Q σ' H'
structure AG (X:Cx) (G:Gx) (tg:Expr) (sl:List Nat) (g:C5):Prop where
 mono:R5 g
 pg:PG X tg (cG G sl g)
structure AGs (X:Cx) (G:Gx) (tg:List Expr) (sl:List Nat) (g:A2Q):Prop where
 mono:R5 g
 pg:PGs X tg (cGs G sl g)
theorem PG.imp {X:Cx} {e:Expr} {t t':TG} (h:PG X e t) (i:∀v σ H Q,t' v σ H Q->t v σ H Q):PG X e t':=⟨λpins s σ H v u Q I r q=> h.run pins s σ H v u Q I r (i _ _ _ _ q)⟩
theorem PGs.imp {X:Cx} {e:List Expr} {t t':TGs} (h:PGs X e t) (i:∀v σ H Q,t' v σ H Q->t v σ H Q):PGs X e t':=⟨λpins s σ H v u Q I r q=> h.run pins s σ H v u Q I r (i _ _ _ _ q)⟩
section
variable {X:Cx} {G:Gx} {pos:Pos} {x:Str}
def H7 (i:Nat):C5:=λw env h Q=> Q (env.set i (some (.val w))) h
theorem A7Q {i:Nat} (hN:X.N.Nodup) (hi:X.N[i]? =some x) (hx:Loc X.env.scope x) (hf:X.fn x=true\/X.env.scope.names.lookup x=some .local:=by first | exact .inl rfl | exact .inr rfl | assumption):AG X G (.Name x pos) [i] (H7 i):=by
 refine ⟨λw env h Q Q' k q=> k _ _ q,PG.imp (pg_name hN hi hx hf) λv σ H Q ⟨w,env,h,r,S,q⟩=> ?_⟩
 have ne:∀{j:Nat},j∉[i]->i≠j:=λhj z=> hj (by simp [z])
 refine q _ H (S.set (r:= .val w) i r trivial) ⟨λ_ _ e _ _ _=> e,λp o e n=> (by rw [n] at e;cases e),λ_ o e=> ⟨o,e⟩,λp ⟨j,c,e1,e2⟩=> ?_,λj c e1=> ?_,length_set,λj hj=> getElem?_set_ne (ne hj)⟩
 ·by_cases hj:i=j
  ·subst hj
   have hl:i < env.length:=by
    have:=(List.getElem?_eq_some_iff.mp e1).1
    rwa [length_set] at this
   rw [getElem?_set_self hl] at e1
   cases e1
  ·rw [getElem?_set_ne hj] at e1 e2
   exact ⟨j,c,e1,e2⟩
 ·by_cases hj:i=j
  ·subst hj
   have hl:i < env.length:=by
    have:=(List.getElem?_eq_some_iff.mp e1).1
    rwa [length_set] at this
   rw [getElem?_set_self hl] at e1
   cases e1
  ·rw [getElem?_set_ne hj] at e1
   exact ⟨c,e1⟩
end
abbrev I5:=A0->AH->(List W->A0->AH->Prop)->Prop
def A0h (K:PySem.W.Frag) (J:It) (H1:Hp) (ws:List W):Prop:=∀H,Keeps H1 H->∀i:Nat,(ws.length<=i->J.stop i H)/\∀w,ws[i]? =some w->J.go i H/\∀x H',J.yld i H x H'->New H H'/\Rep K H' w x
def cI (G:Gx) (t:I5):TI:=λσ H R=> ∃env h,BS G env h σ H/\t env h λws env' h'=> ∀J H',BS G env' h' σ H'->Xt env h σ H env' h' H'->A0h G.K J H' ws->R J H'
structure AI (X:Cx) (G:Gx) (tg iter:Expr) (t:I5):Prop where
 mono:A1 t
 pi:PI X tg iter (cI G t)
theorem PI.imp {X:Cx} {tg e:Expr} {t t':TI} (h:PI X tg e t) (i:∀σ H R,t' σ H R->t σ H R):PI X tg e t':=⟨λpins s σ H R I q=> h.run pins s σ H R I (i _ _ _ q)⟩
section
variable {X:Cx} {G:Gx} {tg e:Expr} {pos:Pos} {x:Str}
def iLst (t:A6):I5:=λenv h Q=> t env h λw env' h'=> match w with
 | .lst ws=> Q ws env' h'
 | _=> False
def iTpl (t:A6):I5:=λenv h Q=> t env h λw env' h'=> match w with
 | .tup ws=> Q ws env' h'
 | _=> False
theorem iLst.mono {t:A6} (m:A1 t):A1 (iLst t):=λenv h Q Q' k q=> m env h _ _ (λw e g z=> by
 cases w <;> first | exact k _ _ _ z | exact z) q
theorem iTpl.mono {t:A6} (m:A1 t):A1 (iTpl t):=λenv h Q Q' k q=> m env h _ _ (λw e g z=> by
 cases w <;> first | exact k _ _ _ z | exact z) q
theorem A6D {K:PySem.W.Frag} {H:Hp} {a:Addr} {ws:List W} {vs:List V} (l:LsF H a vs) (r:waa K H ws vs):A0h K (Itl K a) H ws:=λH' k i=> by
 have l':=(k.lsF l).sq (K:=K)
 have r':=waa.mono k _ _ r
 refine ⟨λh=> ⟨vs,l',by rw [<-r'.length];exact h⟩,λw e=> ?_⟩
 obtain ⟨v,ev,rv⟩:=r'.get e
 exact ⟨⟨vs,v,l',ev⟩,λx H2 ⟨e1,q⟩=> by
  subst e1
  have z:=q vs l'
  rw [ev] at z;cases z
  exact ⟨.refl _,rv⟩⟩
theorem A6V {K:PySem.W.Frag} {H:Hp} {a:Addr} {ws:List W} {vs:List V} (l:SqT K H a vs) (r:waa K H ws vs):A0h K (Itt K a) H ws:=λH' k i=> by
 have l':=k.sqT l
 have r':=waa.mono k _ _ r
 refine ⟨λh=> ⟨vs,l',by rw [<-r'.length];exact h⟩,λw e=> ?_⟩
 obtain ⟨v,ev,rv⟩:=r'.get e
 exact ⟨⟨vs,v,l',ev⟩,λx H2 ⟨e1,q⟩=> by
  subst e1
  have z:=q vs l'
  rw [ev] at z;cases z
  exact ⟨.refl _,rv⟩⟩
theorem PI.or {t u:TI} (a:PI X tg e t) (b:PI X tg e u):PI X tg e (λσ H R=> t σ H R\/u σ H R):=⟨λpins s σ H R I q=> q.elim (λz=> a.run pins s σ H R I z) λz=> b.run pins s σ H R I z⟩
def I8 (lo:Int) (n:Nat):List W:=(List.range n).map λ(i:Nat)=> W.int (lo+i)
theorem A5y {K:PySem.W.Frag} {H:Hp} {lo:Int} {n:Nat}:A0h K (Itr lo n) H (I8 lo n):=λH' k i=> by
 have hl:(I8 lo n).length=n:=by simp [I8]
 refine ⟨λh=> (show n<=i by omega),λw e=> ?_⟩
 unfold I8 at e
 rw [getElem?_map] at e
 cases q:(List.range n)[i]? with
 | none=> rw [q] at e;cases e
 | some j=>
  rw [q] at e
  obtain ⟨hi,ej⟩:=List.getElem?_eq_some_iff.mp q
  rw [List.getElem_range] at ej
  subst ej
  cases e
  rw [List.length_range] at hi
  exact ⟨hi,λx H2 ⟨e1,e2⟩=> by subst e1;subst e2;exact ⟨.refl _,.int⟩⟩
def w5 (t:J0):I5:=λenv h Q=> t env h λrs env' h'=> match rs.map (view env' h') with
 | [.wv (.int j)]=> -(2 ^ 62)<=j/\j < 2 ^ 62/\Q (I8 0 j.toNat) env' h'
 | _=> False
theorem A1G {a:Expr} {ta:J0} {p:Pos} (hg:Gl X "range") (hm:X.mg "range"=none) (ha:AR X G [a] ta) (hs:starEach [a] X.env=[(false,eval a X.env)]:=by rfl):AI X G tg (.Call (.Name "range" p) [a] [] pos) (w5 ta):=by
 refine ⟨λenv h Q Q' k q=> ha.mono env h _ _ (λrs e g z=> ?_) q,PI.imp (pi_range1 hg hm ha.pa hs) λσ H R ⟨env,h,S,q⟩=> ?_⟩
 ·split at z
  ·exact ⟨z.1,z.2.1,k _ _ _ z.2.2⟩
  ·exact z
 ·refine ⟨env,h,S,ha.mono env h _ _ (λrs env1 h1 z vs H1 S1 x1 r1=> ?_) q⟩
  have rr:=r1.vrl S1
  split at z
  ·rename_i j e
   rw [e] at rr
   obtain ⟨v,rfl,rv⟩:=rr.one
   cases rv.int
   exact ⟨j,rfl,z.1,z.2.1,z.2.2 _ H1 S1 x1 A5y⟩
  ·exact z.elim
end
def aLoop (g:C5) (tb:B9) (D:AEnds):List W->A0->AH->Prop
 | []=> D.nx
 | w::ws=> λenv h=> g w env h λenv1 h1=> tb { D with nx:=aLoop g tb D ws,ct:=aLoop g tb D ws,bk:=D.nx } env1 h1
def A2P (ti:I5) (g:C5) (tb:B9):B9:=λD env h=> ti env h λws env1 h1=> aLoop g tb D ws env1 h1
theorem aLoop.mono {g:C5} {tb:B9} (mg:R5 g) (mt:P0 tb) {D D':AEnds} (l:D.Le D'):∀(ws:List W) env h,aLoop g tb D ws env h->aLoop g tb D' ws env h
 | [],env,h,q=> l.nx _ _ q
 | w::ws,env,h,q=> mg w env h _ _ (λe k z=> mt { D with nx:=aLoop g tb D ws,ct:=aLoop g tb D ws,bk:=D.nx } { D' with nx:=aLoop g tb D' ws,ct:=aLoop g tb D' ws,bk:=D'.nx } e k ⟨aLoop.mono mg mt l ws,l.rt,l.nx,aLoop.mono mg mt l ws⟩ z) q
section
variable {X:Cx} {G:Gx} {tg iter:Expr} {body:List Stmt} {pos:Pos}
theorem A8v {ti:I5} {g:C5} {tb:B9} {sl:List Nat} (hp:PassesOwn (model X.prog X.w) X.A X.env X.xe) (hc:X.calm=true) (hi:AI X G tg iter ti) (hg:AG X G tg sl g) (hb:ASs X G body tb)
  (hs:∀x,foldedSetIterable iter X.env x=pure x:=by intro _;rfl):AS X G (.For tg iter body [] pos) (A2P ti g tb):=by
 refine ⟨λD D' env h l q=> hi.mono env h _ _ (λws e k z=> aLoop.mono hg.mono hb.mono l ws e k z) q,PS.imp (ps_for hp hc hi.pi hg.pg hb.ps hs) λD σ H ⟨env,h,Da,S,q,l⟩=> ?_⟩
 refine ⟨env,h,S,hi.mono env h _ _ (λws env1 h1 z J H1 S1 x1 gv=> ?_) q⟩
 have kp:=x1.keeps S
 refine ⟨λi m σ' H'=> ws.length<=i+m/\Keeps H1 H'/\∃e k,BS G e k σ' H'/\aLoop g tb Da (ws.drop i) e k,⟨ws.length,by omega,.refl H1,env1,h1,S1,by simpa using z⟩,?_⟩
 rintro i m σ2 H2 ⟨hm,k2,e2,g2,S2,z2⟩
 have gi:=gv H2 k2 i
 cases e:ws[i]? with
 | none=>
  have hl:=List.getElem?_eq_none_iff.mp e
  rw [List.drop_eq_nil_of_le hl] at z2
  exact .inl ⟨gi.1 hl,l.nx _ _ _ _ S2 (kp.trans k2) z2⟩
 | some w=>
  obtain ⟨hl,ew⟩:=List.getElem?_eq_some_iff.mp e
  have ed:ws.drop i=w::ws.drop (i+1):=by rw [List.drop_eq_getElem_cons hl,ew]
  rw [ed] at z2
  obtain ⟨go,yl⟩:=gi.2 w e
  refine .inr ⟨go,λσ' H'=> Keeps H1 H'/\∃e k,BS G e k σ' H'/\aLoop g tb Da (ws.drop (i+1)) e k,λσ' H' n=> ⟨m - 1,by omega,by omega,n.1,n.2⟩,λx H3 y=> ?_⟩
  obtain ⟨nw,rx⟩:=yl x H3 y
  have k3:=k2.trans nw.keeps
  refine ⟨w,e2,g2,rx,nw.bs S2,hg.mono w e2 g2 _ _ (λe4 g4 z4 σ4 H4 S4 x4=> ?_) z2⟩
  have k4:=x4.keeps (nw.bs S2)
  refine ⟨e4,g4,_,S4,z4,⟨λe k σ H S' kk y=> ⟨(k3.trans k4).trans kk,e,k,S',y⟩,λr e k σ H v S' kk=> l.rt r e k σ H v S' (kp.trans ((k3.trans k4).trans kk)),λe k σ H S' kk=> l.nx e k σ H S' (kp.trans ((k3.trans k4).trans kk)),λe k σ H S' kk y=> ⟨(k3.trans k4).trans kk,e,k,S',y⟩⟩⟩
end
def I7 (env:A0):List Nat->A0
 | []=> env
 | v::vs=> (I7 env vs).set v none
def A9k:Option (Option SV)->Option SV
 | some (some (.val w))=> some (.val w)
 | _=> none
def mend (env e2:A0):List Nat->A0
 | []=> e2
 | v::vs=> (mend env e2 vs).set v (A9k env[v]?)
theorem A3B (env:A0):∀vs,(I7 env vs).length=env.length
 | []=> rfl
 | v::vs=> by rw [I7,length_set,A3B env vs]
theorem A3P (env e2:A0):∀vs,(mend env e2 vs).length=e2.length
 | []=> rfl
 | v::vs=> by rw [mend,length_set,A3P env e2 vs]
theorem c4 {env:A0} {i:Nat} {x:SV}:∀{vs:List Nat},(I7 env vs)[i]? =some (some x)->env[i]? =some (some x)/\i∉vs
 | [],h=> ⟨h,by simp⟩
 | v::vs,h=> by
  rw [I7] at h
  by_cases hi:v=i
  ·subst hi
   by_cases hl:v < (I7 env vs).length
   ·rw [getElem?_set_self hl] at h;cases h
   ·rw [getElem?_eq_none (by rw [length_set];omega)] at h;cases h
  ·rw [getElem?_set_ne hi] at h
   obtain ⟨a,b⟩:=c4 h
   exact ⟨a,by simp only [List.mem_cons,not_or];exact ⟨λz=> hi z.symm,b⟩⟩
theorem c7 {env e2:A0} {i:Nat}:∀{vs:List Nat},i∉vs->(mend env e2 vs)[i]? =e2[i]?
 | [],_=> rfl
 | v::vs,h=> by
  rw [mend,getElem?_set_ne (λz=> h (by simp [z])),c7 λz=> h (mem_cons_of_mem _ z)]
theorem d3 {env e2:A0} {i:Nat} {x:SV}:∀{vs:List Nat},i∈vs->(mend env e2 vs)[i]? =some (some x)->∃w,x= .val w/\env[i]? =some (some (.val w))
 | v::vs,hi,h=> by
  rw [mend] at h
  by_cases e:v=i
  ·subst e
   by_cases hl:v < (mend env e2 vs).length
   ·rw [getElem?_set_self hl] at h
    cases q:env[v]? with
    | none=> rw [q] at h;cases h
    | some o=>
     cases o with
     | none=> rw [q] at h;cases h
     | some sv=>
      cases sv with
      | val w=> rw [q] at h;cases h;exact ⟨w,rfl,rfl⟩
      | own c=> rw [q] at h;cases h
   ·rw [getElem?_eq_none (by rw [length_set];omega)] at h;cases h
  ·rw [getElem?_set_ne e] at h
   rcases List.mem_cons.mp hi with z | z
   ·exact absurd z.symm e
   ·exact d3 z h
theorem p8 (σ:L2.St) (vs:List Nat):(wipe σ vs).length=σ.length:=wipe_length σ vs
theorem Y1 {σ:L2.St} {i:Nat}:∀{vs:List Nat},i∉vs->(wipe σ vs)[i]? =σ[i]?
 | [],_=> rfl
 | v::vs,h=> by
  rw [wipe,getElem?_set_ne (λz=> h (by simp [z])),Y1 λz=> h (mem_cons_of_mem _ z)]
theorem A1Y {σ:L2.St} {i:Nat}:∀{vs:List Nat},i∈vs->(wipe σ vs)[i]? =if i < σ.length then some none else none
 | v::vs,h=> by
  rw [wipe]
  by_cases e:v=i
  ·subst e
   by_cases hl:v < σ.length
   ·rw [if_pos hl,getElem?_set_self (by rw [p8];exact hl)]
   ·rw [if_neg hl,getElem?_eq_none (by rw [length_set,p8];omega)]
  ·rw [getElem?_set_ne e]
   rcases List.mem_cons.mp h with z | z
   ·exact absurd z.symm e
   ·exact A1Y z
theorem A6h {σ σ2:L2.St} {vs sl:List Nat} (b:But sl (wipe σ vs) σ2) (h:∀i∈sl,i∈vs):wipe σ2 vs=wipe σ vs:=by
 have hl:σ2.length=σ.length:=b.1.trans (p8 _ _)
 apply List.ext_getElem?
 intro i
 by_cases hi:i∈vs
 ·rw [A1Y hi,A1Y hi,hl]
 ·rw [Y1 hi,b.2 i λz=> hi (h i z)]
section
variable {G:Gx} {env e2:A0} {h h2:AH} {σ σ2:L2.St} {H H2:Hp} {vs sl:List Nat}
theorem wac.wiped {p:Addr} (o:wac (I7 env vs) (wipe σ vs) p):wac env σ p:=by
 obtain ⟨i,c,a,b⟩:=o
 obtain ⟨a1,hi⟩:=c4 a
 rw [Y1 hi] at b
 exact ⟨i,c,a1,b⟩
theorem BS.wipe (S:BS G env h σ H):BS G (I7 env vs) h (L2.wipe σ vs) H:=by
 refine ⟨by rw [A3B,p8];exact S.len,λi w e=> ?_,λi c e=> ?_,λi j c c' p e1 e2 f1 f2=> ?_,S.hp,S.fr,S.ext,S.tr,S.tabs⟩
 ·obtain ⟨a,hi⟩:=c4 e
  rw [Y1 hi];exact S.val i w a
 ·obtain ⟨a,hi⟩:=c4 e
  rw [Y1 hi];exact S.own i c a
 ·obtain ⟨a,hi⟩:=c4 e1
  obtain ⟨b,hj⟩:=c4 e2
  rw [Y1 hi] at f1;rw [Y1 hj] at f2
  exact S.uni i j c c' p a b f1 f2
theorem BS.mend (S:BS G env h σ H) (S2:BS G e2 h2 σ2 H2) (k:Keeps H H2) (b:But sl (L2.wipe σ vs) σ2) (hs:∀i∈sl,i∈vs):BS G (mend env e2 vs) h2 σ H2:=by
 have at_:∀{i:Nat},i∉vs->σ2[i]? =σ[i]? :=λ{i} hi=> (b.2 i λz=> hi (hs i z)).trans (Y1 hi)
 refine ⟨by rw [A3P,S2.len,b.1,p8],λi w e=> ?_,λi c e=> ?_,λi j c c' p e1 e2 f1 f2=> ?_,S2.hp,S2.fr,S2.ext,S2.tr,S2.tabs⟩
 ·by_cases hi:i∈vs
  ·obtain ⟨w',e0,a⟩:=d3 hi e
   cases e0
   obtain ⟨v,x,y⟩:=S.val i w a
   exact ⟨v,x,Rep.mono k w v y⟩
  ·rw [c7 hi] at e
   obtain ⟨v,x,y⟩:=S2.val i w e
   exact ⟨v,(at_ hi).symm.trans x,y⟩
 ·by_cases hi:i∈vs
  ·obtain ⟨w',e0,_⟩:=d3 hi e;cases e0
  ·rw [c7 hi] at e
   obtain ⟨p,x,y⟩:=S2.own i c e
   exact ⟨p,(at_ hi).symm.trans x,y⟩
 ·by_cases hi:i∈vs
  ·obtain ⟨w',e0,_⟩:=d3 hi e1;cases e0
  ·by_cases hj:j∈vs
   ·obtain ⟨w',e0,_⟩:=d3 hj e2;cases e0
   ·rw [c7 hi] at e1;rw [c7 hj] at e2
    exact S2.uni i j c c' p e1 e2 ((at_ hi).trans f1) ((at_ hj).trans f2)
theorem BS.unseen (S:BS G env h σ H) {D:Addr} {o o':HO} (e:H D=some o) (m:Mu o) (n:h D=none) (n0:G.H0 D=none) (no:¬wac env σ D):Keeps H (upd H D o')/\BS G env h σ (upd H D o'):=by
 have k:Keeps H (upd H D o'):=λp u q i=> by
  have ne:p≠D:=λz=> by subst z;rw [e] at q;cases q;exact m.imm i
  rw [upd_ne ne];exact q
 refine ⟨k,S.len,λi w z=> ?_,λi c z=> ?_,S.uni,λa u z=> ?_,λp u z y t=> ?_,S.ext,λp u z=> ?_,S.tabs.upd λu z=> (by rw [e] at z;cases z;exact m)⟩
 ·obtain ⟨v,x,y⟩:=S.val i w z;exact ⟨v,x,Rep.mono k w v y⟩
 ·obtain ⟨p,x,y,a,b⟩:=S.own i c z
  have ne:p≠D:=λq=> no ⟨i,c,z,q▸x⟩
  exact ⟨p,x,y.mono k (upd_ne ne),a,b⟩
 ·have ne:a≠D:=λq=> by rw [q,n] at z;cases z
  exact (S.hp a u z).mono k (upd_ne ne)
 ·have ne:p≠D:=λq=> by rw [q,n0] at z;cases z
  rw [upd_ne ne];exact S.fr p u z y t
 ·by_cases q:p=D
  ·subst q;exact ⟨_,upd_same⟩
  ·obtain ⟨u',y⟩:=S.tr p u z;exact ⟨u',by rw [upd_ne q];exact y⟩
end
def wag (vs:List Nat) (g:C5) (tt:C2) (te:A6) (Q:List W->A0->AH->Prop):List W->List W->A0->AH->Prop
 | [],acc=> λenv h=> Q acc env h
 | w::ws,acc=> λenv h=> g w (I7 env vs) h λe1 h1=> tt e1 h1 λb e2 h2=> if b=true then te e2 h2 λy e3 h3=> acc.length < sizeLine/\wag vs g tt te Q ws (acc++[y]) (mend env e3 vs) h3 else wag vs g tt te Q ws acc (mend env e2 vs) h2
def g7 (vs:List Nat) (ti:I5) (g:C5) (tt:C2) (te:A6):AT:=λenv h Q=> ti env h λws e1 h1=> wag vs g tt te (λacc e h=> Q (.own (.seq acc)) e h) ws [] e1 h1
theorem wag.mono {vs:List Nat} {g:C5} {tt:C2} {te:A6} (mg:R5 g) (mt:A1 tt) (me:A1 te) {Q Q':List W->A0->AH->Prop} (k:∀a e h,Q a e h->Q' a e h):∀(ws acc:List W) env h,wag vs g tt te Q ws acc env h->wag vs g tt te Q' ws acc env h
 | [],acc,env,h,q=> k _ _ _ q
 | w::ws,acc,env,h,q=> mg _ _ _ _ _ (λe1 h1 z=> mt _ _ _ _ (λb e2 h2 z=> by
  cases b with
  | true=> rw [if_pos rfl] at z ⊢;exact me _ _ _ _ (λy e3 h3 z=> ⟨z.1,wag.mono mg mt me k ws _ _ _ z.2⟩) z
  | false=> rw [if_neg Bool.false_ne_true] at z ⊢;exact wag.mono mg mt me k ws _ _ _ z) z) q
structure APs (X:Cx) (G:Gx) (ifs:List Expr) (t:C2):Prop where
 mono:A1 t
 pts:PTs X ifs (cT G t)
def w4:C2:=λenv h Q=> Q true env h
theorem A1Q {X:Cx} {G:Gx}:APs X G [] w4:=⟨λenv h Q Q' k q=> k _ _ _ q,⟨λpins s σ H Q I ⟨env,h,S,q⟩=> pts_nil.run pins s σ H Q I (q H S .refl)⟩⟩
section
variable {X:Cx} {G:Gx} {elt tg iter:Expr} {ifs:List Expr} {scope:Scope} {own:List (Str×Nat)} {pos:Pos} {ti:I5} {g:C5} {tt:C2} {te:A6} {sl:List Nat}
theorem A7J {σ:L2.St} {H:Hp} {Q:VK} (hi:AI X G tg iter ti) (hsl:∀i∈sl,i∈own.map (·.2)) (mg:R5 g) (mt:A1 tt) (me:A1 te) (q:cE G (g7 (own.map (·.2)) ti g tt te) σ H Q):
  tLc (cI G ti) (cG G sl g) (cT G tt) (cV G te) (own.map (·.2)) σ H Q:=by
 obtain ⟨env,h,S,q⟩:=q
 refine ⟨env,h,S,hi.mono env h _ _ (λws env1 h1 z J H1 S1 x1 gv=> ?_) q⟩
 intro D nD
 have hD:H D=none:=x1.fresh nD
 obtain ⟨hd1,hd0,hdo⟩:=S1.noAt nD
 have nw0:New H1 (upd H1 D (.lst [])):=New.upd nD
 refine ⟨λi m H'=> ws.length<=i+m/\Keeps H1 H'/\∃acc vacc e k,H' D=some (.lst vacc)/\waa G.K H' acc vacc/\BS G e k σ H'/\Xt env h σ H e k H'/\k D=none/\¬wac e σ D/\
  wag (own.map (·.2)) g tt te (λacc e h'=> ∀v H',BS G e h' σ H'->Xt env h σ H e h' H'->wad G e h' σ H' (.own (.seq acc)) v->I9 H (.own (.seq acc)) v->Q v H') (ws.drop i) acc e k,
  ⟨ws.length,by omega,nw0.keeps,[],[],env1,h1,upd_same,.nil,nw0.bs S1,x1.trans nw0.xt,hd1,hdo,by simpa using z⟩,?_⟩
 rintro i m H2 ⟨hm,k2,acc,vacc,e2,g2,d2,r2,S2,x2,n2,no2,z2⟩
 have gi:=gv H2 k2 i
 cases e:ws[i]? with
 | none=>
  have hl:=List.getElem?_eq_none_iff.mp e
  rw [List.drop_eq_nil_of_le hl] at z2
  exact .inl ⟨gi.1 hl,z2 _ H2 S2 x2 ⟨D,rfl,⟨vacc,d2,r2⟩,n2,hd0,no2⟩ λp ep=> by cases ep;exact hD⟩
 | some w=>
  obtain ⟨hl,ew⟩:=List.getElem?_eq_some_iff.mp e
  have ed:ws.drop i=w::ws.drop (i+1):=by rw [List.drop_eq_getElem_cons hl,ew]
  rw [ed] at z2
  simp only [wag] at z2
  obtain ⟨go,yl⟩:=gi.2 w e
  refine .inr ⟨go,λH'=> Keeps H1 H'/\∃acc vacc e k,H' D=some (.lst vacc)/\waa G.K H' acc vacc/\BS G e k σ H'/\Xt env h σ H e k H'/\k D=none/\¬wac e σ D/\
   wag (own.map (·.2)) g tt te (λacc e h'=> ∀v H',BS G e h' σ H'->Xt env h σ H e h' H'->wad G e h' σ H' (.own (.seq acc)) v->I9 H (.own (.seq acc)) v->Q v H') (ws.drop (i+1)) acc e k,λH' n=> ⟨m - 1,by omega,by omega,n.1,n.2⟩,λx H3 y=> ?_⟩
  obtain ⟨nw,rx⟩:=yl x H3 y
  have S3:=nw.bs S2
  refine ⟨w,I7 e2 (own.map (·.2)),g2,rx,S3.wipe,mg _ _ _ _ _ (λe4 g4 z4 σ4 H4 S4 x4=> ?_) z2⟩
  refine ⟨A6h x4.bt hsl,e4,g4,S4,mt _ _ _ _ (λb e5 g5 z5 H5 S5 x5=> ?_) z4⟩
  have fin:∀{e6:A0} {g6:AH} {H6:Hp},BS G e6 g6 σ4 H6->Xt e4 g4 σ4 H4 e6 g6 H6->H6 D=some (.lst vacc)/\Keeps H2 H6/\BS G (mend e2 e6 (own.map (·.2))) g6 σ H6/\g6 D=none/\¬wac (mend e2 e6 (own.map (·.2))) σ D/\
    ∀ys,Xt env h σ H (mend e2 e6 (own.map (·.2))) g6 (upd H6 D (.lst ys)):=λ{e6 g6 H6} S6 x6=> by
   have xx:=x4.trans x6.xg
   have noW:¬wac (I7 e2 (own.map (·.2))) (wipe σ (own.map (·.2))) D:=λq=> no2 q.wiped
   have f6:∀p o,H2 p=some o->g2 p=none->¬wac e2 σ p->NT o->H6 p=some o:=λp o e n q t=> xx.fr p o (nw p o e) n (λq'=> q q'.wiped) t
   have kk:Keeps H2 H6:=λp o e i=> f6 p o e (S2.imm e i).1 (S2.imm e i).2 i.nt
   have Sm:=BS.mend (sl:=sl++[]) S2 S6 kk xx.bt λi hi=> hsl i (by simpa using hi)
   have g6D:g6 D=none:=by
    cases q:g6 D with
    | none=> rfl
    | some u=> have y:=xx.hn D u q n2;rw [nw D _ d2] at y;cases y
   have sameOut:∀{j:Nat},j∉own.map (·.2)->σ4[j]? =σ[j]? :=λ{j} hj=> (x4.bt.2 j λq=> hj (hsl j q)).trans (Y1 hj)
   have oM:∀p,wac (mend e2 e6 (own.map (·.2))) σ p->wac e2 σ p:=λp ⟨j,c,a,b⟩=> by
    by_cases hj:j∈own.map (·.2)
    ·obtain ⟨w',e0,_⟩:=d3 hj a;cases e0
    ·rw [c7 hj] at a
     exact (xx.ow p ⟨j,c,a,(sameOut hj).trans b⟩).wiped
   refine ⟨f6 D _ d2 n2 no2 (Mu.nt (o:= .lst vacc) trivial),kk,Sm,g6D,λq=> no2 (oM D q),λys=> ⟨λp o e n q t=> ?_,λp o e n=> ?_,λp o e=> ?_,λj c e=> ?_⟩⟩
   ·have np:p≠D:=λz=> by rw [z,hD] at e;cases e
    rw [upd_ne np]
    refine f6 p o (x2.fr p o e n q t) ?_ (λy=> q (x2.own y)) t
    cases y:g2 p with
    | none=> rfl
    | some u=> rw [x2.hn p u y n] at e;cases e
   ·cases y:g2 p with
    | some u=> exact x2.hn p u y n
    | none=>
     have y3:=xx.hn p o e y
     cases y4:H p with
     | none=> rfl
     | some u=>
      obtain ⟨u',y5⟩:=x2.th p u y4
      rw [nw p u' y5] at y3;cases y3
   ·by_cases hp:p=D
    ·subst hp;exact ⟨_,upd_same⟩
    ·obtain ⟨u,y⟩:=x2.th p o e
     obtain ⟨u',y'⟩:=xx.th p u (nw p u y)
     exact ⟨u',by rw [upd_ne hp];exact y'⟩
   ·by_cases hj:j∈own.map (·.2)
    ·obtain ⟨w',e0,_⟩:=d3 hj e;cases e0
    ·rw [c7 hj] at e
     obtain ⟨c1,y⟩:=xx.so j _ e
     obtain ⟨y1,_⟩:=c4 y
     exact x2.sl j c1 y1
  cases b with
  | true=>
   rw [if_pos rfl] at z5
   refine iteT ⟨e5,g5,S5,me _ _ _ _ (λy e6 g6 ⟨hz,z6⟩ v H6 S6 x6 r6=> ?_) z5⟩
   obtain ⟨d6,k6,Sm,n6,no6,xm⟩:=fin S6 (x5.trans x6)
   obtain ⟨k7,S7⟩:=Sm.unseen (o':= .lst (vacc++[v])) d6 trivial n6 hd0 no6
   exact ⟨vacc,d6,by rw [<-r2.length];exact hz,(k2.trans k6).trans k7,acc++[y],vacc++[v],_,g6,upd_same,(waa.mono (k6.trans k7) _ _ r2).append (.cons (Rep.mono k7 _ _ r6) .nil),S7,xm _,n6,no6,z6⟩
  | false=>
   rw [if_neg Bool.false_ne_true] at z5
   refine iteF ?_
   obtain ⟨d6,k6,Sm,n6,no6,xm⟩:=fin S5 x5
   have eu:upd H5 D (.lst vacc)=H5:=by
    funext p
    by_cases hp:p=D
    ·subst hp;rw [upd_same,d6]
    ·rw [upd_ne hp]
   have xm':=xm vacc
   rw [eu] at xm'
   exact ⟨k2.trans k6,acc,vacc,_,g5,d6,waa.mono k6 _ _ r2,Sm,xm',n6,no6,z5⟩
theorem A9s (hc:X.calm=true) (hN:X.N.Nodup) (hi:AI X G tg iter ti) (ok:BlkOk X.N X.env.scope scope own) (hsl:∀i∈sl,i∈own.map (·.2))
  (hg:∀(s:Shared) (H:Hp) (C:Addr) (cl:List (Str×Addr)) (fp:List Addr),AG (X.blk s H scope (compEnvC scope cl C X.env) fp) G tg sl g) (ht:∀(s:Shared) (H:Hp) (C:Addr) (cl:List (Str×Addr)) (fp:List Addr),APs (X.blk s H scope (compEnvC scope cl C X.env) fp) G ifs tt)
  (he:∀(s:Shared) (H:Hp) (C:Addr) (cl:List (Str×Addr)) (fp:List Addr),AV (X.blk s H scope (compEnvC scope cl C X.env) fp) G elt te) (mg:R5 g) (mt:A1 tt) (me:A1 te) (hs:∀x,foldedSetIterable iter X.env x=pure x:=by intro _;rfl):
  AE X G (.ListComp elt [⟨tg,iter,ifs,0⟩] scope pos) (g7 (own.map (·.2)) ti g tt te):=by
 exact ⟨λenv h Q Q' k q=> hi.mono env h _ _ (λws e1 h1 z=> wag.mono mg mt me (λa e h q=> k _ _ _ q) ws [] e1 h1 z) q,PE.imp (pe_lc hc hN hi.pi ok (λs H C cl fp=> (hg s H C cl fp).pg) (λs H C cl fp=> (ht s H C cl fp).pts) (λs H C cl fp=> (he s H C cl fp).pe) hs) λσ H Q q=> A7J hi hsl mg mt me q⟩
end
def C4 (h:AH) (a:Addr) (o:AO):AH:=λb=> if b=a then some o else h b
theorem O7 {h:AH} {a:Addr} {o:AO}:C4 h a o a=some o:=by unfold C4;rw [if_pos rfl]
theorem Q4 {h:AH} {a b:Addr} {o:AO} (n:b≠a):C4 h a o b=h b:=by unfold C4;rw [if_neg n]
def O1 (env:A0) (h:AH):RV->Option Cont
 | .slot i=> match env[i]? with
  | some (some (.own c))=> some c
  | _=> none
 | .val (.ref a)=> match h a with
  | some (.cont c)=> some c
  | _=> none
 | _=> none
def f7 (env:A0) (r:RV) (c:Cont):A0:=match r with
 | .slot i=> env.set i (some (.own c))
 | _=> env
def f9 (h:AH) (r:RV) (c:Cont):AH:=match r with
 | .val (.ref a)=> C4 h a (.cont c)
 | _=> h
section
variable {G:Gx} {env:A0} {h:AH} {σ:L2.St} {H:Hp}
theorem A8y (S:BS G env h σ H) {r:RV} {v:V} {c:Cont} (rr:wad G env h σ H r v) (e:O1 env h r=some c):∃p,v= .ref p/\wae G.K H p c/\
  ∀o' c',(Keeps H (upd H p o')->wae G.K (upd H p o') p c')->BS G (f7 env r c') (f9 h r c') σ (upd H p o')/\Xt env h σ H (f7 env r c') (f9 h r c') (upd H p o'):=by
 have com:∀(p:Addr) (o':HO),(∃u,H p=some u/\Mu u)->Keeps H (upd H p o')/\(∀q o,H q=some o->∃u,upd H p o' q=some u):=λp o' ⟨u,eu,mu⟩=> by
  refine ⟨λq o eq i=> ?_,λq o eq=> ?_⟩
  ·have ne:q≠p:=λz=> by subst z;rw [eu] at eq;cases eq;exact mu.imm i
   rw [upd_ne ne];exact eq
  ·by_cases z:q=p
   ·subst z;exact ⟨_,upd_same⟩
   ·exact ⟨o,by rw [upd_ne z];exact eq⟩
 cases r with
 | own c0=> cases e
 | slot i=>
  have e:(match env[i]? with
   | some (some (.own c))=> some c
   | _=> none)=some c:=e
  split at e
  ·rename_i c0 hs
   cases e
   obtain ⟨p,es,cr,n,n0⟩:=S.own i c hs
   have es':σ[i]? =some (some v):=rr
   rw [es] at es';cases es'
   refine ⟨p,rfl,cr,λo' c' hc=> ?_⟩
   obtain ⟨kp,th⟩:=com p o' cr.there
   have hc:=hc kp
   have at_:∀(j:Nat) (sv:SV),(env.set i (some (SV.own c')))[j]? =some (some sv)->(j=i/\sv= .own c')\/(j≠i/\env[j]? =some (some sv)):=λj sv z=> by
    rw [p0 hs] at z
    by_cases hj:j=i
    ·rw [if_pos hj] at z;cases z;exact .inl ⟨hj,rfl⟩
    ·rw [if_neg hj] at z;exact .inr ⟨hj,z⟩
   show BS G (env.set i (some (.own c'))) h σ _/\Xt env h σ H (env.set i (some (.own c'))) h _
   refine ⟨⟨by rw [length_set];exact S.len,λj w z=> ?_,λj d z=> ?_,λj k d d' q z1 z2 f1 f2=> ?_,λa o z=> ?_,λq o z y t=> ?_,S.ext,λq o z=> ?_,S.tabs.upd λo z=> cr.mu_at z⟩,λq o z y w t=> ?_,λq o z y=> (by rw [y] at z;cases z),th,λj d z=> ?_⟩
   ·rcases at_ j _ z with ⟨_,z⟩ | ⟨_,z⟩
    ·cases z
    ·obtain ⟨u,a,b⟩:=S.val j w z;exact ⟨u,a,Rep.mono kp w u b⟩
   ·rcases at_ j _ z with ⟨hj,z⟩ | ⟨hj,z⟩
    ·cases z;exact ⟨p,hj▸es,hc,n,n0⟩
    ·obtain ⟨q,a,b,x,y⟩:=S.own j d z
     have nq:q≠p:=λz2=> hj (S.uni j i d c p z hs (z2▸a) es)
     exact ⟨q,a,b.mono kp (upd_ne nq),x,y⟩
   ·rcases at_ j _ z1 with ⟨hj,y1⟩ | ⟨hj,y1⟩
    ·rcases at_ k _ z2 with ⟨hk,y2⟩ | ⟨hk,y2⟩
     ·rw [hj,hk]
     ·rw [hj] at f1 ⊢;exact S.uni i k c d' q hs y2 f1 f2
    ·rcases at_ k _ z2 with ⟨hk,y2⟩ | ⟨hk,y2⟩
     ·rw [hk] at f2 ⊢;exact S.uni j i d c q y1 hs f1 f2
     ·exact S.uni j k d d' q y1 y2 f1 f2
   ·have na:a≠p:=λy=> by rw [y,n] at z;cases z
    exact (S.hp a o z).mono kp (upd_ne na)
   ·have nq:q≠p:=λx=> by rw [x,n0] at z;cases z
    rw [upd_ne nq];exact S.fr q o z y t
   ·obtain ⟨u,y⟩:=S.tr q o z;exact th q u y
   ·have nq:q≠p:=λx=> w ⟨i,c,hs,x▸es⟩
    rw [upd_ne nq];exact z
   ·rcases at_ j _ z with ⟨hj,z⟩ | ⟨hj,z⟩
    ·exact ⟨c,hj▸hs⟩
    ·exact ⟨d,z⟩
  ·cases e
 | val w0=>
  cases w0 with
  | ref a=>
   have e:(match h a with
    | some (.cont c)=> some c
    | _=> none)=some c:=e
   split at e
   ·rename_i c0 ha
    cases e
    have ev:v= .ref a:=Rep.of_ref (K:=G.K) (H:=H) rr
    have cr:wae G.K H a c:=S.hp a _ ha
    refine ⟨a,ev,cr,λo' c' hc=> ?_⟩
    obtain ⟨kp,th⟩:=com a o' cr.there
    have hc:=hc kp
    show BS G env (C4 h a (.cont c')) σ _/\Xt env h σ H env (C4 h a (.cont c')) _
    have neo:∀{j:Nat} {d:Cont} {q:Addr},env[j]? =some (some (SV.own d))->σ[j]? =some (some (V.ref q))->q≠a:=λz y x=> by
     obtain ⟨q',a',_,n,_⟩:=S.own _ _ z
     rw [y] at a';cases a'
     rw [x,ha] at n;cases n
    refine ⟨⟨S.len,λj w z=> ?_,λj d z=> ?_,S.uni,λb o z=> ?_,λq o z y t=> ?_,λb o z y=> ?_,λq o z=> ?_,S.tabs.upd λo z=> cr.mu_at z⟩,λq o z y w t=> ?_,λq o z y=> ?_,th,λj d z=> ⟨d,z⟩⟩
    ·obtain ⟨u,x,y⟩:=S.val j w z;exact ⟨u,x,Rep.mono kp w u y⟩
    ·obtain ⟨q,x,y,n,n0⟩:=S.own j d z
     have nq:=neo z x
     exact ⟨q,x,y.mono kp (upd_ne nq),by rw [Q4 nq];exact n,n0⟩
    ·by_cases hb:b=a
     ·subst hb;rw [O7] at z;cases z;exact hc
     ·rw [Q4 hb] at z;exact (S.hp b o z).mono kp (upd_ne hb)
    ·have nq:q≠a:=λx=> by
      subst x
      have:=S.ext q _ ha y
      rw [this] at z;cases z
     rw [upd_ne nq];exact S.fr q o z y t
    ·by_cases hb:b=a
     ·subst hb;exact S.ext b _ ha y
     ·rw [Q4 hb] at z;exact S.ext b o z y
    ·obtain ⟨u,y⟩:=S.tr q o z;exact th q u y
    ·have nq:q≠a:=λx=> by rw [x,ha] at y;cases y
     rw [upd_ne nq];exact z
    ·have nq:q≠a:=λx=> by rw [x,ha] at y;cases y
     rw [Q4 nq,y] at z;cases z
   ·cases e
  | _=> cases e
end
abbrev K4:=List W->List W->(List W->W->Prop)->Prop
structure LmOk (K:PySem.W.Frag) (r:V->List V->Hp->VK->Prop) (f:K4):Prop where
 mono:∀xs ws Q Q',(∀a b,Q a b->Q' a b)->f xs ws Q->f xs ws Q'
 ok:∀H p xs vs ws us Qf Q,H p=some (.lst vs)->waa K H xs vs->waa K H ws us->f xs ws Qf->(∀xs' vs' w v,Qf xs' w->waa K H xs' vs'->Rep K H w v->Q v (upd H p (.lst vs')))->r (.ref p) us H Q
def A4G:Option Cont->Prop
 | some (.seq _)=> True
 | _=> False
def aLm (f:K4) (to:AT) (t:B8):AT:=λenv h Q=> to env h λro env1 h1=> A4G (O1 env1 h1 ro)/\t env1 h1 λws env2 h2=> match O1 env2 h2 ro with
 | some (.seq xs)=> f xs ws λxs' w=> Q (.val w) (f7 env2 ro (.seq xs')) (f9 h2 ro (.seq xs'))
 | _=> False
theorem aLm.mono {K:PySem.W.Frag} {r:V->List V->Hp->VK->Prop} {f:K4} {to:AT} {t:B8} (lm:LmOk K r f) (a:A1 to) (b:A1 t):A1 (aLm f to t):=λenv h Q Q' k q=> a env h _ _ (λro e g z=> ⟨z.1,b e g _ _ (λws e2 g2 z=> by
 split at z
 ·exact lm.mono _ _ _ _ (λ_ _ q=> k _ _ _ q) z
 ·exact z) z.2⟩) q
section
variable {X:Cx} {G:Gx} {o e:Expr} {es:List Expr} {to:AT} {t:B8} {name:Str} {apos cpos:Pos} {id:String} {r:V->List V->Hp->VK->Prop} {f:K4}
end
section
variable {K:PySem.W.Frag}
def A7y:K4:=λxs ws Q=> match ws with
 | [y]=> xs.length < sizeLine/\Q (xs++[y]) .non
 | _=> False
end
def Z3 (to ti:AT):C5:=λw env h Q=> to env h λro env1 h1=> ti env1 h1 λri env2 h2=> match view env2 h2 ri with
 | .wv (.int k)=> match O1 env2 h2 ro with
  | some (.seq xs)=> ∃j,ixN xs.length k=some j/\Q (f7 env2 ro (.seq (xs.set j w))) (f9 h2 ro (.seq (xs.set j w)))
  | _=> False
 | _=> False
section
variable {X:Cx} {G:Gx} {o i:Expr} {to ti:AT} {pos:Pos}
theorem d9 (ho:AE X G o to) (hi:AE X G i ti)
  (ha:PG X (.Subscript o i pos) (gSub (cE G to) (cE G ti) rSetL)):AG X G (.Subscript o i pos) [] (Z3 to ti):=by
 refine ⟨λw env h Q Q' k q=> ho.mono env h _ _ (λro e g z=> hi.mono e g _ _ (λri e g z=> ?_) z) q,PG.imp ha λv σ H Q ⟨w,env,h,rv,S,q⟩=> ?_⟩
 ·split at z
  ·split at z
   ·obtain ⟨j,e,z⟩:=z;exact ⟨j,e,k _ _ z⟩
   ·exact z
  ·exact z
 ·refine ⟨env,h,S,ho.mono env h _ _ (λro env1 h1 z x H1 S1 x1 r1 f1=> ?_) q⟩
  refine ⟨env1,h1,S1,hi.mono env1 h1 _ _ (λri env2 h2 z y H2 S2 x2 r2 f2=> ?_) z⟩
  have ry:=r2.vr S2
  split at z
  ·rename_i k ek
   rw [ek] at ry
   split at z
   ·rename_i xs e
    obtain ⟨j,ej,z⟩:=z
    obtain ⟨p,rfl,⟨us,l,rl⟩,put⟩:=A8y S2 (r1.xt S1 x2) e
    have rv2:Rep G.K H2 w v:=Rep.mono ((x1.keeps S).trans (x2.keeps S1)) w v rv
    refine ⟨p,us,k,j,rfl,ry.int,l,by rw [<-rl.length];exact ej,?_⟩
    obtain ⟨S3,x3⟩:=put (.lst (us.set j v)) (.seq (xs.set j w)) λkk=> ⟨_,upd_same,waa.mono kk _ _ (rl.set j rv2)⟩
    exact z σ _ S3 (x1.trans (x2.trans x3)).xg
   ·exact z.elim
  ·exact z.elim
end
section
variable {X:Cx} {G:Gx} {tg e:Expr} {tv:A6} {g:C5} {sl:List Nat} {pos:Pos} {st:Stmt} {t:B9}
def G0 (tv:A6) (g:C5):B9:=λD env h=> tv env h λw env1 h1=> g w env1 h1 D.nx
theorem H8 (he:AV X G e tv) (hg:AG X G tg sl g) (hs:swapsWithSole [tg] e pos.line X.env=pure false:=by rfl) (hw:swappedStores [tg] e X.env=pure none:=by rfl) (h1:(assignEach [tg] X.env).map (·.2)=[assign tg X.env]:=by rfl):AS X G (.Assign [tg] e pos) (G0 tv g):=by
 refine ⟨λD D' env h l q=> he.mono env h _ _ (λw e g z=> hg.mono _ _ _ _ _ l.nx z) q,PS.imp (ps_asg he.pe hg.pg hs hw h1) λD σ H ⟨env,h,Da,S,q,l⟩=> ?_⟩
 refine ⟨env,h,S,he.mono env h _ _ (λw env1 h1 z v H1 S1 x1 r1=> ?_) q⟩
 exact ⟨w,env1,h1,r1,S1,hg.mono _ _ _ _ _ (λenv2 h2 z σ2 H2 S2 x2=> l.nx _ _ _ _ S2 ((x1.keeps S).trans (x2.keeps S1)) z) z⟩
def j8 (i:Nat) (t:B9):B9:=λD env h=> match env[i]? with
 | some (some (.own c))=> ∀p,h p=none->t D (env.set i (some (.val (.ref p)))) (C4 h p (.cont c))
 | _=> False
theorem A7R (i:Nat) (a:AS X G st t):AS X G st (j8 i t):=by
 refine ⟨λD D' env h l q=> ?_,PS.imp a.ps λD σ H ⟨env,h,Da,S,q,l⟩=> ?_⟩
 ·unfold j8 at q ⊢
  split at q
  ·exact λp n=> a.mono _ _ _ _ l (q p n)
  ·exact q
 ·unfold j8 at q
  split at q
  ·rename_i c e
   obtain ⟨p,es,cr,n,n0⟩:=S.own i c e
   refine ⟨_,_,Da,?_,q p n,l⟩
   have at_:∀(j:Nat) (sv:SV),(env.set i (some (SV.val (.ref p))))[j]? =some (some sv)->(j=i/\sv= .val (.ref p))\/(j≠i/\env[j]? =some (some sv)):=λj sv z=> by
    rw [p0 e] at z
    by_cases hj:j=i
    ·rw [if_pos hj] at z;cases z;exact .inl ⟨hj,rfl⟩
    ·rw [if_neg hj] at z;exact .inr ⟨hj,z⟩
   refine ⟨by rw [length_set];exact S.len,λj w z=> ?_,λj d z=> ?_,λj k d d' q z1 z2 f1 f2=> ?_,λa o z=> ?_,S.fr,λa o z y=> ?_,S.tr,S.tabs⟩
   ·rcases at_ j _ z with ⟨hj,z⟩ | ⟨_,z⟩
    ·cases z;exact ⟨_,hj▸es,.ref⟩
    ·exact S.val j w z
   ·rcases at_ j _ z with ⟨_,z⟩ | ⟨hj,z⟩
    ·cases z
    ·obtain ⟨q,a,b,x,y⟩:=S.own j d z
     have nq:q≠p:=λz2=> hj (S.uni j i d c p z e (z2▸a) es)
     exact ⟨q,a,b,by rw [Q4 nq];exact x,y⟩
   ·rcases at_ j _ z1 with ⟨_,y⟩ | ⟨_,y1⟩
    ·cases y
    ·rcases at_ k _ z2 with ⟨_,y⟩ | ⟨_,y2⟩
     ·cases y
     ·exact S.uni j k d d' q y1 y2 f1 f2
   ·by_cases ha:a=p
    ·subst ha;rw [O7] at z;cases z;exact cr
    ·rw [Q4 ha] at z;exact S.hp a o z
   ·by_cases ha:a=p
    ·subst ha;exact n0
    ·rw [Q4 ha] at z;exact S.ext a o z y
  ·exact q.elim
end
def G7 (n:Nat) (ws:List W):A0:=ws.map (λw=> some (.val w))++List.replicate (n - ws.length) none
def AH.Le (h h':AH):Prop:=∀a o,h a=some o->h' a=some o
def E8 (Qa:RR->AH->Prop):AEnds where
 nx:=λ_ h=> ∃h',AH.Le h' h/\Qa (.val .non) h'
 rt:=λr env h=> ∃h',AH.Le h' h/\match r with
  | .val w=> Qa (.val w) h'
  | .own c=> Qa (.own c) h'
  | .slot i=> match env[i]? with
   | some (some (.val w))=> Qa (.val w) h'
   | some (some (.own c))=> Qa (.own c) h'
   | _=> False
def G3 (Ea:AExc->AH->Prop):AExc->A0->AH->Prop:=λx _ h=> ∃h',AH.Le h' h/\Ea x h'
theorem BS.begin {K:PySem.W.Frag} {h:AH} {H:Hp} {ws:List W} {vs:List V} {N:List Str} (hp:∀a o,h a=some o->wam K H a o) (tb:waf K H) (r:waa K H ws vs) (hl:ws.length<=N.length):BS ⟨K,h,H⟩ (G7 N.length ws) h (L2.start N vs) H:=by
 have e1:(G7 N.length ws).length=N.length:=by simp [G7];omega
 have e2:(L2.start N vs).length=N.length:=by simp [L2.start,<-r.length];omega
 have at_:∀(i:Nat) (sv:SV),(G7 N.length ws)[i]? =some (some sv)->∃w,sv= .val w/\ws[i]? =some w:=λi sv e=> by
  unfold G7 at e
  by_cases hi:i < ws.length
  ·rw [getElem?_append_left (by simpa using hi),getElem?_map] at e
   cases q:ws[i]? with
   | none=> rw [q] at e;cases e
   | some w=> rw [q] at e;cases e;exact ⟨w,rfl,rfl⟩
  ·rw [getElem?_append_right (by simpa using hi),List.getElem?_replicate] at e
   split at e <;> cases e
 refine ⟨by rw [e1,e2],λi w e=> ?_,λi c e=> ?_,λi j c c' p e=> ?_,hp,λp o e _ _=> e,λa o e n=> (by have n:h a=none:=n;rw [n] at e;cases e),λp o e=> ⟨o,e⟩,tb⟩
 ·obtain ⟨w',z,y⟩:=at_ i _ e
  cases z
  obtain ⟨v,ev,rv⟩:=r.get y
  refine ⟨v,?_,rv⟩
  have hi:i < vs.length:=(List.getElem?_eq_some_iff.mp ev).1
  unfold L2.start
  rw [getElem?_append_left (by simpa using hi),getElem?_map,ev]
  rfl
 ·obtain ⟨w',z,_⟩:=at_ i _ e;cases z
 ·obtain ⟨w',z,_⟩:=at_ i _ e;cases z
section
variable {P:Program} {w:World} {K:PySem.W.Frag} {mg:Str->Option Value} {base:Heap} {x qual:Str} {params:Arguments} {body:List Stmt} {scope:Scope} {f:Addr} {fd:FuncData} {N ps:List Str} {k n:Nat} {sp:A5}
abbrev bx (P:Program) (w:World) (K:PySem.W.Frag) (mg:Str->Option Value) (base:Heap) (N:List Str) (qual:Str) (scope:Scope) (f:Addr) (cdv:Value) (A:Around) (outer:List Env) (s:Shared) (H:Hp) (E:XK):Cx:=
 cxOf (Ab.CX P w) P w K mg base N qual scope f cdv A outer s H E
theorem HS.le {G:Gx} {h h':AH} {H:Hp} (a:HS G h H) (l:AH.Le h' h):HS G h' H:=⟨λp o e=> a.hp p o (l p o e),a.fr,λp o e=> a.ext p o (l p o e),a.tr,a.tabs⟩
theorem A1i {t:(AExc->A0->AH->Prop)->B9} (dvs:List V) (kws:List (Str×V)) (F:FunD K x qual params body scope dvs kws f fd) (S:FnScope N ps scope) (hn:ps.length=n)
  (hb:∀(cdv:Value) (A:Around) (outer:List Env) (s:Shared) (H:Hp) (E:XK) (G:Gx) (E':AExc->A0->AH->Prop),Room k (A.deeper (envOfC qual scope s.heap.objs.size f cdv))->G.K=K->Takes (bx P w K mg base N qual scope f cdv A outer s H E) (cW G E')->
   ASs (bx P w K mg base N qual scope f cdv A outer s H E) G body (t E'))
  (hq:∀ws h Qa Ea,ws.length=n->sp ws h Qa Ea->t (G3 Ea) (E8 Qa) (G7 N.length ws) h):
  FnOk P w K mg base (Ab.CX P w) (k+1) f fd ps (M0 K n sp):=by
 refine F.ok S (λvs H Q E ⟨ws,h,Qa,Ea,hl,_,_,r,_⟩=> by rw [<-r.length,hl,hn]) (λcdv A outer s H vs Q E hr ⟨ws,h,Qa,Ea,hl,hp,tb,r,q,kq,ke⟩=> ?_)
 have hwN:ws.length<=N.length:=by
  have z:=congrArg List.length S.pre
  rw [List.length_take] at z
  omega
 have tk:Takes (bx P w K mg base N qual scope f cdv A outer s H E) (cW ⟨K,h,H⟩ (G3 Ea)):=Takes.imp (W:=λcls d _ H'=> E cls d H') (A3J rfl rfl rfl rfl) λcls d σ H' ⟨x,env,h',SB,xr,h'',le,e⟩=>
  ke x h'' cls d H' e (HS.le (G:=⟨K,h,H⟩) ⟨SB.hp,SB.fr,SB.ext,SB.tr,SB.tabs⟩ le) xr
 refine ⟨_,(hb cdv A outer s H E ⟨K,h,H⟩ (G3 Ea) hr rfl tk).ps,G7 N.length ws,h,E8 Qa,BS.begin hp tb r hwN,hq ws h Qa Ea hl q,?_⟩
 have hs:∀{env h' σ' H'},BS ⟨K,h,H⟩ env h' σ' H'->HS ⟨K,h,H⟩ h' H':=λSB=> ⟨SB.hp,SB.fr,SB.ext,SB.tr,SB.tabs⟩
 refine ⟨λenv h' σ' H' SB _ ⟨h'',le,e⟩=> kq (.val .non) h'' .non H' e ((hs SB).le le) (show Rep K H' .non .non from .non),λr0 env h' σ' H' v SB _ rr ⟨h'',le,e⟩=> ?_,λ_ _ _ _ _ _ z=> z.elim,λ_ _ _ _ _ _ z=> z.elim⟩
 have own_end:∀{p:Addr} {c:Cont},v= .ref p->wae K H' p c->h' p=none->H p=none->A0i ⟨K,h,H⟩ h'' H' (.own c) v:=λ{p c} e1 e2 e3 e4=> by
  have e5:h'' p=none:=by
   cases z:h'' p with
   | none=> rfl
   | some u=> rw [le p u z] at e3;cases e3
  exact ⟨p,e1,e2,e5,e4⟩
 cases r0 with
 | val w0=> exact kq (.val w0) h'' v H' e ((hs SB).le le) rr
 | own c=>
  obtain ⟨p,e1,cr,a,b,_⟩:=rr
  exact kq (.own c) h'' v H' e ((hs SB).le le) (own_end e1 cr a b)
 | slot i=>
  have es:σ'[i]? =some (some v):=rr
  have e:match env[i]? with
   | some (some (.val w))=> Qa (.val w) h''
   | some (some (.own c))=> Qa (.own c) h''
   | _=> False:=e
  split at e
  ·rename_i w0 ei
   obtain ⟨u,e3,rv⟩:=SB.val i w0 ei
   rw [es] at e3;cases e3
   exact kq (.val w0) h'' v H' e ((hs SB).le le) rv
  ·rename_i c ei
   obtain ⟨p,e3,cr,a,b⟩:=SB.own i c ei
   rw [es] at e3;cases e3
   exact kq (.own c) h'' _ H' e ((hs SB).le le) (own_end rfl cr a b)
  ·exact e.elim
end
end Ab
namespace Ab
open PySem PySem.Spec PyProof.Rows L2 RZ
def k8 (ta tb:AT):AT:=λenv h Q=> ta env h λr env1 h1=> match view env1 h1 r with
 | .wv (.bl c)=> if c=true then tb env1 h1 Q else Q (.val (.bl false)) env1 h1
 | _=> False
def A1z (ta:AT):AT:=λenv h Q=> ta env h λr env1 h1=> match view env1 h1 r with
 | .wv (.bl c)=> Q (.val (.bl (!c))) env1 h1
 | _=> False
section
variable {X:Cx} {G:Gx} {a b:Expr} {ta tb:AT} {pos:Pos} {rest:List Expr}
theorem A6d {env env1:A0} {h h1:AH} {σ:L2.St} {H H1:Hp} (x1:Xt env h σ H env1 h1 H1) {r:RV} {v:V} (f:I9 H1 r v):I9 H r v:=by
 cases r with
 | own c=> exact λp e=> x1.fresh (f p e)
 | _=> trivial
theorem A7c {t:AT} {env env1:A0} {h h1:AH} {σ:L2.St} {H H1:Hp} {Q:VK} (m:A1 t) (S1:BS G env1 h1 σ H1) (x1:Xt env h σ H env1 h1 H1)
  (z:t env1 h1 λr env' h'=> ∀v H',BS G env' h' σ H'->Xt env h σ H env' h' H'->wad G env' h' σ H' r v->I9 H r v->Q v H'):cE G t σ H1 Q:=
 ⟨env1,h1,S1,m env1 h1 _ _ (λr env2 h2 z2 v H2 S2 x2 r2 f2=> z2 v H2 S2 (x1.trans x2) r2 (A6d x1 f2)) z⟩
theorem A1W (ha:AE X G a ta):AE X G (.BoolOp .And [a] pos) ta:=⟨ha.mono,pe_one ha.pe⟩
theorem A0T (ha:AE X G a ta) (hb:AE X G (.BoolOp .And (b::rest) pos) tb):AE X G (.BoolOp .And (a::b::rest) pos) (k8 ta tb):=by
 refine ⟨λenv h Q Q' k q=> ha.mono env h _ _ (λr e g z=> ?_) q,PE.imp (pe_and ha.pe hb.pe) λσ H Q ⟨env,h,S,q⟩=> ⟨env,h,S,ha.mono env h _ _ (λr e g z v H1 S1 x1 r1 f1=> ?_) q⟩⟩
 ·split at z
  ·rename_i c _
   cases c with
   | true=> exact iteT (hb.mono e g _ _ k (by simpa using z))
   | false=> exact iteF (k _ _ _ (by simpa using z))
  ·exact z
 ·have rv:=r1.vr S1
  split at z
  ·rename_i c ec
   rw [ec] at rv
   refine ⟨c,rv.bl,?_⟩
   cases c with
   | true=> rw [if_pos rfl] at z;exact iteT (A7c hb.mono S1 x1 z)
   | false=> rw [if_neg Bool.false_ne_true] at z;exact iteF (z (.bl false) H1 S1 x1 (show Rep G.K H1 (.bl false) (.bl false) from .bl) trivial)
  ·exact z.elim
theorem A8G (ha:AE X G a ta):AE X G (.UnaryOp .Not a pos) (A1z ta):=by
 refine ⟨λenv h Q Q' k q=> ha.mono env h _ _ (λr e g z=> ?_) q,PE.imp (pe_not ha.pe) λσ H Q ⟨env,h,S,q⟩=> ⟨env,h,S,ha.mono env h _ _ (λr e g z v H1 S1 x1 r1 f1=> ?_) q⟩⟩
 ·split at z
  ·exact k _ _ _ z
  ·exact z
 ·have rv:=r1.vr S1
  split at z
  ·rename_i c ec
   rw [ec] at rv
   exact ⟨c,rv.bl,z (.bl (!c)) H1 S1 x1 (show Rep G.K H1 (.bl (!c)) (.bl (!c)) from .bl) trivial⟩
  ·exact z.elim
theorem A32 (ha:AE X G a ta) (hb:AE X G b tb):AE X G (.BinOp a .Pow b pos) (aOp2 (oII CPow λi j=> .int (i ^ j.toNat)) ta tb):=j5 op_pow (A1T λ_ _ _=> .int) ha hb
end
structure AK (X:Cx) (G:Gx) (kws:List Keyword) (t:B8):Prop where
 mono:A1 t
 pk:PK X kws (cA G t)
theorem PK.imp {X:Cx} {e:List Keyword} {t t':TA} (h:PK X e t) (i:∀σ H Q,t' σ H Q->t σ H Q):PK X e t':=⟨λpos pins s σ H Q I q=> h.run pos pins s σ H Q I (i σ H Q q)⟩
section
variable {X:Cx} {G:Gx} {k n:Nat} {f:Addr} {fd:FuncData} {ps ks:List Str} {sp:A5} {x:Str} {p pos kpos:Pos} {e:Expr} {es:List Expr} {kws:List Keyword} {nm:Option Str} {t tk:B8} {tv:A6} {E:AExc->A0->AH->Prop}
structure AKB (K:PySem.W.Frag) (fd:FuncData) (ps ks:List Str) (n:Nat) (gW:List W->List W->List W) where
 g:List Value->List Value->List Value
 gV:List V->List V->List V
 kb:KBinds K fd ps ks g gV
 rep:∀(H:Hp) (ws zs:List W) (vs us:List V),(gW ws zs).length=n->waa K H ws vs->waa K H zs us->waa K H (gW ws zs) (gV vs us)
def aCallK (E:AExc->A0->AH->Prop) (sp:A5) (n:Nat) (gW:List W->List W->List W) (t tk:B8):AT:=λenv h Q=> t env h λws env1 h1=> tk env1 h1 λzs env2 h2=> (gW ws zs).length=n/\sp (gW ws zs) h2 (λr h3=> match r with
 | .val w=> Q (.val w) env2 h3
 | .own c=> Q (.own c) env2 h3) λx h3=> E x env2 h3
theorem aCallK.mono {gW:List W->List W->List W} (m:D1 sp) (a:A1 t) (b:A1 tk):A1 (aCallK E sp n gW t tk):=λenv h Q Q' k q=> a env h _ _ (λws e g z=> b e g _ _ (λzs e g z=> ⟨z.1,m _ _ _ _ _ _ (λr f y=> by
 cases r with
 | val w=> exact k _ _ _ y
 | own c=> exact k _ _ _ y) (λx f y=> y) z.2⟩) z) q
end
section
variable {X:Cx} {G:Gx} {a b c:Expr} {ta tb tc:AT} {t:C2} {pos p:Pos}
theorem v8 (h:AE X G a ta) (he:∀whole,isTrue a X.env whole=(do let v <-whole;standAt a.pos;holding [v] (truthy v)):=by intro _;rfl):AP X G a (aTst ta):=A8k h λt k=> pt_val k he
theorem A4j (ha:AE X G a ta) (hb:AE X G b tb):AP X G (.Compare a [.Lt] [b] pos) (aTst (aOp2 (oII (λ_ _=> True) λi j=> .bl (decide (i < j))) ta tb)):=A0U op_lt (A1L λ_ _ _=> .bl) ha hb (nomark _)
theorem A4Y (ha:AE X G a ta) (hb:AE X G b tb):AP X G (.Compare a [.GtE] [b] pos) (aTst (aOp2 (oII (λ_ _=> True) λi j=> .bl (decide (j<=i))) ta tb)):=A0U op_ge (A1L λ_ _ _=> .bl) ha hb (nomark _)
theorem A15 (gk:G.K=X.K) (hu:X.A.units+64 < cLine) (ha:AE X G a ta) (hb:AE X G b tb):AP X G (.Compare a [.NotEq] [b] pos) (aTst (aOp2 (E1 true) ta tb)):=A0U (A8p hu) (gk▸A3w) ha hb (nomark _)
theorem A82 (ha:AE X G a ta) (hb:AE X G b tb):AE X G (.Compare a [.Is] [b] pos) (aOp2 (F4 false) ta tb):=A1g op_isN A3U ha hb (nomark _)
theorem A8w (ha:AE X G a ta) (hb:AE X G b tb):AP X G (.Compare a [.Is] [b] pos) (aTst (aOp2 (F4 false) ta tb)):=A0U op_isN A3U ha hb (nomark _)
theorem A4E (gk:G.K=X.K) (hu:X.A.units+64 < cLine) (ha:AE X G a ta) (hb:AE X G b tb) (hm:behindInMarks .In b=false:=by rfl):AE X G (.Compare a [.In] [b] pos) (aOp2 (R9 false) ta tb):=A1g (A8i hu) (gk▸A7x) ha hb hm
def aChn (P P':Int->Int->Bool) (ta tb tc:AT):AT:=λenv h Q=> ta env h λra env1 h1=> tb env1 h1 λrb env2 h2=> match view env2 h2 ra,view env2 h2 rb with
 | .wv (.int i),.wv (.int j)=> if P i j=true then tc env2 h2 λrc env3 h3=> (match view env3 h3 rc with
   | .wv (.int k)=> Q (.val (.bl (P' j k))) env3 h3
   | _=> False) else Q (.val (.bl false)) env2 h2
 | _,_=> False
theorem aChn.mono {P P':Int->Int->Bool} (ma:A1 ta) (mb:A1 tb) (mc:A1 tc):A1 (aChn P P' ta tb tc):=λenv h Q Q' k q=> ma env h _ _ (λra e g z=> mb e g _ _ (λrb e g z=> by
 split at z
 ·refine ite2 (λy=> ?_) λy=> k _ _ _ (by rw [if_neg y] at z;exact z)
  rw [if_pos y] at z
  refine mc _ _ _ _ (λrc e g z=> ?_) z
  split at z
  ·exact k _ _ _ z
  ·exact z
 ·exact z) z) q
end
structure Ok (P:Program) (w:World) (K:PySem.W.Frag) (mg:Str->Option Value) (base:Heap) (x:Str) (st:Stmt) (k n:Nat) (ps:List Str) (sp:A5):Prop where
 m:D1 sp
 ex:∃f fd,mg x=some (.ref f)/\FunD K x x (defArgs st) (defBody st) (defScope st) [] [] f fd/\FnOk P w K mg base (Ab.CX P w) k f fd ps (M0 K n sp)
def i6 (x:Str) (st:Stmt) (ps:List Str):Prop:=∀(kV doc pm:Value) (an:Option Addr) (cdv ct:Value) (us:List Value),us.length=ps.length->bindArgs (PySem.W.fnOf x x (defArgs st) (defBody st) (defScope st) .none kV doc pm an cdv ct) ⟨us,[]⟩=pure (ps.zip us)
section
variable {X:Cx} {G:Gx} {sp:A5} {st:Stmt} {k j n:Nat} {ps:List Str} {x:Str} {p pos:Pos} {e:Expr} {es:List Expr} {t:B8} {E:AExc->A0->AH->Prop}
theorem A6X (gk:G.K=X.K) (O:Ok X.prog X.w X.K X.mg X.base x st k n ps sp) (bd:i6 x st ps) (hr:Room j X.A) (kj:k<=j) (hg:Gl X x) (tk:Takes X (cW G E))
  (ha:AA X G (e::es) t) (hn:∀env h (R:List W->A0->AH->Prop),t env h R->t env h λws e g=> ws.length=n/\R ws e g)
  (hdb:(x==("__debug__":Str))=false:=by decide) (he:starEach (e::es) X.env=(false,eval e X.env)::starEach es X.env:=by rfl) (hpl:(backTo pos (starEach es X.env)).any (·.1)=false:=by rfl):
  AE X G (.Call (.Name x p) (e::es) [] pos) (aCall E sp t):=by
 obtain ⟨f,fd,hm,FD,F⟩:=O.ex
 exact A7v (G:=G) (gk▸F) O.m (hr.mono kj) hg hm FD.kp (FD.bindsN bd) tk ha hn hdb he hpl
structure AN (X:Cx) (G:Gx) (es:List Expr) (n:Nat) (t:B8):Prop where
 aa:AA X G es t
 ln:∀env h (R:List W->A0->AH->Prop),t env h R->t env h λws e g=> ws.length=n/\R ws e g
theorem L8:AN X G [] 0 aNil:=⟨L6,A7l⟩
theorem G4 {tv:A6} (a:AV X G e tv) (b:AN X G es n t) (hs:starEach (e::es) X.env=(false,eval e X.env)::starEach es X.env:=by rfl):AN X G (e::es) (n+1) (aCons tv t):=
 ⟨B5 a b.aa hs,A6r a.mono b.ln b.aa.mono⟩
theorem c6 (gk:G.K=X.K) (O:Ok X.prog X.w X.K X.mg X.base x st k n ps sp) (bd:i6 x st ps) (hr:Room j X.A) (kj:k<=j) (hg:Gl X x) (tk:Takes X (cW G E))
  (ha:AN X G (e::es) n t) (hdb:(x==("__debug__":Str))=false:=by decide) (he:starEach (e::es) X.env=(false,eval e X.env)::starEach es X.env:=by rfl) (hpl:(backTo pos (starEach es X.env)).any (·.1)=false:=by rfl):
  AE X G (.Call (.Name x p) (e::es) [] pos) (aCall E sp t):=A6X gk O bd hr kj hg tk ha.aa ha.ln hdb he hpl
end
abbrev E0:AExc->A0->AH->Prop:=λ_ _ _=> False
theorem A7f {P:Program} {w:World} {K:PySem.W.Frag} {mg:Str->Option Value} {base:Heap} {x:Str} {st:Stmt} {f:Addr} {fd:FuncData} {ps:List Str} {n:Nat} (hm:mg x=some (.ref f)) (F:FunD K x x (defArgs st) (defBody st) (defScope st) [] [] f fd):Ok P w K mg base x st 0 n ps (λ_ _ _ _=> False):=
 ⟨λ_ _ _ _ _ _ _ _ z=> z,f,fd,hm,F,⟨λ_ _ _ _ ⟨_,_,_,_,_,_,_,_,z,_⟩=> z.elim,λ_ _ _ _ _ _ _ _ _ _ _ _ _ ⟨_,_,_,_,_,_,_,_,z,_⟩=> z.elim⟩⟩
section
variable {P:Program} {w:World} {K:PySem.W.Frag} {mg:Str->Option Value} {base:Heap} {x:Str} {st:Stmt} {f:Addr} {fd:FuncData} {N ps:List Str} {k n:Nat} {sp:A5}
theorem Ok.mk' {t:(AExc->A0->AH->Prop)->B9} (sm:D1 sp) (hm:mg x=some (.ref f)) (F:FunD K x x (defArgs st) (defBody st) (defScope st) [] [] f fd) (S:FnScope N ps (defScope st)) (hn:ps.length=n)
  (hb:∀(cdv:Value) (A:Around) (outer:List Env) (s:Shared) (H:Hp) (E:XK) (G:Gx) (E':AExc->A0->AH->Prop),Room k (A.deeper (envOfC x (defScope st) s.heap.objs.size f cdv))->G.K=K->Takes (bx P w K mg base N x (defScope st) f cdv A outer s H E) (cW G E')->
   ASs (bx P w K mg base N x (defScope st) f cdv A outer s H E) G (defBody st) (t E'))
  (hq:∀ws h Qa Ea,ws.length=n->sp ws h Qa Ea->t (G3 Ea) (E8 Qa) (G7 N.length ws) h):Ok P w K mg base x st (k+1) n ps sp:=
 ⟨sm,f,fd,hm,F,A1i [] [] F S hn hb hq⟩
end
theorem A0Q:bootBuiltins "len"=some (.builtin "len"):=by decide+kernel
theorem A84:bootBuiltins "all"=some (.builtin "all"):=by decide+kernel
theorem N2:bootBuiltins "isinstance"=some (.builtin "isinstance"):=by decide+kernel
theorem A3O:bootBuiltins "tuple"=some (.type "tuple"):=by decide+kernel
theorem A1X:bootBuiltins "list"=some (.type "list"):=by decide+kernel
theorem A1O:bootBuiltins "bool"=some (.type "bool"):=by decide+kernel
theorem A31:bootBuiltins "int"=some (.type "int"):=by decide+kernel
theorem A3u:bootBuiltins "str"=some (.type "str"):=by decide+kernel
section
variable {X:Cx} {G:Gx}
theorem R6 {x:Str} {T:String} {pos:Pos} (hg:Gl X x) (hm:X.mg x=none) (hv:bootBuiltins x=some (.type T)) (hn:x≠"__name__":=by decide) (hd:(x==("__debug__":Str))=false:=by decide):AE X G (.Name x pos) (aC (.ty T)):=
 w9 (v:=V.ty T) (pe_bltn (v:=V.ty T) hg hm hv (show _=_ from rfl) hn hd) λ_=> .ty
variable {elt tg iter:Expr} {ifs:List Expr} {scope:Scope} {own:List (Str×Nat)} {pos:Pos} {ti:I5} {g:C5} {tt:C2} {te:A6} {sl:List Nat}
theorem A1p (hc:X.calm=true) (hN:X.N.Nodup) (hi:AI X G tg iter ti) (ok:BlkOk X.N X.env.scope scope own) (hsl:∀i∈sl,i∈own.map (·.2))
  (hg:∀(s:Shared) (H:Hp) (C:Addr) (cl:List (Str×Addr)) (fp:List Addr),AG (X.blk s H scope (compEnvC scope cl C X.env) fp) G tg sl g) (ht:∀(s:Shared) (H:Hp) (C:Addr) (cl:List (Str×Addr)) (fp:List Addr),APs (X.blk s H scope (compEnvC scope cl C X.env) fp) G ifs tt)
  (he:∀(s:Shared) (H:Hp) (C:Addr) (cl:List (Str×Addr)) (fp:List Addr),AV (X.blk s H scope (compEnvC scope cl C X.env) fp) G elt te) (hs:∀x,foldedSetIterable iter X.env x=pure x:=by intro _;rfl):
  AE X G (.ListComp elt [⟨tg,iter,ifs,0⟩] scope pos) (g7 (own.map (·.2)) ti g tt te):=
 A9s hc hN hi ok hsl hg ht he (hg X.s_0 X.H_0 0 [] []).mono (ht X.s_0 X.H_0 0 [] []).mono (he X.s_0 X.H_0 0 [] []).mono hs
end
def X9 {α:Type} (d:α) (perm:List Nat) (us ws:List α):List α:=if us.isEmpty && ws.length==perm.length then perm.map λi=> ws.getD i d else []
abbrev gKw (perm:List Nat):List W->List W->List W:=X9 W.non perm
def A9Z (x:Str) (st:Stmt) (ps ks:List Str) (perm:List Nat):Prop:=∀(kV doc pm:Value) (an:Option Addr) (cdv ct:Value) (ws:List Value),ws.length=perm.length->
 bindArgs (PySem.W.fnOf x x (defArgs st) (defBody st) (defScope st) .none kV doc pm an cdv ct) ⟨[],ks.zip ws⟩=pure (ps.zip (perm.map λi=> ws.getD i .none))
theorem waa.getD' {K:PySem.W.Frag} {H:Hp}:∀{ws:List W} {vs:List V} (i:Nat),waa K H ws vs->Rep K H (ws.getD i .non) (vs.getD i .non)
 | [],vs,i,r=> by rw [r.of_nil];simpa using Rep.non
 | w::ws,vs,i,r=> by
  obtain ⟨v,t,rfl,a,b⟩:=r.of_cons
  cases i with
  | zero=> simpa using a
  | succ i=> simpa using b.getD' i
theorem Vals.getD':∀{vs:List V} {us:List Value} (i:Nat),Vals vs us->RelV (vs.getD i .non) (us.getD i .none)
 | _,_,i,.nil=> by cases i <;> rfl
 | _,_,0,.cons a b=> by simpa using a
 | _,_,i+1,.cons a b=> by simpa using Vals.getD' i b
theorem A6u {K:PySem.W.Frag} {H:Hp} {perm:List Nat} {ws zs:List W} {vs us:List V} (r:waa K H ws vs) (q:waa K H zs us):waa K H (X9 .non perm ws zs) (X9 .non perm vs us):=by
 unfold X9
 have e1:ws.isEmpty=vs.isEmpty:=by
  have:=r.length
  cases ws <;> cases vs <;> simp_all
 rw [e1,q.length]
 split
 ·clear e1
  induction perm with
  | nil=> exact .nil
  | cons i t ih=>
   rename_i hh
   refine .cons (q.getD' i) ?_
   have:∀t:List Nat,waa K H (t.map λi=> zs.getD i .non) (t.map λi=> us.getD i .non):=λt=> by
    induction t with
    | nil=> exact .nil
    | cons i t ih=> exact .cons (q.getD' i) ih
   exact this t
 ·exact .nil
theorem A6Y {perm:List Nat} {vs:List V} {us:List Value} {zs:List V} {ws:List Value} (r:Vals vs us) (q:Vals zs ws):Vals (X9 .non perm vs zs) (X9 .none perm us ws):=by
 unfold X9
 have e1:vs.isEmpty=us.isEmpty:=by cases r <;> rfl
 rw [e1,q.length]
 split
 ·have:∀t:List Nat,Vals (t.map λi=> zs.getD i .non) (t.map λi=> ws.getD i .none):=λt=> by
   induction t with
   | nil=> exact .nil
   | cons i t ih=> exact .cons (Vals.getD' i q) ih
  exact this perm
 ·exact .nil
theorem AKB.all {K:PySem.W.Frag} {x:Str} {st:Stmt} {f:Addr} {fd:FuncData} {ps ks:List Str} {perm:List Nat} (F:FunD K x x (defArgs st) (defBody st) (defScope st) [] [] f fd) (hp:ps.length=perm.length) (h0:0 < perm.length) (h:A9Z x st ps ks perm):Nonempty (AKB K fd ps ks perm.length (gKw perm)):=by
 refine ⟨⟨X9 .none perm,X9 .non perm,⟨λs us ws X hl=> ?_,λr q=> A6Y r q⟩,λH ws zs vs us _ r q=> A6u r q⟩⟩
 obtain ⟨oc,od,dV,kV,doc,pm,an,cdv,ct,osl,rfl,lk,hcd,hD,hK⟩:=F.ex
 rcases hD with ⟨_,rfl⟩ | ⟨e,_⟩
 ·unfold X9 at hl ⊢
  split at hl
  ·rename_i hc
   rw [if_pos hc]
   simp only [Bool.and_eq_true,List.isEmpty_iff,beq_iff_eq] at hc
   rw [hc.1]
   exact .of_eq (h kV doc pm an cdv ct ws hc.2)
  ·rw [hp] at hl
   exact absurd hl (by simp;omega)
 ·exact absurd rfl e
section
variable {X:Cx} {G:Gx} {sp:A5} {st:Stmt} {k j:Nat} {ps ks:List Str} {x:Str} {p pos:Pos} {kws:List Keyword} {tk:B8} {E:AExc->A0->AH->Prop} {perm:List Nat}
end
theorem Ok.up {P:Program} {w:World} {K:PySem.W.Frag} {mg:Str->Option Value} {base:Heap} {x:Str} {st:Stmt} {ps:List Str} {k k' n:Nat} {sp sp':A5} (O:Ok P w K mg base x st k n ps sp) (h:k<=k') (m:D1 sp') (i:∀ws h Q E,sp' ws h Q E->sp ws h Q E):Ok P w K mg base x st k' n ps sp':=by
 obtain ⟨f,fd,hm,FD,F⟩:=O.ex
 exact ⟨m,f,fd,hm,FD,(F.imp λvs H Q E ⟨ws,h,Qa,Ea,hl,hp,tb,r,q,z⟩=> ⟨ws,h,Qa,Ea,hl,hp,tb,r,i _ _ _ _ q,z⟩).mono h⟩
def pureSp (P:List W->RR->Prop):A5:=λws h Q _=> ∃r,P ws r/\Q r h
theorem pureSp.m {P:List W->RR->Prop}:D1 (pureSp P):=λ_ _ _ _ _ _ k _ ⟨r,p,q⟩=> ⟨r,p,k _ _ q⟩
def Bt (p:Addr) (h h':AH):Prop:=∀q,q≠p->h' q=h q
theorem Bt.refl {p:Addr} {h:AH}:Bt p h h:=λ_ _=> rfl
theorem Bt.trans {p:Addr} {h h1 h2:AH} (a:Bt p h h1) (b:Bt p h1 h2):Bt p h h2:=λq n=> (b q n).trans (a q n)
theorem Bt.upd {p:Addr} {h:AH} {o:AO}:Bt p h (C4 h p o):=λq n=> by unfold C4;rw [if_neg n]
section
variable {vs:List Nat} {g:C5} {tt:C2} {te:A6} {env:A0} {h:AH} {Q:List W->A0->AH->Prop}
inductive All2 {α β:Type} (P:α->β->Prop):List α->List β->Prop where
 | nil:All2 P [] []
 | cons {a:α} {b:β} {as:List α} {bs:List β}:P a b->All2 P as bs->All2 P (a::as) (b::bs)
theorem All2.length {α β:Type} {P:α->β->Prop} {as:List α} {bs:List β} (r:All2 P as bs):as.length=bs.length:=by
 induction r with
 | nil=> rfl
 | cons _ _ ih=> rw [length_cons,length_cons,ih]
end
section
variable {g:C5} {tb:B9} {D:AEnds}
end
section
variable {xs ys:List W} {i j:Int} {Q:RV->Prop} {v:Vw} {a b c d e w:W} {n:String}
def x8 (v:Vw) (i:Int) (Q:RV->Prop):Prop:=match v.items.bind λxs=> atI xs i with
 | some w=> Q (.val w)
 | none=> False
theorem A1q {v:Vw}:(∃xs w,v.items=some xs/\atI xs i=some w/\Q (.val w))=x8 v i Q:=by
 unfold x8
 refine propext ⟨λ⟨xs,w,e,f,q⟩=> ?_,λq=> ?_⟩
 ·rw [e]
  show match atI xs i with
   | some w=> Q (.val w)
   | none=> False
  rw [f];exact q
 ·split at q
  ·rename_i w e
   obtain ⟨xs,e1,e2⟩:=Option.bind_eq_some_iff.mp e
   exact ⟨xs,w,e1,e2,q⟩
  ·exact q.elim
theorem B0h {v b:Vw}:oIx v b Q=(match b with
 | .wv (.int i)=> match v with
  | .wv (.str x)=> x.length<=sizeLine/\∃c,L2.atI x.cps.toList i=some c/\Q (.val (.str ⟨#[c]⟩))
  | v=> x8 v i Q
 | _=> False):=by
 cases b with
 | wv w=> cases w with
  | int i=> cases v with
   | wv u=> cases u <;> first | rfl | exact A1q
   | cv c=> exact A1q
   | bad=> exact A1q
  | _=> rfl
 | _=> rfl
theorem A0o:E7 [v] Q=(match v with
 | .wv (.str x)=> x.length<=sizeLine/\Q (.val (.int x.length))
 | .wv .emp=> Q (.val (.int 0))
 | v=> match v.items with
  | some xs=> Q (.val (.int xs.length))
  | none=> False):=by
 cases v with
 | wv w=> cases w <;> simp [E7,Vw.items]
 | cv c=> cases c <;> simp [E7,Vw.items]
 | bad=> simp [E7,Vw.items]
theorem A1c:Z9 [v] Q=(match v.items with
  | some xs=> Q (.val (.tup xs))
  | none=> False):=by
 unfold Z9
 cases e:v.items <;> simp [e]
theorem A1h:L9 [v] Q=(match v.items with
  | some xs=> Q (.own (.seq xs))
  | none=> False):=by
 unfold L9
 cases e:v.items <;> simp [e]
theorem A90 {v:Vw} {neg:Bool}:F4 neg v (.wv .non) Q=(v≠ .bad/\Q (.val (.bl (if neg then !v.isNon else v.isNon)))):=by
 simp only [F4,true_and]
end
theorem d5 {i j:Int} (h0:0<=i) (h1:i < 2 ^ 200) (g0:0<=j) (g1:j < 2 ^ 200):CMulW i j:=
 wide_mul (a:=200) (b:=200) (by omega) (by omega) (by decide) (by decide) (by decide)
theorem A8O {xs:List W} {k:Nat}:O0 xs none (some (k:Int))=xs.take k:=by
 unfold O0
 rw [HT.sIx_none,HT.sIx_nat]
 simp only [List.drop_zero,Nat.sub_zero]
 rcases Nat.le_total k xs.length with h | h
 ·rw [Nat.min_eq_left h]
 ·rw [Nat.min_eq_right h,List.take_of_length_le (Nat.le_refl _),List.take_of_length_le h]
theorem A9D {v:Vw} {T:String} {Q:RV->Prop}:B6 [v,.wv (.ty T)] Q=(match v.tyName with
 | some n=> match Z1 n T with
  | some b=> Q (.val (.bl b))
  | none=> False
 | none=> False):=by
 refine propext ⟨λq=> ?_,λq=> ?_⟩
 ·obtain ⟨n,b,e,f,q⟩:∃n b,v.tyName=some n/\Z1 n T=some b/\Q (.val (.bl b)):=q
  simp only [e,f]
  exact q
 ·show ∃n b,v.tyName=some n/\Z1 n T=some b/\Q (.val (.bl b))
  split at q
  ·rename_i n e
   split at q
   ·rename_i b f
    exact ⟨n,b,e,f,q⟩
   ·exact q.elim
  ·exact q.elim
mutual
def W.fit:Nat->W->Bool
 | _,.non=> true
 | _,.bl _=> true
 | _,.int _=> true
 | _,.str _=> true
 | n+1,.tup xs=> decide (xs.length<=100000) && W.fitL n xs
 | n+1,.lst xs=> decide (xs.length<=100000) && W.fitL n xs
 | _,_=> false
def W.fitL:Nat->List W->Bool
 | _,[]=> true
 | n,x::xs=> W.fit n x && W.fitL n xs
end
theorem A7C {n:Nat} {w:W} (h:w∈I8 0 n):∃i:Nat,i < n/\w= .int i:=by
 unfold I8 at h
 obtain ⟨i,hi,rfl⟩:=List.mem_map.mp h
 exact ⟨i,List.mem_range.mp hi,by simp⟩
section
variable {P:Program} {w:World} {A:Around} {E:Value->Shared->Prop}
end
section
variable {X:Cx} {G:Gx} {e t1 t2:Expr} {sp pos tpos:Pos} {kk:Nat}
end
def aStar (i j:Nat) (tv:A6):B9:=λD env h=> tv env h λw env1 h1=> match w with
 | .tup (x::r)=> D.nx ((env1.set i (some (.val x))).set j (some (.own (.seq r)))) h1
 | .lst (x::r)=> D.nx ((env1.set i (some (.val x))).set j (some (.own (.seq r)))) h1
 | _=> False
section
variable {X:Cx} {G:Gx} {e:Expr} {tv:A6} {px py sp pos tpos:Pos} {kk i j:Nat} {x y:Str}
theorem aStar.mono (m:A1 tv):P0 (aStar i j tv):=λD D' env h l q=> m env h _ _ (λw env1 h1 z=> by
 split at z
 ·exact l.nx _ _ z
 ·exact l.nx _ _ z
 ·exact z) q
end
open Sem (wp)
structure Itr (v:Value) (C:Heap->Prop) (at_:Heap->Addr) (nx:Heap->Heap):Prop where
 go:∀(P:Program) (w:World) (A:Around) (E:Value->Shared->Prop) (s:Shared) (Q:Value->Shared->Prop),C s.heap->Q (.ref (at_ s.heap)) { s with heap:=nx s.heap }->wpAny (model P w) A (pyIter v) Q E s
section
variable {P:Program} {w:World} {A:Around} {E:Value->Shared->Prop} {s:Shared}
end
section
variable {K:PySem.W.Frag}
def b8 (ws:List W):List W:=(List.range ws.length).map λ(i:Nat)=> W.tup [.int (i:Int),ws.getD i .non]
end
def iEn (t:A6):I5:=λenv h Q=> t env h λw env' h'=> match w with
 | .tup ws=> Q (b8 ws) env' h'
 | .lst ws=> Q (b8 ws) env' h'
 | .emp=> Q [] env' h'
 | _=> False
section
variable {X:Cx} {G:Gx} {e:Expr} {tv:A6} {p pos tpos:Pos} {elts:List Expr} {kk:Nat}
theorem iEn.mono (m:A1 tv):A1 (iEn tv):=λenv h Q Q' k q=> m env h _ _ (λw e g z=> by
 split at z
 ·exact k _ _ _ z
 ·exact k _ _ _ z
 ·exact k _ _ _ z
 ·exact z) q
end
open Sem (wp)
section
variable {P:Program} {w:World} {A:Around} {E:Value->Shared->Prop} {s:Shared} {z TI TO i1 i2:Addr} {fp1 fp2:List Addr} {n1 n2 i:Nat} {P1 P2:Nat->Value->Prop} {St1 St2:Nat->Heap->Prop} {a1 a2 f0 f1:Value}
end
open Sem (wp)
section
variable {P:Program} {w:World} {A:Around} {E:Value->Shared->Prop} {s:Shared} {en it:Addr} {old:Value} {ch:List Addr}
end
section
variable {P:Program} {w:World} {A:Around} {E:Value->Shared->Prop} {s:Shared} {z TI TO i1 i2:Addr} {fp1 fp2:List Addr} {n1 n2 i:Nat} {P1 P2:Nat->Value->Prop} {St1 St2:Nat->Heap->Prop} {a1 a2 f0 f1:Value}
end
open Sem (wp)
def ItAt (k:Bool) (h:Heap) (it a:Addr) (i:Nat):Prop:=if k=true then h.IsTupleIter it a i else h.IsListIter it a i
def HpAt (k:Bool) (h:Heap) (a:Addr) (xs:Array Value):Prop:=if k=true then h.IsTuple a xs else h.IsList a xs
theorem ItAt.keep {k:Bool} {h h':Heap} {it a:Addr} {i:Nat} (x:ItAt k h it a i) (y:∀o,h.get? it=some o->h'.get? it=some o):ItAt k h' it a i:=by
 cases k with
 | true=> exact Heap.IsTupleIter.at (show h.IsTupleIter it a i from x) y
 | false=> exact Heap.IsListIter.at (show h.IsListIter it a i from x) y
theorem HpAt.keep {k:Bool} {h h':Heap} {a:Addr} {xs:Array Value} (x:HpAt k h a xs) (y:∀o,h.get? a=some o->h'.get? a=some o):HpAt k h' a xs:=by
 cases k with
 | true=> exact Heap.IsTuple.at (show h.IsTuple a xs from x) y
 | false=> exact Heap.IsList.at (show h.IsList a xs from x) y
structure EzSep (en z TI TO i1 i2 a b:Addr):Prop where
 S:ZipSep2 z TI TO i1 i2 [i1,a] [i2,b]
 ez:en≠z
 eT:en≠TI
 eO:en≠TO
 e1:en≠i1
 e2:en≠i2
 a1:a≠i1
 b2:b≠i2
def ezW (ws us:List W):List W:=b8 (List.zipWith (λa b=> W.tup [a,b]) ws us)
def W.items:W->Option (List W)
 | .tup xs=> some xs
 | .lst xs=> some xs
 | _=> none
def iEz (t:B8):I5:=λenv h Q=> t env h λws env' h'=> match ws with
 | [a,b]=> match a.items,b.items with
  | some xs,some ys=> Q (ezW xs ys) env' h'
  | _,_=> False
 | _=> False
section
variable {X:Cx} {G:Gx} {e e2:Expr} {ta:B8} {p p2 pos pos2 tpos:Pos} {elts:List Expr} {kk:Nat}
theorem iEz.mono (m:A1 ta):A1 (iEz ta):=λenv h Q Q' k q=> m env h _ _ (λws e g z=> by
 split at z
 ·split at z
  ·exact k _ _ _ z
  ·exact z
 ·exact z) q
end
section
variable {X:Cx} {G:Gx} {a b:Expr} {ta tb:AT} {pos:Pos}
end
def aAugS (f:Int->Int->Int) (to ti te:AT):B9:=λD env h=> to env h λro env1 h1=> ti env1 h1 λri env2 h2=> match view env2 h2 ri with
 | .wv (.int k)=> (0<=k/\k < 2 ^ 62)/\(match O1 env2 h2 ro with
  | some (.seq xs)=> (match xs[k.toNat]? with
   | some (.int x)=> te env2 h2 λre env3 h3=> (match view env3 h3 re with
    | .wv (.int y)=> (match O1 env3 h3 ro with
     | some (.seq ys)=> k.toNat < ys.length/\D.nx (f7 env3 ro (.seq (ys.set k.toNat (.int (f x y))))) (f9 h3 ro (.seq (ys.set k.toNat (.int (f x y)))))
     | _=> False)
    | _=> False)
   | _=> False)
  | _=> False)
 | _=> False
section
variable {X:Cx} {G:Gx} {o i e:Expr} {to ti te:AT} {tpos pos:Pos} {op:Operator} {f:Int->Int->Int}
theorem aAugS.mono (mo:A1 to) (mi:A1 ti) (me:A1 te):P0 (aAugS f to ti te):=λD D' env h l q=> mo env h _ _ (λro e g z=> mi e g _ _ (λri e g z=> by
 split at z
 ·refine ⟨z.1,?_⟩
  have z:=z.2
  split at z
  ·split at z
   ·refine me e g _ _ (λre e g z=> ?_) z
    split at z
    ·split at z
     ·exact ⟨z.1,l.nx _ _ z.2⟩
     ·exact z
    ·exact z
   ·exact z
  ·exact z
 ·exact z) z) q
end
section
variable {X:Cx} {G:Gx} {a b:Expr} {ta tb:AT} {pos p p2 pos2:Pos}
end
def aExt (to te:AT):AT:=λenv h Q=> to env h λro env1 h1=> A4G (O1 env1 h1 ro)/\te env1 h1 λre env2 h2=> match view env2 h2 re with
 | .cv (.seq ys)=> (match O1 env2 h2 ro with
  | some (.seq xs)=> xs.length+ys.length<=sizeLine/\Q (.val .non) (f7 env2 ro (.seq (xs++ys))) (f9 h2 ro (.seq (xs++ys)))
  | _=> False)
 | _=> False
section
variable {X:Cx} {G:Gx} {o e:Expr} {to te:AT} {apos cpos:Pos}
theorem aExt.mono (mo:A1 to) (me:A1 te):A1 (aExt to te):=λenv h Q Q' k q=> mo env h _ _ (λro e g ⟨i,z⟩=> ⟨i,me e g _ _ (λre e g z=> by
 split at z
 ·split at z
  ·exact ⟨z.1,k _ _ _ z.2⟩
  ·exact z
 ·exact z) z⟩) q
end
section
variable {X:Cx} {G:Gx} {i:Nat} {y:Str} {py:Pos} {elt tg iter:Expr} {ifs:List Expr} {scope:Scope} {own:List (Str×Nat)} {pos spos:Pos} {ti:I5} {g:C5} {tt:C2} {te:A6} {sl:List Nat}
end
section
variable {X:Cx} {G:Gx} {es:List Expr} {k n:Nat} {u:A2Q} {sl:List Nat} {pos:Pos}
theorem PG.or {tg:Expr} {t t':TG} (a:PG X tg t) (b:PG X tg t'):PG X tg (λv σ H Q=> t v σ H Q\/t' v σ H Q):=⟨λpins s σ H v u Q I r q=> q.elim (λz=> a.run pins s σ H v u Q I r z) λz=> b.run pins s σ H v u Q I r z⟩
end
section
variable (l:Addr) (items:Array Value) (n:Nat) (dd:Option Addr) (sl:Array (Option Value)) (x:Int) (u:Tok)
abbrev A44:Obj:={ cls:= .type "tuple",dict:=dd,data:= .seq items n,slots:=sl }
theorem A6b (u:Tok):Meets (Builtin.«tuple.__mul__» ⟨[.ref l,.int 1 u],[]⟩)
  (λ_ R s=> s.heap.get? l=some (A44 items n dd sl)/\R (.ok (.ret (Value.ref l))) s):=
 .of_wp λprog w A R s h=> by
  obtain ⟨hp,g,d,tk,os⟩:=s
  obtain ⟨hl,h⟩:=h
  have f1:=AutoSeq1.idx_int
  have c0:(decide ((1:Int) < -(2 ^ 63)) || decide ((1:Int)≥2 ^ 63))=false:=by decide
  have c1:(items.isEmpty || (1:Int)==1)=true:=by simp
  wp_walk using wpAny_loadPart' hl
  repeat (first
   | (apply wpAny_ite_false (decide_eq_false (by rw [c0];decide));wp_walk using wpAny_loadPart' hl)
   | (apply wpAny_ite_true (decide_eq_true c1);wp_walk using wpAny_loadPart' hl))
  all_goals first | exact ⟨_,rfl,h⟩ | skip
theorem A6q (hx:x<=0) (hx2: -(2 ^ 63)<=x) (hi:items.isEmpty=false):Meets (Builtin.«tuple.__mul__» ⟨[.ref l,.int x u],[]⟩)
  (λ_ R s=> s.heap.get? l=some (A44 items n dd sl)/\
   R (.ok (.ret (Value.ref s.heap.objs.size))) { s with heap:=s.heap.push { cls:=Value.type "tuple",data:=Data.seq #[] },toks:=s.toks }):=
 .of_wp λprog w A R s h=> by
  obtain ⟨hp,g,d,tk,os⟩:=s
  obtain ⟨hl,h⟩:=h
  have f1:=AutoSeq1.idx_int
  have c0:(decide (x < -(2 ^ 63)) || decide (x≥2 ^ 63))=false:=by
   rw [decide_eq_false (by omega),decide_eq_false (by omega)]
   rfl
  have c1:(items.isEmpty || x==1)=false:=by
   rw [hi,Bool.false_or]
   exact beq_eq_false_iff_ne.mpr (by omega)
  have c2:(decide (x<=0) || items.isEmpty)=true:=by
   rw [decide_eq_true hx]
   rfl
  wp_walk using wpAny_loadPart' hl
  repeat (first
   | (apply wpAny_ite_false (decide_eq_false (by rw [c0];decide));wp_walk using wpAny_loadPart' hl)
   | (apply wpAny_ite_false (decide_eq_false (by rw [c1];decide));wp_walk using wpAny_loadPart' hl)
   | (apply wpAny_ite_true (decide_eq_true c2);wp_walk using wpAny_loadPart' hl))
  all_goals first | exact ⟨_,rfl,h⟩ | skip
end
def A4D (K:PySem.W.Frag):R2:=λx y H Q=> ∃l k xs,x= .ref l/\y= .int k/\SqT K H l xs/\xs≠[]/\ -(2 ^ 63)<=k/\k<=1000/\xs.length<=1000/\
 (k=1->Q (.ref l) H)/\(k≠1->∀p,H p=none->Q (.ref p) (upd H p (.tup (List.replicate k.toNat xs).flatten)))
theorem A7t {X:Cx}:OpR X (binaryOp .Mult) (A4D X.K):=by
 intro pins s σ H x y v u Q I rx ry h
 obtain ⟨l,k,xs,rfl,rfl,hT,hne,h1,h2,hz,q1,q⟩:=h
 by_cases k2:2<=k
 ·exact op_repT pins s σ H _ _ v u Q I rx ry ⟨l,k,xs,rfl,rfl,hT,hne,k2,h2,hz,q (by omega)⟩
 cases rx
 obtain ⟨t,rfl⟩:=ry
 obtain ⟨its,r,⟨⟨cls,dd,data,sl⟩,ho,hc,n,hd⟩,hs⟩:=I.tuple hT
 simp only at hc hd
 subst hc hd
 have hle:its.length=xs.length:=r.length.symm
 have hi:its.toArray.isEmpty=false:=by
  cases its with
  | nil=> exact absurd (eq_nil_of_length_eq_zero hle.symm) hne
  | cons a b=> rfl
 have road:∀{R:Value->Shared->Prop} {E:Value->Shared->Prop},wpAny (model X.prog X.w) X.A (call (.builtin "tuple.__mul__") [.ref l,.int k t]) R E s->wpAny (model X.prog X.w) X.A (binaryOp .Mult (.ref l) (.int k t)) R E s:=λ{R E} z=>
  wpAny_binaryOp_repeat_ref (T:="tuple") (U:="int") (by decide) ⟨_,ho,rfl⟩ (λs'=> typeIs_int s' k t) noFill_tuple_mul F.fills_int_mul F.slot_int_rmul repeat_tuple F.slot_int_index.lookup
   (call_meets F.slot_int_rmul (typeIs_int s k t) F.entry_int_rmul (F.args_int_rmul_2 _ _) (int_rmul_tuple k t l its.toArray n dd sl) ⟨ho,rfl,⟨_,ho,rfl⟩,z⟩)
 by_cases k1:k=1
 ·subst k1
  exact road (call_meets F.slot_tuple_mul ⟨_,ho,rfl⟩ F.entry_tuple_mul (F.args_tuple_mul_2 _ _) (A6b l its.toArray n dd sl t) ⟨ho,.ref l,H,I,rfl,q1 rfl⟩)
 ·refine road (call_meets F.slot_tuple_mul ⟨_,ho,rfl⟩ F.entry_tuple_mul (F.args_tuple_mul_2 _ _) (A6q l its.toArray n dd sl k t (by omega) h1 hi) ⟨ho,?_⟩)
  have ek:k.toNat=0:=by omega
  have z:=q k1 s.heap.objs.size (I.hok.fresh (Nat.le_refl _))
  rw [ek] at z
  exact ⟨.ref s.heap.objs.size,_,I.laid (t':=s.toks) (o:= .tup []) (λb ob q=> Heap.get?_push_of_some _ q) (Nat.le_refl _) ⟨by decide,_,.nil,IsTup.new _ _⟩,rfl,z⟩
def oMulT:C9:=λa b Q=> match b with
 | .wv (.int j)=> match a with
  | .wv (.int i)=> CMulW i j/\Q (.val (.int (i*j)))
  | .cv (.seq xs)=> (-(2 ^ 63)<=j/\j < 2 ^ 63/\xs.length*j.toNat<=sizeLine)/\Q (.own (.seq (List.replicate j.toNat xs).flatten))
  | .wv (.tup xs)=> (-(2 ^ 63)<=j/\j<=1000/\1<=xs.length/\xs.length<=1000)/\Q (.val (.tup (List.replicate j.toNat xs).flatten))
  | _=> False
 | _=> False
theorem oMulT.mono (a b:Vw) (Q Q':RV->Prop) (k:∀r,Q r->Q' r) (q:oMulT a b Q):oMulT a b Q':=by
 unfold oMulT at q ⊢
 split at q
 ·split at q
  ·exact ⟨q.1,k _ q.2⟩
  ·exact ⟨q.1,k _ q.2⟩
  ·exact ⟨q.1,k _ q.2⟩
  ·exact q
 ·exact q
theorem A60 {K:PySem.W.Frag}:OpA K (λx y H Q=> (rI CMulW (λi j=> .int (i*j)) x y H Q\/rRep x y H Q)\/A4D K x y H Q) oMulT:=
 ⟨oMulT.mono,λa b x y H Q0 Q ra rb q k=> by
  unfold oMulT at q
  split at q
  ·rename_i j
   have ey:y= .int j:=rb.int
   split at q
   ·rename_i i
    have ex:x= .int i:=ra.int
    exact .inl (.inl ⟨i,j,ex,ey,q.1,k _ _ (.val q.2 .int)⟩)
   ·rename_i xs
    obtain ⟨p,ex,vs,l,rl⟩:=ra
    exact .inl (.inr ⟨p,j,vs,ex,ey,l,q.1.1,q.1.2.1,by rw [<-rl.length];exact q.1.2.2,λp' n=> k _ _ (.lst n q.2 (rl.rep _))⟩)
   ·rename_i xs
    obtain ⟨p,vs,ex,l,rl⟩:=Rep.of_tupT (K:=K) (H:=H) ra
    refine .inr ⟨p,j,vs,ex,ey,l.sq,λe=> ?_,q.1.1,q.1.2.1,by rw [<-rl.length];exact q.1.2.2.2,λe=> ?_,λ_ p' n=> k _ _ (.tup n q.2 (rl.rep _))⟩
    ·have:=rl.length
     rw [e] at this
     have:=q.1.2.2.1
     simp_all
    ·subst e
     have q2:=q.2
     rw [show (1:Int).toNat=1 from rfl] at q2
     simp only [List.replicate,flatten_cons,List.flatten_nil,append_nil] at q2
     exact k _ _ (.val q2 (.tup l rl))
   ·exact q.elim
  ·exact q.elim⟩
theorem d0 {X:Cx} {G:Gx} {a b:Expr} {ta tb:AT} {pos:Pos} (gk:G.K=X.K) (ha:AE X G a ta) (hb:AE X G b tb):AE X G (.BinOp a .Mult b pos) (aOp2 oMulT ta tb):=j5 ((op_mulW.or op_rep).or A7t) (gk▸A60) ha hb
end Ab
namespace HT
open PySem PySem.Spec PyProof.Rows
section
variable {prog:Program} {w:World} {A:Around} {E:Value->Shared->Prop} {s:Shared}
end
end HT
namespace Ab
open PySem PySem.Spec PyProof.Rows L2 RZ
section
variable {X:Cx} {e st:Expr} {te ts:TE} {pos p2:Pos}
end
theorem waa.reverse {K:PySem.W.Frag} {H:Hp}:∀{ws:List W} {vs:List V},waa K H ws vs->waa K H ws.reverse vs.reverse
 | [],vs,h=> by rw [h.of_nil];exact .nil
 | w::ws,vs,h=> by
  obtain ⟨v,r,rfl,a,t⟩:=h.of_cons
  rw [reverse_cons,reverse_cons]
  exact t.reverse.append (.cons a .nil)
def oBack:C7:=λas Q=> match as with
 | [.wv (.tup xs),.wv (.int i)]=> i= -1/\Q (.val (.tup xs.reverse))
 | _=> False
theorem oBack.mono {as:List Vw} {Q Q':RV->Prop} (k:∀r,Q r->Q' r) (q:oBack as Q):oBack as Q':=by
 unfold oBack at q ⊢
 split at q
 ·exact ⟨q.1,k _ q.2⟩
 ·exact q.elim
section
variable {X:Cx} {G:Gx} {a st:Expr} {ta ts:AT} {pos p2:Pos}
end
def ins (a:Int):List Int->List Int
 | []=> [a]
 | b::r=> if a<=b then a::b::r else b::ins a r
def srt:List Int->List Int
 | []=> []
 | a::r=> ins a (srt r)
def A3W:C7:=oInts λns Q=> Q (.own (.seq ((srt ns).map W.int)))
section
variable {G:Gx} {env env' env2:A0} {h h':AH} {σ:L2.St} {H H1 H2:Hp} {p:Addr}
end
def A1t {α:Type}:List (α×α)->List α
 | []=> []
 | p::r=> p.1::p.2::A1t r
structure AD (X:Cx) (G:Gx) (pos:Pos) (keys:List (Option Expr)) (values:List Expr) (t:B8):Prop where
 mono:A1 t
 all:keys.all (·.isSome)=true
 len:keys.length=values.length
 pp:∃trs,PPs X pos keys values trs/\∀σ H Q env h,BS G env h σ H->(t env h λws env' h'=> ∀ps H',BS G env' h' σ H'->Xt env h σ H env' h' H'->waa G.K H' ws (A1t ps)->Q ps H')->tPairs trs σ H Q
section
variable {X:Cx} {G:Gx} {pos:Pos}
end
def A4X (kvs:List (W×W)) (k:Key) (d:W):W:=((kvs.find? λp=> decide (Y0 p.1=some k)).map (·.2)).getD d
def A4m (kvs:List (W×W)):Prop:=kvs≠[]/\∀p∈kvs,(Y0 p.1).isSome=true
def aGetD (i:Nat) (tk td:A6):AT:=λenv h Q=> (∃kvs,env[i]? =some (some (.own (.map kvs))))/\tk env h λw env1 h1=> td env1 h1 λd env2 h2=>
 ∃kvs key,env2[i]? =some (some (.own (.map kvs)))/\A4m kvs/\Y0 w=some key/\Q (.val (A4X kvs key d)) env2 h2
theorem aGetD.mono {i:Nat} {tk td:A6} (m:A1 tk) (n:A1 td):A1 (aGetD i tk td):=λenv h Q Q' k q=>
 ⟨q.1,m env h _ _ (λw e g z=> n e g _ _ (λd e g ⟨kvs,key,z1,z2,z3,z4⟩=> ⟨kvs,key,z1,z2,z3,k _ _ _ z4⟩) z) q.2⟩
section
variable {X:Cx} {G:Gx}
end
section
variable {X:Cx} {G:Gx}
def aPrm (t:AT):A6:=λenv h Q=> t env h λr env' h'=> match r with
 | .own c=> ∀p,h' p=none->Q (.ref p) env' (C4 h' p (.cont c))
 | _=> False
theorem aPrm.mono {t:AT} (m:A1 t):A1 (aPrm t):=λenv h Q Q' k q=> m env h _ _ (λr e g z=> by
 cases r with
 | own c=> exact λp n=> k _ _ _ (z p n)
 | val w=> exact z.elim
 | slot i=> exact z.elim) q
def A3x (h:AH) (p:Addr):AH:=λb=> if b=p then none else h b
def waA:List W->AH->(List W->AH->Prop)->Prop
 | [],h,Q=> Q [] h
 | w::ws,h,Q=> match w with
  | .ref p=> (match h p with
   | some (.cont c)=> waA ws (A3x h p) λus h'=> Q (c.fz::us) h'
   | _=> False)
  | _=> False
theorem waA.mono:∀{ws:List W} {h:AH} {Q Q':List W->AH->Prop},(∀us h',Q us h'->Q' us h')->waA ws h Q->waA ws h Q'
 | [],h,Q,Q',k,q=> k _ _ q
 | w::ws,h,Q,Q',k,q=> by
  cases w with
  | ref p=>
   unfold waA at q ⊢
   dsimp only at q ⊢
   split at q
   ·exact waA.mono (λus h' q=> k _ _ q) q
   ·exact q.elim
  | _=> exact q.elim
end
end Ab
namespace Ab
open PySem PySem.Spec PyProof.Rows L2 LamX
def w7 (f:Addr) (q:Str) (params:Arguments) (body:Expr) (scope:Scope) (cl:List (Str×Addr)) (c:Addr):HO:=
 .ext λh=> ∃pm ctv:Value,h.get? f=some (PySem.W.kla_obj "<lambda>" q params body scope cl pm c ctv)
theorem A7z {f c:Addr} {q:Str} {params:Arguments} {body:Expr} {scope:Scope} {cl:List (Str×Addr)}:NT (w7 f q params body scope cl c):=λps e=> by
 unfold w7 at e;cases e
theorem A7A {c:Addr} {q:Str}:NT (CodeO c q):=λps e=> by
 unfold CodeO at e;cases e
section
variable {X:Cx} {pins:List (Addr×Obj)} {σ:L2.St} {H:Hp} {s:Shared} {T:List (Addr×Str)} {c P:Addr} {params:Arguments} {body:Expr} {scope:Scope} {pos:Pos}
structure Made (X:Cx) (T:List (Addr×Str)) (P:Addr) (params:Arguments) (body:Expr) (scope:Scope) (H H1:Hp) (f c:Addr):Prop where
 but:∀b o,H b=some o->b≠P->H1 b=some o
 tab:∃ps,H1 P=some (.tbl ps)
 tabs:Tabs T H1
 new:H f=none
 lam:H1 f=some (w7 f (X.env.qual++"<lambda>") params body scope (cloFrom X.env.cells scope.names []) c)
 code:H1 c=some (CodeO c (X.env.qual++"<lambda>"))
end
abbrev ALT:=A0->AH->(Addr->List W->A0->AH->Prop)->Prop
def A9d (t:ALT):Prop:=∀env h Q Q',(∀f ws e k,Q f ws e k->Q' f ws e k)->t env h Q->t env h Q'
structure LamD where
 params:Arguments
 body:Expr
 scope:Scope
def waw (X:Cx) (d:LamD) (H:Hp) (f:Addr):Prop:=
 ∃c,H f=some (w7 f (X.env.qual++"<lambda>") d.params d.body d.scope (cloFrom X.env.cells d.scope.names []) c)/\H c=some (CodeO c (X.env.qual++"<lambda>"))
def cL (X:Cx) (G:Gx) (d:LamD) (t:ALT):TA:=λσ H Q=> ∃env h,BS G env h σ H/\t env h λf ws env' h'=> ∀vs H',BS G env' h' σ H'->Xt env h σ H env' h' H'->waa G.K H' ws vs->waw X d H' f->Q vs H'
structure AL (X:Cx) (G:Gx) (d:LamD) (es:List Expr) (n:Nat) (t:ALT):Prop where
 mono:A9d t
 pa:PA X es (cL X G d t)
 ln:∀env h (R:Addr->List W->A0->AH->Prop),t env h R->t env h λf ws e g=> ws.length=n/\R f ws e g
theorem BS.nmu {G:Gx} {env:A0} {h:AH} {σ:L2.St} {H:Hp} (S:BS G env h σ H) {p:Addr} {o:HO} (e:H p=some o) (i:¬Mu o):h p=none/\¬wac env σ p:=by
 refine ⟨?_,λ⟨j,c,a,b⟩=> ?_⟩
 ·cases q:h p with
  | none=> rfl
  | some u=>
   obtain ⟨o',e',m⟩:=(S.hp p u q).there
   rw [e] at e';cases e'
   exact absurd m i
 ·obtain ⟨p',b',cr,_⟩:=S.own j c a
  rw [b] at b';cases b'
  exact i (cr.mu_at e)
theorem BS.but {G:Gx} {env:A0} {h:AH} {σ:L2.St} {H H1:Hp} (S:BS G env h σ H) (b:∀p o,H p=some o->NT o->H1 p=some o) (th:∀p o,H p=some o->∃u,H1 p=some u) (t:waf G.K H1):
  BS G env h σ H1/\Xt env h σ H env h H1:=by
 have k:Keeps H H1:=λp o e i=> b p o e i.nt
 refine ⟨⟨S.len,λi w e=> ?_,λi c e=> ?_,S.uni,λa o e=> ?_,λp o e n y=> b p o (S.fr p o e n y) y,S.ext,λp o e=> ?_,t⟩,⟨λp o e _ _ y=> b p o e y,λp o e n=> (by rw [n] at e;cases e),th,λi c e=> ⟨c,e⟩⟩⟩
 ·obtain ⟨v,x,y⟩:=S.val i w e
  exact ⟨v,x,Rep.mono k w v y⟩
 ·obtain ⟨p,x,y,n,n0⟩:=S.own i c e
  obtain ⟨o,eo,m⟩:=y.there
  exact ⟨p,x,y.mono k ((b p o eo m.nt).trans eo.symm),n,n0⟩
 ·obtain ⟨u,eu,m⟩:=(S.hp a o e).there
  exact (S.hp a o e).mono k ((b a u eu m.nt).trans eu.symm)
 ·obtain ⟨u,y⟩:=S.tr p o e
  exact th p u y
section
variable {X:Cx} {G:Gx} {d:LamD} {e:Expr} {es:List Expr} {c P:Addr} {pos:Pos} {n:Nat}
theorem A6H {f c:Addr} {q:Str} {params:Arguments} {body:Expr} {scope:Scope} {cl:List (Str×Addr)}:¬Mu (w7 f q params body scope cl c):=λz=> z
theorem A54 {c:Addr} {q:Str}:¬Mu (CodeO c q):=λz=> z
theorem waw.xt {env env':A0} {h h':AH} {σ:L2.St} {H H':Hp} {f:Addr} (S:BS G env h σ H) (x:Xt env h σ H env' h' H') (l:waw X d H f):waw X d H' f:=by
 obtain ⟨c,a,b⟩:=l
 obtain ⟨a1,a2⟩:=S.nmu a A6H
 obtain ⟨b1,b2⟩:=S.nmu b A54
 exact ⟨c,x.fr _ _ a a1 a2 A7z,x.fr _ _ b b1 b2 A7A⟩
structure LamAt (X:Cx) (d:LamD) (c P:Addr):Prop where
 TB:TabB X.base X.mg c P
 code:X.env.code= .ref c
 mem:(P,X.env.qual++"<lambda>")∈r9 X.K
 uni:∀p∈r9 X.K,p.1=P->p.2=X.env.qual++"<lambda>"
 dfl:defaultsOf d.params X.env=([],[])
 free:X.Ok->∀y∈d.scope.names,y.2= .free->∃c,X.env.cells.lookup y.1=some c
end
structure LamP (sc scope:Scope) (N ps:List Str):Prop where
 kind:scope.kind= .function
 co:scope.isCoroutine=false
 gen:scope.isGenerator=false
 own:∀y∈scope.names,y.2≠ .cell/\(y.2= .local->y.1∈ps)
 par:∀x∈ps,scope.names.lookup x=some .local/\x∉N
 nd:ps.Nodup
 free:∀y∈scope.names,y.2= .free->sc.names.lookup y.1=some .cell\/sc.names.lookup y.1=some .free
theorem LamP.has {X:Cx} {scope:Scope} {N ps:List Str} (L:LamP X.env.scope scope N ps) (ok:X.Ok):∀y∈scope.names,y.2= .free->∃c,X.env.cells.lookup y.1=some c:=λy hy e=>
 (L.free y hy e).elim (λk=> ok.has _ (.inl k)) λk=> ok.has _ (.inr k)
abbrev A5E (X:Cx) (A:Around) (outer:List Env) (s:Shared) (H:Hp) (E:XK) (scope:Scope) (f c:Addr) (ps:List Str):Cx:={ lamCx X A outer s H E scope f c with N:=X.N++ps,xe:=λe r=> wpAny (model X.prog X.w) (A.deeper (lamEnv X scope s.heap.objs.size f c)) (leaving (lamEnv X scope s.heap.objs.size f c) e) (λ_ u=> Ab.CX X.prog X.w outer H s E e u) (λe2 u=> Ab.CX X.prog X.w outer H s E e2 u) r }
section
variable {X:Cx} {pins:List (Addr×Obj)} {σ:L2.St} {H HZ:Hp} {s s1:Shared}
end
structure LamHas (Z:Cx) (G:Gx) (f:Addr) (n:Nat) (sp:A5):Prop where
 m:D1 sp
 fn:∀(s:Shared) (H:Hp),(∀p o,G.H0 p=some o->G.h0 p=none->NT o->H p=some o)->HOk Z.prog Z.w H s.heap->PySem.W.FnAt f s.heap
 run:∀(s:Shared) (H:Hp) (us:List Value) (vs:List V) (Q:VK) (E:XK),(∀p o,G.H0 p=some o->G.h0 p=none->NT o->H p=some o)->Un Z.fs [] Z.H_0 H Z.s_0.heap s.heap->Env0 Z.prog Z.w Z.K Z.mg Z.base Z.A Z.stack s H->Vals vs us->M0 Z.K n sp vs H Q E->
  codeAny (model Z.prog Z.w) Z.A (.call (.ref f) ⟨us,[]⟩) (CR (Ab.CX Z.prog Z.w) Z.stack Z.prog Z.w H s Q E) s
def q9 (env:A0) (ws:List W):A0:=env.map (λo=> match o with
 | some (.val w)=> some (.val w)
 | _=> none)++ws.map λw=> some (.val w)
theorem A1C {env:A0} {ws:List W} {i:Nat} {sv:SV} (e:(q9 env ws)[i]? =some (some sv)):(∃w,sv= .val w/\env[i]? =some (some (.val w))/\i < env.length)\/∃w,sv= .val w/\env.length<=i/\ws[i - env.length]? =some w:=by
 unfold q9 at e
 by_cases hi:i < env.length
 ·rw [getElem?_append_left (by simpa using hi),getElem?_map] at e
  cases q:env[i]? with
  | none=> rw [q] at e;cases e
  | some o=>
   rw [q] at e
   cases o with
   | none=> cases e
   | some sv'=>
    cases sv' with
    | val w=> cases e;exact .inl ⟨w,rfl,rfl,hi⟩
    | own c=> cases e
 ·rw [getElem?_append_right (by simpa using hi),length_map,getElem?_map] at e
  cases q:ws[i - env.length]? with
  | none=> rw [q] at e;cases e
  | some w=> rw [q] at e;cases e;exact .inr ⟨w,rfl,by omega,rfl⟩
theorem BS.lam {K:PySem.W.Frag} {G:Gx} {env:A0} {h0 h:AH} {σ:L2.St} {H0 H:Hp} {ws:List W} {vs:List V} (gk:G.K=K) (S:BS G env h0 σ H0) (k:Keeps H0 H) (hp:∀a o,h a=some o->wam K H a o) (tb:waf K H) (r:waa K H ws vs):
  BS ⟨K,h,H⟩ (q9 env ws) h (σ++vs.map some) H:=by
 subst gk
 refine ⟨?_,λi w e=> ?_,λi c e=> ?_,λi j c c' p e=> ?_,hp,λp o e _ _=> e,λa o e n=> (by have n:h a=none:=n;rw [n] at e;cases e),λp o e=> ⟨o,e⟩,tb⟩
 ·unfold q9
  rw [length_append,length_map,length_map,length_append,length_map,S.len,r.length]
 ·rcases A1C e with ⟨w',z,y,hi⟩ | ⟨w',z,hi,y⟩
  ·cases z
   obtain ⟨v,ev,rv⟩:=S.val i w y
   exact ⟨v,by rw [getElem?_append_left (by rw [<-S.len];exact hi)];exact ev,Rep.mono k w v rv⟩
  ·cases z
   obtain ⟨v,ev,rv⟩:=r.get y
   refine ⟨v,?_,rv⟩
   rw [getElem?_append_right (by rw [<-S.len];exact hi),<-S.len,getElem?_map,ev]
   rfl
 ·rcases A1C e with ⟨w',z,_⟩ | ⟨w',z,_⟩ <;> cases z
 ·rcases A1C e with ⟨w',z,_⟩ | ⟨w',z,_⟩ <;> cases z
def A4i (t:(AExc->A0->AH->Prop)->AT) (env:A0):A5:=λws h Qa Ea=> ∃Ein:AExc->A0->AH->Prop,(∀x e k,Ein x e k->G3 Ea x e k)/\t Ein (q9 env ws) h (E8 Qa).rt
section
variable {X:Cx} {G:Gx} {env:A0} {h:AH} {σ:L2.St} {H:Hp} {s:Shared} {pins:List (Addr×Obj)} {d:LamD} {f g c:Addr} {cdg:Value} {Ng:List Str} {qg:Str} {sg:Scope} {ps:List Str} {k:Nat} {t:(AExc->A0->AH->Prop)->AT} {Eg:XK}
end
section
variable {X:Cx} {G:Gx} {sp:A5} {n i:Nat} {f:Addr} {a:Str} {p pos:Pos} {e:Expr} {es:List Expr} {t:B8} {E:AExc->A0->AH->Prop}
end
section
variable {X:Cx} {G:Gx} {d:LamD} {n kg kl:Nat} {g:Addr} {fd:FuncData} {x:Str} {st:Stmt} {Ng psg ps:List Str} {p pos:Pos} {e:Expr} {es:List Expr} {t:ALT} {tb:(AExc->A0->AH->Prop)->AT} {tc:Addr->A5->(AExc->A0->AH->Prop)->B9} {E:AExc->A0->AH->Prop}
end
structure MakesL (K:PySem.W.Frag) (mg:Str->Option Value) (base:Heap) (q:Str) (cdv:Value):Prop where
 ex:∃c P,cdv= .ref c/\TabB base mg c P/\(P,q)∈r9 K/\∀p∈r9 K,p.1=P->p.2=q
def A8S (K:PySem.W.Frag) (f:Addr) (cdv:Value):Prop:=∃oc od fd osl,K.lookup f=some ⟨oc,od,.func fd,osl⟩/\fd.code=cdv
section
variable {P:Program} {w:World} {K:PySem.W.Frag} {mg:Str->Option Value} {base:Heap} {x qual:Str} {params:Arguments} {body:List Stmt} {scope:Scope} {f:Addr} {fd:FuncData} {N ps:List Str} {k n:Nat} {sp:A5} {st:Stmt}
end
section
variable {X:Cx} {G:Gx} {d:LamD} {e:Expr} {es:List Expr} {pos:Pos} {n:Nat} {q:Str} {N ps:List Str}
end
end Ab
namespace Ab
open PySem PySem.Spec PyProof.Rows L2 RZ
def l8 (o:Obj):Bool:=match o.cls with
 | .type c=> decide (c="list")
 | _=> false
def frK (g:Addr->Option Obj) (as:List Addr):PySem.W.Frag:=He.frG (λa=> (g a).bind λo=> if l8 o=true then none else some o) as
theorem A85 {as:List Addr} {h:Heap}:(frK h.get? as).In h:=λa o e=> by
 have z:=He.frG_at (g:=λa=> (h.get? a).bind λo=> if l8 o=true then none else some o) as e
 cases q:h.get? a with
 | none=> rw [q] at z;cases z
 | some u=>
  rw [q] at z
  have z:(if l8 u=true then none else some u)=some o:=z
  split at z
  ·cases z
  ·exact z
def A0v (K:PySem.W.Frag):Prop:=∀a o,K.lookup a=some o->o.cls≠ .type "list"
theorem A8f {g:Addr->Option Obj} {as:List Addr}:A0v (frK g as):=λa o e c=> by
 have z:=He.frG_at (g:=λa=> (g a).bind λo=> if l8 o=true then none else some o) as e
 cases q:g a with
 | none=> rw [q] at z;cases z
 | some u=>
  rw [q] at z
  have z:(if l8 u=true then none else some u)=some o:=z
  split at z
  ·cases z
  ·rename_i n
   cases z
   exact n (by unfold l8;rw [c];rfl)
def A0g (g:Addr->Option Obj) (a:Addr):List Addr:=match g a with
 | some o=> match o.data with
  | .seq its _=> its.toList.flatMap He.refV
  | .dict es _=> es.toList.flatMap λe=> He.refV e.val
  | .func fd=> He.refV fd.code++He.refV fd.defaults++He.refV fd.kwdefaults++fd.closure.map (·.2)
  | .cls cd=> [cd.ns]
  | .cell (some v)=> He.refV v
  | _=> []
 | none=> []
def asK (g:Addr->Option Obj):List Addr:=
 let l1:=A0g g mainGlobals
 let l2:=l1.flatMap (A0g g)
 let l3:=l2.flatMap (A0g g)
 let l4:=l3.flatMap (A0g g)
 mainGlobals::(l1++l2++l3++l4)
def asL (g:Addr->Option Obj) (ls:List (Str×Option Str)):List Addr:=match ls with
 | []=> asK g
 | l::r=> asK g++A4f::(l::r).map λx=> He.codeOf (frK g (asK g)) x
abbrev AlK:Type:=He.AlD×Bool
def A5M (g:Addr->Option Obj) (K:PySem.W.Frag):Bool:=(b5 K).all λp=> PySem.W.codeHdIn K p.1.1 p.1.2 && (match K.lookup p.1.2 with
 | none=> true
 | some _=> false) && (match g p.1.2 with
 | some o=> He.emptyTab o
 | none=> false)
def A2J (K:PySem.W.Frag) (h:Heap):Prop:=∀p∈b5 K,PySem.W.codeHdIn K p.1.1 p.1.2=true/\K.lookup p.1.2=none/\h.get? p.1.2=some { cls:= .none,data:= .fields #[] }
theorem A71 {h:Heap} {K:PySem.W.Frag} (e:A5M h.get? K=true):A2J K h:=λp hp=> by
 have z:=all_eq_true.mp e p hp
 simp only [Bool.and_eq_true] at z
 obtain ⟨⟨z1,z2⟩,z3⟩:=z
 refine ⟨z1,?_,?_⟩
 ·cases q:K.lookup p.1.2 with
  | none=> rfl
  | some o=> rw [q] at z2;cases z2
 ·cases q:h.get? p.1.2 with
  | none=> rw [q] at z3;cases z3
  | some o=> rw [q] at z3;rw [He.emptyTab_eq z3]
def A2N (fa:List He.Fa) (fn:List He.DefD) (ex:PySem.W.Frag->Bool) (ls:List (Str×Option Str)) (g:Addr->Option Obj):AlK:=
 let K:=frK g (asL g ls)
 (He.obsD fa fn K,ex K && A5M g K)
def A4K (fa:List He.Fa) (fn:List He.DefD) (ex:PySem.W.Frag->Bool) (ls:List (Str×Option Str)):PySem.W.Hook where
 α:=AlK
 obs:=λs=> A2N fa fn ex ls s.heap.get?
 val:=λ_=> (He.valD fn,true)
 says:=λ_ h=> ∃K:PySem.W.Frag,K.In h/\(He.SaysD fa fn K/\ex K=true)/\A0v K/\A2J K h
 of:=λ_ _ e=> by
  have z:=congrArg Prod.snd e
  have z:=Bool.and_eq_true_iff.mp z
  exact ⟨_,A85,⟨congrArg Prod.fst e,z.1⟩,A8f,A71 z.2⟩
 keeps:=λ_ _ _ ⟨K,hK,c,n,t⟩ k=> ⟨K,PySem.W.Frag.In.keeps hK k,c,n,λp hp=> ⟨(t p hp).1,(t p hp).2.1,k _ _ (t p hp).2.2⟩⟩
theorem A7n {fa:List He.Fa} {fn:List He.DefD} {ex:PySem.W.Frag->Bool} {ls:List (Str×Option Str)} {g:Addr->Option Obj} {s:Shared} (h:∀a,g a=s.heap.get? a):A2N fa fn ex ls g=(A4K fa fn ex ls).obs s:=by
 have e:g=s.heap.get?:=funext h
 rw [e] <;> rfl
theorem FunD.one {K:PySem.W.Frag} {x q x' q':Str} {a a':Arguments} {b b':List Stmt} {sc sc':Scope} {d d':List V} {k k':List (Str×V)} {f:Addr} {fd fd':FuncData} (F:FunD K x q a b sc d k f fd) (F':FunD K x' q' a' b' sc' d' k' f fd'):fd=fd':=by
 obtain ⟨oc,od,dV,kV,doc,pm,an,cdv,ct,osl,_,lk,_⟩:=F.ex
 obtain ⟨oc',od',dV',kV',doc',pm',an',cdv',ct',osl',_,lk',_⟩:=F'.ex
 rw [lk] at lk'
 cases lk'
 rfl
def A19 (sp:A5):Prop:=∀(ns:List Int),ns.length<=63->sp [W.lst (ns.map .int)] (λ_=> none) (λr _=> r= .val (.bl true)) λ_ _=> False
def A5A (K:PySem.W.Frag):Sp:=λvs H Q _=> ∃(a:Addr) (ns:List Int),vs=[.ref a]/\ns.length<=63/\SqL K H a (ns.map V.int)/\(∀p∈b5 K,H p.1.2=some (.tbl #[]))/\(∀H',Q (.bl true) H')
theorem A3o {K:PySem.W.Frag} {sp:A5} (ls:A19 sp) {H:Hp} {a:Addr} {ns:List Int} {Q:VK} {E:XK} (hl:ns.length<=63) (hS:LsF H a (ns.map V.int)) (hT:waf K H) (q:∀H',Q (.bl true) H'):M0 K 1 sp [.ref a] H Q E:=
 ⟨[.lst (ns.map .int)],λ_=> none,_,_,rfl,(λ_ _ e=> nomatch e),hT,.cons (.lst hS .ints) .nil,ls ns hl,λr h' v H' e _ rr=> by
  subst e
  have z:=Rep.of_bl (K:=K) (H:=H') rr
  rw [z];exact q H',λ_ _ _ _ _ z _ _=> z.elim⟩
theorem A3h {K:PySem.W.Frag} {H:Hp} (h:∀p∈b5 K,H p.1.2=some (.tbl #[])):waf K H:=λp hp=> by
 obtain ⟨q,hq,rfl⟩:=List.mem_map.mp hp
 exact LamX.TabS.nil (h q hq)
theorem A8Z {P:Program} {w:World} {K:PySem.W.Frag} {mg:Str->Option Value} {base:Heap} {k:Nat} {f:Addr} {fd:FuncData} {ps:List Str} {sp:A5} (ls:A19 sp) (no:A0v K) (F:FnOk P w K mg base (Ab.CX P w) k f fd ps (M0 K 1 sp)) (hp:ps.length=1):
  FnOk P w K mg base (Ab.CX P w) k f fd ps (A5A K):=by
 refine ⟨λvs H Q E ⟨a,ns,e,_⟩=> by rw [e,hp];rfl,λA outer s H args us vs Q E hr e0 hb hv ⟨a,ns,ev,hl,hS,hT,q⟩=> ?_⟩
 subst ev
 rcases hS with (h | h) | ⟨o,its,n,l,c,_⟩
 ·
  obtain ⟨l1,its,n,rv,ho⟩:=e0.hok a _ h
  have keep:∀b o,H b=some o->(∀xs,o≠ .lst xs)->upd H a (.frz { cls:= .type "list",data:= .seq its.toArray n } (.lst (ns.map V.int))) b=some o:=λb o e m=> by
   have ne:b≠a:=λz=> by
    rw [z,h] at e
    exact m _ (Option.some.inj e).symm
   rw [upd_ne ne];exact e
  have non:∀b,H b=none->upd H a (.frz { cls:= .type "list",data:= .seq its.toArray n } (.lst (ns.map V.int))) b=none:=λb e=> by
   have ne:b≠a:=λz=> by rw [z,h] at e;cases e
   rw [upd_ne ne];exact e
  have sub:∀b o,ObjOk P w H s.heap b o->ObjOk P w (upd H a (.frz { cls:= .type "list",data:= .seq its.toArray n } (.lst (ns.map V.int)))) s.heap b o:=by
   intro b o
   induction o with
   | dT kvs=>
    rintro ⟨a1,a2,xs,a3,a4⟩
    exact ⟨a1,a2,xs,a3.mono λx y ⟨b1,b2,b3⟩=> ⟨b1,keep _ _ b2 (λxs z=> by cases z),b3⟩,a4⟩
   | ins C dx fs=>
    rintro ⟨a1,a2⟩
    exact ⟨keep _ _ a1 (λxs z=> by cases z),a2⟩
   | frz o u ih=> rintro ⟨a1,a2⟩;exact ⟨a1,ih a2⟩
   | _=> exact id
  have hok:HOk P w (upd H a (.frz { cls:= .type "list",data:= .seq its.toArray n } (.lst (ns.map V.int)))) s.heap:=λb o e=> by
   by_cases hb:b=a
   ·subst hb
    rw [upd_same] at e
    cases e
    exact ⟨ho,l1,its,n,rv,ho⟩
   ·rw [upd_ne hb] at e
    exact sub b o (e0.hok b o e)
  have hT2:waf K (upd H a (.frz { cls:= .type "list",data:= .seq its.toArray n } (.lst (ns.map V.int)))):=A3h λp m=> keep _ _ (hT p m) λxs z=> by cases z
  have run:=F.run A outer s _ args us [.ref a] Q E hr ⟨e0.frames,e0.mod,λb o e=> ⟨(e0.bs b o e).1,non b (e0.bs b o e).2⟩,e0.bsz,e0.funs,λb m=> non b (e0.frf b m),hok,e0.bare⟩ hb hv (A3o ls hl ⟨_,upd_same⟩ hT2 q)
  refine codeAny_mono run λr s' z=> ?_
  cases r with
  | error e=>
   have nn:∀b,upd H a (.frz { cls:= .type "list",data:= .seq its.toArray n } (.lst (ns.map V.int))) b=none->H b=none:=λb e=> by
    by_cases hb:b=a
    ·subst hb;rw [upd_same] at e;cases e
    ·rw [upd_ne hb] at e;exact e
   rcases z with ⟨a',B,H',cls,d,e1,e2,e3,e4,e5,e6,e7,e8⟩ | ⟨a',B,H',cls,d,e1,e2,e3,e4,e5,e6,e7,e8⟩
   ·exact .inl ⟨a',B,H',cls,d,e1,e2,e3,⟨λb o x y=> e4.keep b o x (non b y),e4.slot,λb o x y=> e4.free b o x (non b y),e4.there,λb xs x=> e4.tups b xs (keep _ _ x λxs z=> by cases z),λb o u x=> e4.frzs b o u (keep _ _ x λxs z=> by cases z),λb ps x=> e4.tbls b ps (keep _ _ x λxs z=> by cases z)⟩,e5,e6,e7,e8⟩
   ·exact .inr ⟨a',B,H',cls,d,e1,e2,e3,⟨λb o x y=> e4.keep b o x (non b y),e4.slot,λb o x y=> e4.free b o x (non b y),e4.there,λb xs x=> e4.tups b xs (keep _ _ x λxs z=> by cases z),λb o u x=> e4.frzs b o u (keep _ _ x λxs z=> by cases z),λb ps x=> e4.tbls b ps (keep _ _ x λxs z=> by cases z)⟩,e5,e6,e7,e8⟩
  | ok fl=>
   cases fl with
   | ret u=>
    obtain ⟨v,H',e1,e2,e3,e4,e5,e6⟩:=z
    exact ⟨v,H',e1,e2,⟨λb o x y=> e3.keep b o x (non b y),λb o x y=> e3.slot b o x (non b y),λb o x y=> e3.free b o x (non b y),e3.there,λb xs x=> e3.tups b xs (keep _ _ x λxs z=> by cases z),λb o u x=> e3.frzs b o u (keep _ _ x λxs z=> by cases z),λb ps x=> e3.tbls b ps (keep _ _ x λxs z=> by cases z)⟩,e4,e5,e6⟩
   | next=> exact z
   | brk=> exact z
   | cont=> exact z
 ·exact F.run A outer s H args us [.ref a] Q E hr e0 hb hv (A3o ls hl h (A3h hT) q)
 ·exact absurd c (no a o l)
theorem A9L {P:Program} {w:World} (H:Hp) (s:Shared) (e:Value) (s':Shared) (z:Ab.CX P w [] H s (λ_ _ _=> False) e s'):False:=by
 rcases z with ⟨_,_,_,_,_,_,_,_,_,_,_,_,z⟩ | ⟨_,_,_,_,_,_,_,_,_,_,_,_,_,z⟩
 ·exact z
 ·exact z
theorem walk_end {l:PySem.W.OpenLaw} {j:Nat} {vw:Program} {lo:List Str} {A:(Str->Option Value)->Heap->Prop} {B:World->Heap->Prop} {d:DefRec} {y:Str} (h1:l.most=some 63) (h3:d.params.defaults=[]) (h4:Room j callerA)
  (F:∀(u:World) (g:Str->Option Value) (at_:Addr) (hp:Heap),B u hp->hp.Ns mainGlobals g->g d.name=some (.ref at_)->∃(K:PySem.W.Frag) (fd:FuncData) (sp:A5),K.In hp/\A0v K/\A2J K hp/\A19 sp/\(∀(t:Shared) (z:Value),BindsTo t fd ⟨[z],[]⟩ [(y,z)])/\
   ∀base:Heap,(∀p∈(b5 K).map (·.1),LamX.TabB base g p.1 p.2)->FnOk l.prog u K g base (Ab.CX l.prog u) j at_ fd [y] (M0 K 1 sp)):
  PySem.W.WalkO vw lo A B l.row.toRowW d [] (λf vs=> PySem.call f vs):=
 LamX.walk_ofTsE h1 (by decide) h3 h4 (λu g at_ hp yb ns named=>
  let ⟨K,fd,sp,inK,no,te,ls,bind,ok⟩:=F u g at_ hp yb ns named
  ⟨K,inK,fd,(b5 K).map (·.1),A5A K,λp m=> (by obtain ⟨q,hq,rfl⟩:=List.mem_map.mp m;exact (te q hq).2.2),λp m=> (by obtain ⟨q,hq,rfl⟩:=List.mem_map.mp m;exact (te q hq).2.1),
   λp m=> (by obtain ⟨q,hq,rfl⟩:=List.mem_map.mp m;exact PySem.W.codeHd_of_K inK (te q hq).1),bind,
   λH b is few _ hT seq=> ⟨b,is,rfl,few,seq,λp m=> hT p.1 (List.mem_map.mpr ⟨p,m,rfl⟩),λ_=> rfl⟩,λbase _ _ tb=> A8Z ls no (ok base tb) rfl⟩) λu H s e s'=> A9L H s e s'
def t9 (tl:List Value):List Value->Bool
 | .ref _::r=> t9 tl r
 | l=> l==tl
abbrev tlV:List Value:=[.type "ValueError",.type "Exception",.type "BaseException",.type "object"]
abbrev tlL:List Value:=[.type "LookupError",.type "Exception",.type "BaseException",.type "object"]
abbrev tlI:List Value:=[.type "IndexError",.type "LookupError",.type "Exception",.type "BaseException",.type "object"]
def xcTab:List (Str×List Str):=
  [("BadSizes",["HideError"]),("BadCounts",["HideError"]),("BadStand",["HideError"]),("BadDeed",["HideError"]),("BadRow",["HideError"]),("BadTimes",["HideError"]),("BadName",["HideError"]),("BadText",["HideError"]),("Taken",["HideError"]),
   ("InUse",["HideError"]),("Tapped",["HideError"]),("TooLong",["HideError"]),("TooMany",["HideError"]),("Unlike",["HideError"]),("NoRound",["Missing"]),("NoDrop",["Missing"]),("NoCask",["Missing"]),("NothingLeft",[])]
def A2F (n c:Str):Bool:=decide (n=c) || decide (c∈(xcTab.lookup n).getD [])
def A13 (n:String) (bm:List Value):Bool:=(decide (n="ValueError.__new__") && t9 tlV bm) || ((decide (n="LookupError.__new__") && t9 tlL bm) || (decide (n="IndexError.__new__") && t9 tlI bm))
def A2L (K:PySem.W.Frag) (C:Addr):Bool:=match K.lookup C with
 | some ⟨.type t,_,.cls cd,sl⟩=> decide (t="type") && (match cd.mro,sl.toList with
  | .ref C'::bm,[_,_,_,_,some (.builtin n),_]=> decide (C'=C) && (A13 n bm && (!cd.hasDel && cd.hasDict))
  | _,_=> false)
 | _=> false
def T0 (K:PySem.W.Frag) (x:Str) (fs:List Str):Bool:=
 A2L K (He.ga K x) && (decide (PySem.W.findIn K (.ref (He.ga K x)) "__setattr__"=some (some (.builtin "object.__setattr__"))) && (decide (PySem.W.subIn K (.ref (He.ga K x)) (.type "BaseException")=some true) &&
  (decide (PySem.W.typeIn K (.ref (He.ga K x))=some (.type "type")) && (PySem.W.keepIn K (.ref (He.ga K x)) && (decide (PySem.W.findIn K (.ref (He.ga K x)) "__init__"=some (some (.ref (He.ma K (He.ga K x) "__init__")))) &&
   (decide (PySem.W.typeIn K (.ref (He.ma K (He.ga K x) "__init__"))=some (.type "function")) && (xfB K (He.ga K x) && (("word":Str)::fs).all λf=> decide (PySem.W.findIn K (.ref (He.ga K x)) f=some none))))))))
def f5 (K:PySem.W.Frag) (ks:List Str) (f:Str):Bool:=ks.all λc=> xfB K (He.ga K c) && decide (PySem.W.findIn K (.ref (He.ga K c)) f=some none)
def xiB (K:PySem.W.Frag) (C:Addr):Bool:=(PySem.W.clsIn K C).isSome && (decide (PySem.W.findIn K (.ref C) "__getattribute__"=some (some (.builtin "BaseException.__getattribute__"))) && ((PySem.W.findIn K (.ref C) "__getattr__").isSome && (decide (PySem.W.subIn K (.ref C) (.type "BaseException")=some true) &&
 (decide (PySem.W.findIn K (.ref C) "__class__"=some (some (.builtin "object.__class__"))) && (decide (PySem.W.specialIn K (.builtin "object.__class__") "__get__"=some (some (.builtin "getset_descriptor.__get__"))) && (decide (PySem.W.takesIn K (.builtin "object.__class__")=some true) && decide (PySem.W.mroIn K C (.type "object")=some true)))))))
def A5J (K:PySem.W.Frag) (ks:List Str):Bool:=ks.all λc=> xiB K (He.ga K c)
def P6 (K:PySem.W.Frag) (ks l:List Str) (D:Value):Bool:=ks.all λc=> decide (PySem.W.kitOne K (.ref (He.ga K c)) D=some (l.contains c))
section
open PySem.W PySem.Calls HandSHeadRun
end
def n8 (i:Nat):Stmt:=PySem.Challenge.pw_hidelater_k69_classes_apart.main.body.getD i (.Pass ⟨0,0,0,0⟩)
abbrev o7:Stmt:=n8 13
abbrev o5:Stmt:=n8 14
abbrev O6:Stmt:=n8 15
abbrev o0:Stmt:=n8 16
abbrev j9:Stmt:=n8 17
def Z2 (i j:Nat):Stmt:=match n8 i with
 | .ClassDef _ _ _ b _ _ _ _ _ _ _=> b.getD j (.Pass ⟨0,0,0,0⟩)
 | _=> .Pass ⟨0,0,0,0⟩
abbrev A0K:Stmt:=Z2 4 0
abbrev A0H:Stmt:=Z2 11 0
abbrev A0J:Stmt:=Z2 10 0
abbrev A0E:Stmt:=Z2 9 0
abbrev A0N:Stmt:=Z2 3 0
abbrev A0I:Stmt:=Z2 5 0
abbrev A0D:Stmt:=Z2 6 0
abbrev A0F:Stmt:=Z2 7 0
abbrev A0G:Stmt:=Z2 8 0
def y8 (x:Str) (s:Stmt):He.DefD:=⟨(x,none),x,x,defArgs s,defBody s,defScope s,[],[]⟩
def A20:He.DefD:=y8 "_law_open" o7
def A2x:He.DefD:=y8 "_law_take" o5
def A2u:He.DefD:=y8 "_law_same" O6
def A2q:He.DefD:=y8 "_law_flags" o0
def A4h:He.DefD:=y8 "law" j9
def A3L:He.DefD:=⟨("InUse",some "__init__"),"__init__","InUse.__init__",defArgs A0K,defBody A0K,defScope A0K,[],[]⟩
def A3A:He.DefD:=⟨("NoCask",some "__init__"),"__init__","NoCask.__init__",defArgs A0H,defBody A0H,defScope A0H,[],[]⟩
def A27:He.DefD:=⟨("NoDrop",some "__init__"),"__init__","NoDrop.__init__",defArgs A0J,defBody A0J,defScope A0J,[],[]⟩
def A23:He.DefD:=⟨("NoRound",some "__init__"),"__init__","NoRound.__init__",defArgs A0E,defBody A0E,defScope A0E,[],[]⟩
def A3G:He.DefD:=⟨("Taken",some "__init__"),"__init__","Taken.__init__",defArgs A0N,defBody A0N,defScope A0N,[],[]⟩
def A3E:He.DefD:=⟨("Tapped",some "__init__"),"__init__","Tapped.__init__",defArgs A0I,defBody A0I,defScope A0I,[],[]⟩
def A24:He.DefD:=⟨("TooLong",some "__init__"),"__init__","TooLong.__init__",defArgs A0D,defBody A0D,defScope A0D,[],[]⟩
def A22:He.DefD:=⟨("TooMany",some "__init__"),"__init__","TooMany.__init__",defArgs A0F,defBody A0F,defScope A0F,[],[]⟩
def A25:He.DefD:=⟨("Unlike",some "__init__"),"__init__","Unlike.__init__",defArgs A0G,defBody A0G,defScope A0G,[],[]⟩
def hFn:List He.DefD:=[A20,A2x,A2u,A2q,A4h,A3L,A3A,A27,A23,A3G,A3E,A24,A22,A25]
def hFa:List He.Fa:=[.glo "_law_open",.glo "_law_take",.glo "_law_same",.glo "_law_flags",.glo "law",.free "LookupError",.free "all",.free "bool",.free "int",.free "isinstance",.free "len",.free "list",.free "range",.free "str",.free "tuple",.glo "InUse",.glo "NoCask",.glo "NoDrop",.glo "NoRound",.glo "Taken",.glo "Tapped",.glo "TooLong",.glo "TooMany",.glo "Unlike",.glo "HideError"]
def hEx:PySem.W.Frag->Bool:=λK=> T0 K "InUse" ["name"] && T0 K "NoCask" ["cask"] && T0 K "NoDrop" ["rank"] && T0 K "NoRound" ["name"] && T0 K "Taken" ["name"] && T0 K "Tapped" ["step"] && T0 K "TooLong" ["most"] && T0 K "TooMany" ["most"] && T0 K "Unlike" [] && f5 K ["InUse","NoCask","NoDrop","NoRound","Taken","Tapped","TooLong","TooMany","Unlike"] "cask" && f5 K ["InUse","NoCask","NoDrop","NoRound","Taken","Tapped","TooLong","TooMany","Unlike"] "most" && f5 K ["InUse","NoCask","NoDrop","NoRound","Taken","Tapped","TooLong","TooMany","Unlike"] "name" && f5 K ["InUse","NoCask","NoDrop","NoRound","Taken","Tapped","TooLong","TooMany","Unlike"] "rank" && f5 K ["InUse","NoCask","NoDrop","NoRound","Taken","Tapped","TooLong","TooMany","Unlike"] "step" && f5 K ["InUse","NoCask","NoDrop","NoRound","Taken","Tapped","TooLong","TooMany","Unlike"] "word" && A5J K ["InUse","NoCask","NoDrop","NoRound","Taken","Tapped","TooLong","TooMany","Unlike"] && P6 K ["InUse","NoCask","NoDrop","NoRound","Taken","Tapped","TooLong","TooMany","Unlike"] ["InUse","Taken","Tapped","TooLong","TooMany","Unlike"] (.ref (He.ga K "HideError")) && P6 K ["InUse","NoCask","NoDrop","NoRound","Taken","Tapped","TooLong","TooMany","Unlike"] ["InUse"] (.ref (He.ga K "InUse")) && P6 K ["InUse","NoCask","NoDrop","NoRound","Taken","Tapped","TooLong","TooMany","Unlike"] ["NoCask"] (.ref (He.ga K "NoCask")) && P6 K ["InUse","NoCask","NoDrop","NoRound","Taken","Tapped","TooLong","TooMany","Unlike"] ["NoDrop"] (.ref (He.ga K "NoDrop")) && P6 K ["InUse","NoCask","NoDrop","NoRound","Taken","Tapped","TooLong","TooMany","Unlike"] ["NoRound"] (.ref (He.ga K "NoRound")) && P6 K ["InUse","NoCask","NoDrop","NoRound","Taken","Tapped","TooLong","TooMany","Unlike"] ["Taken"] (.ref (He.ga K "Taken")) && P6 K ["InUse","NoCask","NoDrop","NoRound","Taken","Tapped","TooLong","TooMany","Unlike"] ["Tapped"] (.ref (He.ga K "Tapped")) && P6 K ["InUse","NoCask","NoDrop","NoRound","Taken","Tapped","TooLong","TooMany","Unlike"] ["TooLong"] (.ref (He.ga K "TooLong")) && P6 K ["InUse","NoCask","NoDrop","NoRound","Taken","Tapped","TooLong","TooMany","Unlike"] ["TooMany"] (.ref (He.ga K "TooMany")) && P6 K ["InUse","NoCask","NoDrop","NoRound","Taken","Tapped","TooLong","TooMany","Unlike"] ["Unlike"] (.ref (He.ga K "Unlike")) && P6 K ["InUse","NoCask","NoDrop","NoRound","Taken","Tapped","TooLong","TooMany","Unlike"] ["NoCask","NoDrop","NoRound"] (.type "LookupError")
def hLs:List (Str×Option Str):=[]
def B04:List Str:=["__name__","HideError","Missing","Taken","InUse","Tapped","TooLong","TooMany","Unlike","NoRound","NoDrop","NoCask","_law_open","_law_take","_law_same","_law_flags"]
def hNms:List Str:=B04
abbrev hR:PySem.W.OpenRow:=PySem.W.OpenLaw.row PySem.Challenge.rw_hidelater_k69_classes_apart
abbrev hHk:PySem.W.Hook:=A4K hFa hFn hEx hLs
def hOb (s:PySem.W.SharedT):AlK:=A2N hFa hFn hEx hLs (HandSHeadRun.getT s)
theorem hOb_eq (s:PySem.W.SharedT):hOb s=hHk.obs s.abs:=A7n (HandSHeadRun.getT_eq s)
theorem hRun (w:World):HandSHeadRun.RunEq hR (PySem.W.view hR.prog [17]) hHk hOb 3000 hNms w:=by
 intro os
 kernel_rfl
end Ab
namespace Ab
open PySem PySem.Spec PyProof.Rows L2
open Builtin Builtin.ObjectAttr in
structure MroG (bm bmB:List Value):Prop where
 cont:∀X:String,bm.contains (.type X)=bmB.contains (.type X)
 pass:∀self:Value,refuseLoop self "__setattr__" bm=pure ()
 ne:bm.isEmpty=false
 ob:bmB.contains (.type "object")=true
open Builtin Builtin.ObjectAttr in
theorem MroG.cons {bm bmB:List Value} (m:MroG bm bmB) (c:Addr):MroG (.ref c::bm) bmB:=
 ⟨λX=> by rw [List.contains_cons,m.cont];rfl,λs=> by rw [refuseLoop_ref];exact m.pass s,rfl,m.ob⟩
theorem A1H {tl:List Value} (m:MroG tl tl):∀l:List Value,t9 tl l=true->MroG l tl:=by
 intro l
 induction l with
 | nil=> exact λe=> (show ([]:List Value)=tl from beq_iff_eq.mp e)▸m
 | cons a r ih=>
  intro e
  cases a with
  | ref c=> exact (ih e).cons c
  | _=> rw [show (_::r:List Value)=tl from beq_iff_eq.mp e];exact m
theorem A9v:MroG tlV tlV:=⟨λ_=> rfl,λs=> F.store_ValueError.passes s,rfl,by decide+kernel⟩
theorem A9O:MroG tlL tlL:=⟨λ_=> rfl,λs=> by kernel_rfl,rfl,by decide+kernel⟩
theorem A9g:MroG tlI tlI:=⟨λ_=> rfl,λs=> by kernel_rfl,rfl,by decide+kernel⟩
structure OexG (K:PySem.W.Frag) (C:Addr):Prop where
 cls:∃nm q N bs bm bmB B newId initId sn sub ab col dd k0 k1 k2 k3 k5,K.lookup C=some (excClassObj nm q C N bs bm true sn sub ab col dd k0 k1 k2 k3 k5 newId)/\ExcBaseFacts B newId initId bmB/\MroG bm bmB
 sa:PySem.W.findIn K (.ref C) "__setattr__"=some (some (.builtin "object.__setattr__"))
 exC:PySem.W.subIn K (.ref C) (.type "BaseException")=some true
 tyC:PySem.W.typeIn K (.ref C)=some (.type "type")
 kC:PySem.W.keepIn K (.ref C)=true
section
open Builtin Builtin.ObjectAttr
variable {prog:Program} {w:World} {A:Around} {E:Value->Shared->Prop} {R:Result->Shared->Prop} {hp:Heap} {g:Array GenState} {d:Drawn} {t:Nat} {os:OsState}
theorem A69 {K:PySem.W.Frag} {name:Str} {tk:Tok} {v:Value} {x C:Addr} {fv:Array Value} {cd:ClassData} {bmB:List Value} (X:K.In hp) (hx:hp.get? x=some { cls:= .ref C,data:= .fields fv }) (hcd:PySem.W.clsIn K C=some cd) (hm:MroG cd.mro bmB)
  (hh:cd.hasDict=true) (ha:PySem.W.findIn K (.ref C) name=some none)
  (hq:∀h' tk' dx,(∀b o,b≠x->hp.get? b=some o->h'.get? b=some o)->hp.objs.size<=dx->dx≠x->h'.get? x=some { cls:= .ref C,dict:=some dx,data:= .fields fv }->
   h'.Ns1 dx (λy=> if y=name then some v else none)->R (.ok (.ret .none)) ⟨h',g,d,tk',os⟩):
  codeAny (model prog w) A (.call (.builtin "object.__setattr__") ⟨[.ref x,.str name tk,v],[]⟩) R ⟨hp,g,d,t,os⟩:=by
 have I:PySem.W.InstAt hp x { cls:= .ref C,data:= .fields fv } C none:=⟨hx,rfl,rfl,trivial⟩
 have SF:=F.store_object
 have ne:=hm.ne
 have hob:cd.mro.contains (.type "object")=true:=(hm.cont "object").trans hm.ob
 have hxs:x≠hp.objs.size:=Nat.ne_of_lt (Heap.lt_size hx)
 have sub:PySem.W.Looks (model prog w) hp (isInstance (.ref x) (.type "object")) true:=I.type.andThen (PySem.W.looks_mroIn X (by unfold PySem.W.mroIn;rw [hcd,Option.bind_some,if_neg (by rw [ne];decide),hob]))
 refine codeAny_call_builtin SF.slot.plain SF.entry (@PySem.W.check_slot (model prog w) _ _ ⟨hp,g,d,t,os⟩ "object.__setattr__" "object" "__setattr__" (.ref x) [.str name tk,v] [] _ SF.kind SF.split sub (SF.args (.ref x) (.str name tk) v) ?_)
 have hmr:PySem.W.Looks (model prog w) hp (mroOf (.ref C)) cd.mro:=(PySem.W.looks_clsIn X hcd).andThen .now
 have L3:PySem.W.Looks (model prog w) hp (storeTaker? none) none:= .now
 have hcls:PySem.W.Looks (model prog w) hp (classData C) cd:=PySem.W.looks_clsIn X hcd
 rw [PySem.W.osa_eq,refuse_eq]
 refine wpAny_bind (wpAny_bind (I.type.at (wpAny_bind (hmr.at ?_))))
 rw [hm.pass]
 refine wpAny_pure (wpAny_bind (I.type.at (wpAny_bind ((PySem.W.looks_findIn X ha).at (wpAny_bind (L3.at ?_))))))
 show wpAny _ _ (storeInOwnDict (.ref x) (.ref C) (.str name tk) name v false) _ _ _
 obtain ⟨nm,bs,mro,ns,qn,hd,sn,sb,ab,col,del⟩:=cd
 dsimp only at hh
 subst hh
 unfold storeInOwnDict ownDictForStores
 repeat (first | with_reducible refine PySem.HandSPX.store_in_new ?_ ?_ | with_reducible refine wpAny_loadPart_at hx ?_ | with_reducible refine hcls.at ?_ | wp_step)
 ·exact ⟨_,#[],_,(Heap.get?_update_ne _ _ _ _ hxs.symm).trans (Heap.get?_push_at rfl rfl),rfl,λe he=> absurd he (by simp),λ_=> rfl⟩
 ·intro h' tk' hn' hs
  have hx₁:(hp.push { cls:= .type "dict",data:= .dict #[] }).get? x=some { cls:= .ref C,data:= .fields fv }:=Heap.get?_push_of_some _ hx
  refine hq h' tk' hp.objs.size (λb o hb ho=> ?_) (Nat.le_refl _) hxs.symm ?_ hn'
  ·exact (hs.2 b (Nat.ne_of_lt (Heap.lt_size ho))).trans ((Heap.get?_update_ne _ _ _ _ hb).trans (Heap.get?_push_of_some _ ho))
  ·exact (hs.2 x hxs).trans (Heap.get?_update_self _ hx₁ rfl)
theorem A6v {K:PySem.W.Frag} {name:Str} {tk:Tok} {v:Value} {x C dx:Addr} {fv:Array Value} {cd:ClassData} {bmB:List Value} {m0:Str->Option Value} {nl:List Str} (X:K.In hp) (hx:hp.get? x=some { cls:= .ref C,dict:=some dx,data:= .fields fv }) (hns:hp.Ns1 dx m0)
  (hw:Within m0 nl) (hz:nl.length<=1000) (hcd:PySem.W.clsIn K C=some cd) (hm:MroG cd.mro bmB) (hh:cd.hasDict=true) (ha:PySem.W.findIn K (.ref C) name=some none)
  (hq:∀h' tk',(∀b o,b≠dx->hp.get? b=some o->h'.get? b=some o)->h'.Ns1 dx (λy=> if y=name then some v else m0 y)->R (.ok (.ret .none)) ⟨h',g,d,tk',os⟩):
  codeAny (model prog w) A (.call (.builtin "object.__setattr__") ⟨[.ref x,.str name tk,v],[]⟩) R ⟨hp,g,d,t,os⟩:=by
 obtain ⟨oD,esD,epD,hoD,hdD,_⟩:=hns.count hw
 have I:PySem.W.InstAt hp x { cls:= .ref C,dict:=some dx,data:= .fields fv } C (some oD):=⟨hx,rfl,rfl,hoD⟩
 have SF:=F.store_object
 have ne:=hm.ne
 have hob:cd.mro.contains (.type "object")=true:=(hm.cont "object").trans hm.ob
 have sub:PySem.W.Looks (model prog w) hp (isInstance (.ref x) (.type "object")) true:=I.type.andThen (PySem.W.looks_mroIn X (by unfold PySem.W.mroIn;rw [hcd,Option.bind_some,if_neg (by rw [ne];decide),hob]))
 refine codeAny_call_builtin SF.slot.plain SF.entry (@PySem.W.check_slot (model prog w) _ _ ⟨hp,g,d,t,os⟩ "object.__setattr__" "object" "__setattr__" (.ref x) [.str name tk,v] [] _ SF.kind SF.split sub (SF.args (.ref x) (.str name tk) v) ?_)
 have hmr:PySem.W.Looks (model prog w) hp (mroOf (.ref C)) cd.mro:=(PySem.W.looks_clsIn X hcd).andThen .now
 have L3:PySem.W.Looks (model prog w) hp (storeTaker? none) none:= .now
 have hcls:PySem.W.Looks (model prog w) hp (classData C) cd:=PySem.W.looks_clsIn X hcd
 rw [PySem.W.osa_eq,refuse_eq]
 refine wpAny_bind (wpAny_bind (I.type.at (wpAny_bind (hmr.at ?_))))
 rw [hm.pass]
 refine wpAny_pure (wpAny_bind (I.type.at (wpAny_bind ((PySem.W.looks_findIn X ha).at (wpAny_bind (L3.at ?_))))))
 show wpAny _ _ (storeInOwnDict (.ref x) (.ref C) (.str name tk) name v false) _ _ _
 obtain ⟨nm,bs,mro,ns,qn,hd,sn,sb,ab,col,del⟩:=cd
 dsimp only at hh
 subst hh
 unfold storeInOwnDict ownDictForStores
 repeat (first | with_reducible refine PySem.OEX.store_in_old hns hw hz ?_ | with_reducible refine wpAny_loadPart_at hx ?_ | with_reducible refine hcls.at ?_ | wp_step)
 intro h' tk' hn' hs
 exact hq h' tk' (λb o hb ho=> (hs.2 b hb).trans ho) hn'
end
section
variable {X:Cx} {pins:List (Addr×Obj)} {σ:L2.St} {H:Hp} {s:Shared} {a C dx:Addr} {f:Str} {y:V} {u:Value} {fs:List (Str×V)} {Q:Unit->Shared->Prop} {E:Value->Shared->Prop} {A:Around}
theorem OexG.data {K:PySem.W.Frag} (T:OexG K C):∃cd bmB,PySem.W.clsIn K C=some cd/\MroG cd.mro bmB/\cd.hasDict=true:=by
 obtain ⟨nm,q,N,bs,bm,bmB,B,ni,ii,sn,sub,ab,col,dd,k0,k1,k2,k3,k5,hC,_,hm⟩:=T.cls
 exact ⟨{ name:=nm,bases:=bs,mro:= .ref C::bm,ns:=N,qualname:=q,hasDict:=true,slotNames:=sn,subclasses:=sub,abstract:=ab,collection:=col,hasDel:=false },bmB,by unfold PySem.W.clsIn;rw [hC] <;> rfl,hm.cons C,rfl⟩
theorem A6k (T:OexG X.K C) (I:L2.Inv X pins σ H s) (e:H a=some (exo a C none)) (hno:PySem.W.findIn X.K (.ref C) f=some none) (ry:RelV y u)
    (h:∀dx s',H dx=none->dx≠a->L2.Inv X pins σ (upd (upd H dx (exd dx [(f,y)])) a (exo a C (some dx))) s'->Q () s'):wpAny (model X.prog X.w) A (setAttr (.ref a) f u) Q E s:=by
  obtain ⟨cd,bmB,hcl,hm,hh⟩:=T.data
  obtain ⟨t1,ho⟩:=exo_at I.hok e
  obtain ⟨hp,g,d,t,os⟩:=s
  refine PySem.W.set_plain I.kIn (ox:={ cls:= .ref C,dict:=none,data:= .fields #[.ref t1,.none,.none,.none,.bool false,.none] }) (od:=none) ⟨ho,rfl,rfl,trivial⟩ T.sa ?_
  refine A69 I.kIn ho hcl hm hh hno (λh' tk' dx k dn dne hx hn=> ?_)
  have hnd:H dx=none:=I.hok.fresh dn
  have nd:∀{b:Addr} {o:Obj},hp.get? b=some o->b≠dx:=λ{b o} q=> Nat.ne_of_lt (Nat.lt_of_lt_of_le (Heap.lt_size q) dn)
  have na:∀{b:Addr},H b=none->b≠a:=λ{b} n z=> by
    rw [z,e] at n
    cases n
  have U1:Un X.fs [] H (upd (upd H dx (exd dx [(f,y)])) a (exo a C (some dx))) hp h':={
    keep:=λb o q n _ _=> k b o (na n) q
    slot:=λb o q n _ _=> ⟨o.slots,k b o (na n) q⟩
    free:=λb o q n _=> by rw [upd_ne (na n),upd_ne (nd q)];exact n
    there:=λb o q _=> by
      by_cases hb:b=a
      · exact ⟨_,by rw [hb];exact hx⟩
      · exact ⟨o,k b o hb q⟩
    tups:=λb xs q=> by rw [upd_ne (at_ne e q exo_tup),upd_ne (ne_of_none q hnd)];exact q
    frzs:=λb o v q=> by rw [upd_ne (at_ne e q exo_frz),upd_ne (ne_of_none q hnd)];exact q
    tbls:=λb ps q=> ⟨#[],by rw [upd_ne (at_ne e q exo_tbl),upd_ne (ne_of_none q hnd),q];simp⟩ }
  refine h dx _ hnd dne (I.un (t':=tk') U1 λb o q=> ?_)
  by_cases hb:b=a
  · subst hb
    rw [upd_same] at q
    cases q
    exact exo_ok hx
  rw [upd_ne hb] at q
  by_cases hd:b=dx
  · subst hd
    rw [upd_same] at q
    cases q
    exact exd_ok hn (relO_put (fs:=[]) ry λg=> True.intro)
  rw [upd_ne hd] at q
  exact (I.hok b o q).stay (λc v hc z=> k c v (by
      rcases hc with hc | hc
      · rw [hc];exact hb
      · exact at_ne e hc exo_own) z)
    (λc hc=> by rw [upd_ne (at_ne e hc exo_own),upd_ne (ne_of_none hc hnd)];exact hc) (λc xs hc=> by rw [upd_ne (at_ne e hc exo_tup),upd_ne (ne_of_none hc hnd)];exact hc)
theorem A6x (T:OexG X.K C) (I:L2.Inv X pins σ H s) (e:H a=some (exo a C (some dx))) (ed:H dx=some (exd dx fs)) (hl:fs.length<=900) (hno:PySem.W.findIn X.K (.ref C) f=some none) (ry:RelV y u)
  (h:∀s',L2.Inv X pins σ (upd H dx (exd dx ((f,y)::fs))) s'->Q () s'):wpAny (model X.prog X.w) A (setAttr (.ref a) f u) Q E s:=by
 obtain ⟨cd,bmB,hcl,hm,hh⟩:=T.data
 obtain ⟨t1,ho⟩:=exo_at I.hok e
 obtain ⟨mA,hns,rel⟩:=exd_at I.hok ed
 have hw:=within_of rel
 obtain ⟨hp,g,d,t,os⟩:=s
 obtain ⟨oD,_,_,hoD,_,_⟩:=hns.count hw
 refine PySem.W.set_plain I.kIn (ox:={ cls:= .ref C,dict:=some dx,data:= .fields #[.ref t1,.none,.none,.none,.bool false,.none] }) (od:=some oD) ⟨ho,rfl,rfl,hoD⟩ T.sa ?_
 refine A6v I.kIn ho hns hw (by rw [length_map];omega) hcl hm hh hno (λh' tk' k hn=> ?_)
 have hd:∃o,h'.get? dx=some o:=by
  obtain ⟨o,_,_,e',_⟩:=hn
  exact ⟨o,e'⟩
 exact h _ (I.write (t':=tk') (x:=dx) (e:=dx) (o:=exd dx ((f,y)::fs)) (by rw [ed];exact True.intro) (.inl rfl) k hd (exd_ok hn (relO_put ry rel)))
end
def A9Y (K:PySem.W.Frag) (f:Str) (to te:TE):TS:=λD σ H=> te σ H λy H1=> to σ H1 λx H2=> ∃a C:Addr,x= .ref a/\OexG K C/\PySem.W.findIn K (.ref C) f=some none/\
 ((H2 a=some (exo a C none)/\∀dx,H2 dx=none->dx≠a->D.nx σ (upd (upd H2 dx (exd dx [(f,y)])) a (exo a C (some dx))))\/
  ∃(dx:Addr) (fs:List (Str×V)),H2 a=some (exo a C (some dx))/\H2 dx=some (exd dx fs)/\fs.length<=900/\D.nx σ (upd H2 dx (exd dx ((f,y)::fs))))
section
variable {X:Cx} {o e:Expr} {es:List Expr} {to te:TE} {ta:TA} {f:Str} {p p' pos:Pos}
theorem A1M (ho:PE X o to) (he:PE X e te) (hs:swapsWith e (some (.Attribute o f p')) pos.line X.env=pure false:=by rfl):PS X (.Assign [.Attribute o f p'] e pos) (A9Y X.K f to te):=by
 refine ⟨λpins s σ H D I h=> ?_⟩
 refine plainObj_wpAny_Assign_Attribute (thn (he.run pins s σ H _ I h) λv s1 ⟨y,H1,I1,r1,q1⟩=> thn (ho.run pins s1 σ H1 _ I1 q1) λu s2 ⟨x,H2,I2,r2,a,C,ex,T,hno,q⟩=> ?_) hs
 subst ex
 obtain rfl:u=Value.ref a:=r2
 rcases q with ⟨ea,q⟩ | ⟨dx,fs,ea,ed,hl,q⟩
 ·exact A6k T I2 ea hno r1 λdx s' n ne J=> ⟨σ,_,J,q dx n ne⟩
 ·exact A6x T I2 ea ed hl hno r1 λs' J=> ⟨σ,_,J,q⟩
abbrev MkG (C:Addr) (sp:Sp) (vs:List V) (H1:Hp) (Q:XK):Prop:=vs.length<=1000/\∀a,H1 a=none->sp (.ref a::vs) (upd H1 a (exo a C none))
 (λv H2=> v= .non/\∃(d:Addr) (fs:List (Str×V)),H2 a=some (exo a C (some d))/\H2 d=some (exd d fs)/\H1 d=none/\Q (.ref C) (some d) (upd (L2.del H2 a) d (.xd fs))) (λ_ _ _=> False)
theorem A4A {CX:CXT} {C fI:Addr} {k:Nat} {fd:FuncData} {ps:List Str} {sp:Sp} {pins:List (Addr×Obj)} {s:Shared} {σ:L2.St} {H:Hp} {us:List Value} {vs:List V} {Q:XK} (T:OexG X.K C) (iC:PySem.W.findIn X.K (.ref C) "__init__"=some (some (.ref fI)))
  (tI:PySem.W.typeIn X.K (.ref fI)=some (.type "function")) (F1:FnOk X.prog X.w X.K X.mg X.base CX k fI fd ps sp) (hr:Room (k+1) X.A) (hb:Binds X.K fd ps []) (hx:Passes CX X (λ_ _ _=> False)) (I1:L2.Inv X pins σ H s) (r1:Vals vs us) (q1:MkG C sp vs H Q):
  wpAny (model X.prog X.w) X.A (call (.ref C) us) (L2N.MkP X pins σ Q) X.xe s:=by
 obtain ⟨nm,q,N,bs,bm,bmB,B,ni,ii,sn,sub,ab,col,dd,k0,k1,k2,k3,k5,hC,FB,hm⟩:=T.cls
 obtain ⟨hz,q1⟩:=q1
 obtain ⟨hp,g,dr,tk,os⟩:=s
 have hsz:hp.objs.size<=hp.objs.size+1:=Nat.le_succ _
 have hn:H (hp.objs.size+1)=none:=I1.hok.fresh hsz
 have hq:=q1 (hp.objs.size+1) hn
 have kk:∀b o,hp.get? b=some o->((hp.push (PySem.W.kdv_tup us)).push (PySem.HandSPX.excO C hp.objs.size)).get? b=some o:=λb o e=> Heap.get?_push_of_some _ (Heap.get?_push_of_some _ e)
 have hget:((hp.push (PySem.W.kdv_tup us)).push (PySem.HandSPX.excO C hp.objs.size)).get? (hp.objs.size+1)=some (PySem.HandSPX.excO C hp.objs.size):=by heap_get
 have I2:L2.Inv X pins σ (upd H (hp.objs.size+1) (exo (hp.objs.size+1) C none)) ⟨(hp.push (PySem.W.kdv_tup us)).push (PySem.HandSPX.excO C hp.objs.size),g,dr,tk,os⟩:=
  I1.laid (t':=tk) (a:=hp.objs.size+1) (o:=exo (hp.objs.size+1) C none) (h':=(hp.push (PySem.W.kdv_tup us)).push (PySem.HandSPX.excO C hp.objs.size)) kk hsz (exo_ok hget)
 have r2:Vals (V.ref (hp.objs.size+1)::vs) (Value.ref (hp.objs.size+1)::us):= .cons rfl r1
 have hl:((Value.ref (hp.objs.size+1)::us)++[]).length=ps.length:=by
  have e:=r2.length
  rw [F1.len _ _ _ _ hq] at e
  rw [append_nil]
  exact e.symm
 have hus:us.length<=sizeLine:=by
  rw [<-Paired.length r1,sizeLine_eq]
  omega
 have b2:=hb _ (Value.ref (hp.objs.size+1)::us) I2.kIn hl
 rw [append_nil] at b2
 refine wpAny_call (PySem.HandSPX.call_own FB hm.cont (I1.kIn _ _ hC) (PySem.W.looks_findIn I1.kIn iC) (λself=> PySem.W.bind_fn I1.kIn self tI) hus
  (codeAny_mono (F1.run _ X.stack _ _ ⟨Value.ref (hp.objs.size+1)::us,[]⟩ (Value.ref (hp.objs.size+1)::us) _ _ (λ_ _ _=> False) (hr.make C us []) (I2.env0.make C us []) b2 r2 hq) λr s' hq'=> ?_))
 cases r with
 | error er=> exact hx pins σ _ _ er s' I2 hq'
 | ok fl=>
  cases fl with
  | ret u=>
   obtain ⟨v,H2,os2,bare2,un2,hok2,rv,ev,d,fs,ea,ed,hd1,q2⟩:=hq'
   subst ev
   obtain ⟨h2,g2,d2,t2,os'⟩:=s'
   obtain ⟨t0,g0,J,kG,ge,hoe,na⟩:=mk_end0 (d2:=d2) (t2:=t2) I1 hsz kk un2 hok2 os2 bare2 ea ed hd1
   refine ⟨rv,⟨hp.objs.size+1,_,_,⟨g0,g2,d2,t2,os'⟩,_,.ref C,some d,rfl,J,kG,ge,hoe,⟨rfl,rfl,λzs hv=> ?_⟩,rfl,rfl,na,rfl,bare2,raises_own T.exC T.tyC,q2⟩⟩
   cases hv
   rfl
  | next=> exact False.elim hq'
  | brk=> exact False.elim hq'
  | cont=> exact False.elim hq'
def A4r (C:Addr) (sp:Sp) (ta:TA):L2.St->Hp->XK->Prop:=λσ H Q=> ta σ H λvs H1=> MkG C sp vs H1 Q
theorem A9I {CX:CXT} {x:Str} {C fI:Addr} {k:Nat} {fd:FuncData} {ps:List Str} {sp:Sp} (T:OexG X.K C) (iC:PySem.W.findIn X.K (.ref C) "__init__"=some (some (.ref fI))) (tI:PySem.W.typeIn X.K (.ref fI)=some (.type "function"))
  (F1:FnOk X.prog X.w X.K X.mg X.base CX k fI fd ps sp) (hr:Room (k+1) X.A) (hb:Binds X.K fd ps []) (hx:Passes CX X (λ_ _ _=> False)) (hg:Gl X x) (hm:X.mg x=some (.ref C)) (ha:PA X (e::es) ta)
  (hdb:(x==("__debug__":Str))=false:=by decide) (he:starEach (e::es) X.env=(false,eval e X.env)::starEach es X.env:=by rfl) (hpl:(backTo pos (starEach es X.env)).any (·.1)=false:=by rfl):
  L2N.PMk X (.Call (.Name x p) (e::es) [] pos) (A4r C sp ta):=by
 intro pins s σ H Q I h
 refine wpAny_Call_Name_kw (ld_glob I hg hm ?_ hdb)
 exact PySem.W.callWith_K (h₀:=X.base) I.ok.mod.kin T.kC (thn (ha.run pos pins s σ H _ I h) λus s1 ⟨vs,H1,I1,r1,q1⟩=> ⟨I1.kIn,A4A T iC tI F1 hr hb hx I1 r1 q1⟩) he hpl
theorem A8m {CX:CXT} {x:Str} {C fI:Addr} {k:Nat} {fd:FuncData} {ps:List Str} {sp:Sp} (T:OexG X.K C) (iC:PySem.W.findIn X.K (.ref C) "__init__"=some (some (.ref fI))) (tI:PySem.W.typeIn X.K (.ref fI)=some (.type "function"))
  (F1:FnOk X.prog X.w X.K X.mg X.base CX k fI fd ps sp) (hr:Room (k+1) X.A) (hb:Binds X.K fd ps []) (hx:Passes CX X (λ_ _ _=> False)) (hg:Gl X x) (hm:X.mg x=some (.ref C)) (hdb:(x==("__debug__":Str))=false:=by decide):
  L2N.PMk X (.Call (.Name x p) [] [] pos) (A4r C sp λσ H K=> K [] H):=by
 intro pins s σ H Q I h
 refine wpAny_Call_Name_kw (ld_glob I hg hm ?_ hdb)
 exact PySem.W.callWith_K0 I.kIn T.kC (A4A T iC tI F1 hr hb hx I .nil h)
end
def initF {α:Type} (word:α) (fs:List Str) (vs:List α):List (Str×α):=(fs.zip vs).reverse++[(("word":Str),word)]
def A0Y (C:Addr) (word:Str) (fs:List Str):Sp:=λvs H Q _=> ∃a us,vs= .ref a::us/\us.length=fs.length/\H a=some (exo a C none)/\
 ∀d H2,H d=none->d≠a->H2 a=some (exo a C (some d))->H2 d=some (exd d (initF (V.str word) fs us))->(∀b,b≠a->b≠d->H2 b=H b)->Q .non H2
section
variable {P:Program} {w:World} {K:PySem.W.Frag} {mg:Str->Option Value} {base:Heap} {qual word f g:Str} {params:Arguments} {scope:Scope} {fI C:Addr} {fd:FuncData} {q1 q2 q3 q4 q5 q6 q7 q8 r5 r6 r7 r8:Pos} {j:Nat}
theorem A9i (F:FunD K "__init__" qual params [.Assign [.Attribute (.Name "self" q1) "word" q2] (.Constant (.str word) j q3) q4] scope [] [] fI fd) (S:FnScope ["self"] ["self"] scope)
  (T:OexG K C) (nw:PySem.W.findIn K (.ref C) "word"=some none):
  FnOk P w K mg base (Ab.CX P w) 1 fI fd ["self"] (A0Y C word []):=by
 have v0:Vis scope "self":=(S.par "self" (by simp)).imp id .inl
 refine F.ok S (λvs H Q E ⟨a,us,e,l,_⟩=> by rw [e];simpa using l) λcdv A outer s H vs Q E hr ⟨a,us,e,l,ea,q⟩=> ?_
 subst e
 obtain rfl:us=[]:=List.length_eq_zero_iff.mp l
 refine ⟨_,pss_one (A1M (pe_var (i:=0) rfl v0) pe_str),?_⟩
 refine ⟨.ref a,rfl,a,C,rfl,T,nw,.inl ⟨ea,λd nd da=> ?_⟩⟩
 exact q d _ nd da upd_same (by rw [upd_ne da,upd_same];rfl) λb h1 h2=> by rw [upd_ne h1,upd_ne h2]
theorem A92 (F:FunD K "__init__" qual params [.Assign [.Attribute (.Name "self" q1) "word" q2] (.Constant (.str word) j q3) q4,.Assign [.Attribute (.Name "self" q5) f q6] (.Name f q7) q8] scope [] [] fI fd) (S:FnScope ["self",f] ["self",f] scope)
  (T:OexG K C) (nw:PySem.W.findIn K (.ref C) "word"=some none) (nf:PySem.W.findIn K (.ref C) f=some none) (hd:(f==("__debug__":Str))=false:=by decide) (hcd:(f==("__classdict__":Str))=false:=by decide):
  FnOk P w K mg base (Ab.CX P w) 1 fI fd ["self",f] (A0Y C word [f]):=by
 have v0:Vis scope "self":=(S.par "self" (by simp)).imp id .inl
 have v1:Vis scope f:=(S.par f (by simp)).imp id .inl
 refine F.ok S (λvs H Q E ⟨a,us,e,l,_⟩=> by rw [e];simpa using l) λcdv A outer s H vs Q E hr ⟨a,us,e,l,ea,q⟩=> ?_
 subst e
 obtain ⟨y,rfl⟩:∃y,us=[y]:=by
  match us,l with
  | [y],_=> exact ⟨y,rfl⟩
 refine ⟨_,pss_cons (A1M (pe_var (i:=0) rfl v0) pe_str) (pss_one (A1M (pe_var (i:=0) rfl v0) (pe_var (i:=1) rfl v1 hd hcd))),?_⟩
 refine ⟨.ref a,rfl,a,C,rfl,T,nw,.inl ⟨ea,λd nd da=> ?_⟩⟩
 refine ⟨y,rfl,.ref a,rfl,a,C,rfl,T,nf,.inr ⟨d,_,upd_same,by rw [upd_ne da,upd_same],by simp,?_⟩⟩
 exact q d _ nd da (by rw [upd_ne (Ne.symm da),upd_same]) (by rw [upd_same];rfl) λb h1 h2=> by rw [upd_ne h2,upd_ne h1,upd_ne h2]
end
structure XkOk (P:Program) (w:World) (K:PySem.W.Frag) (mg:Str->Option Value) (base:Heap) (x word:Str) (fs:List Str):Prop where
 gl:mg x=some (.ref (He.ga K x))
 cls:OexG K (He.ga K x)
 ini:∃fI fd ps,PySem.W.findIn K (.ref (He.ga K x)) "__init__"=some (some (.ref fI))/\PySem.W.typeIn K (.ref fI)=some (.type "function")/\Binds K fd ps []/\FnOk P w K mg base (Ab.CX P w) 1 fI fd ps (A0Y (He.ga K x) word fs)
theorem waa.initF {K:PySem.W.Frag} {H:Hp} {word:Str}:∀{fs:List Str} {ws:List W} {vs:List V},waa K H ws vs->ws.length=fs.length->wai K H (initF (W.str word) fs ws) (initF (V.str word) fs vs):=λ{fs ws vs} r l=> by
 have lv:vs.length=fs.length:=by rw [<-r.length,l]
 refine ⟨?_,?_⟩
 ·unfold Ab.initF
  rw [map_append,map_append,map_reverse,map_reverse,List.map_fst_zip (by omega),List.map_fst_zip (by omega)]
  rfl
 ·unfold Ab.initF
  rw [map_append,map_append,map_reverse,map_reverse,List.map_snd_zip (by omega),List.map_snd_zip (by omega)]
  refine waa.append ?_ (.cons .str .nil)
  clear l lv
  induction ws generalizing vs with
  | nil=> rw [r.of_nil];exact .nil
  | cons w ws ih=>
   obtain ⟨v,t,rfl,a,b⟩:=r.of_cons
   rw [reverse_cons,reverse_cons]
   exact (ih b).append (.cons a .nil)
section
variable {X:Cx} {G:Gx} {x word:Str} {fs:List Str} {t:B8} {e:Expr} {es:List Expr} {E:AExc->A0->AH->Prop} {p pos pos2:Pos} {k:Nat}
end
abbrev s9:=Addr->Value->Option Addr->TS
def A40 (K:PySem.W.Frag) (Wout:WX) (D:Ends):List (Value×Nat×s9)->WX
 | []=> Wout
 | (c,i,u)::r=> λcls d σ H=> ∃b,PySem.W.exmOne K cls c=some b/\
   (b=true->∀x,H x=none->u x cls d { nx:=λσ1 H1=> D.nx (σ1.set i none) H1,rt:=D.rt,bk:=λσ1 H1=> D.bk (σ1.set i none) H1,ct:=λσ1 H1=> D.ct (σ1.set i none) H1 } (σ.set i (some (.ref x))) H)/\
   (b=false->A40 K Wout D r cls d σ H)
inductive HdsAs (X:Cx):List ExceptHandler->List (Value×Nat×s9)->Prop where
 | nil:HdsAs X [] []
 | cons {x n:Str} {c:Value} {i:Nat} {b:Stmt} {suite:List Stmt} {np pos:Pos} {u:s9} {hds:List ExceptHandler} {l:List (Value×Nat×s9)} (hi:X.N[i]? =some n) (hln:X.env.kindOf n=some .local) (hc:Names X x c)
   (hsu:∀(a:Addr) (oe:Obj) (cls:Value) (d:Option Addr) (pn:List (Addr×Obj)),Zc cls d oe->(∃vs,oe.data= .fields vs)->PSs (X.suite a ((a,oe)::pn)) (b::suite) (u a cls d)) (t:HdsAs X hds l):
   HdsAs X (.ExceptHandler (some (.Name x np)) (some n) (b::suite) pos::hds) ((c,i,u)::l)
section
variable {X:Cx} {pins:List (Addr×Obj)} {s:Shared} {Wout:WX} {D:Ends}
theorem B4r {B h:Heap} {sI:Shared} {σ:L2.St} {H:Hp} {a:Addr} {cls:Value} {d:Option Addr} {Z:Obj->Prop} (zc:∀o,Z o->Zc cls d o) (stk:X.stack=X.env::X.outer) (fr:X.env.frame=some X.env.locals) (nd:X.N.Nodup)
  (out:Wout cls d σ H->∀g,HandSPX.HeldZ B (X.env::X.outer) a Z X.env.locals g->s.heap.UpToSlots g->X.xe (.ref a) { s with heap:=g }) (ok:X.Ok)
  (J:L2.Inv X pins σ H sI) (kb:∀b o,sI.heap.get? b=some o->b∉frs X.stack->B.get? b=some o) (up:sI.heap.UpToSlots s.heap) (na:H a=none) (os:s.os=sI.os) (ag:AllBare s.gens)
  (fl:HandSPX.FlyingZ B (X.env::X.outer) a Z h) (uph:s.heap.UpToSlots h) (hk:X.A.frames=some (X.env::X.outer)):
  ∀{hds:List ExceptHandler} {l:List (Value×Nat×s9)},HdsAs X hds l->A40 X.K Wout D l cls d σ H->wpAny (model X.prog X.w) X.A (handleBy (.ref a) X.env hds) (SP X pins D) X.xe { s with heap:=h }:=by
 intro hds l hh
 induction hh with
 | nil=>
  intro wish
  have wish:Wout cls d σ H:=wish
  refine wpAny_handleBy_nil ?_
  obtain ⟨_,_,_,ox,xs,T,oT,_,hx,_,hdx,h1x,_⟩:=id fl
  unfold PySem.passOn
  refine wpAny_bind (wpAny_field hx hdx h1x ?_)
  rw [if_neg (by simp:¬((Value.ref T==Value.none)=true))]
  have away:wpAny (model X.prog X.w) X.A (setFlight (.ref a) X.env.frame) (λ_ r=> wpAny (model X.prog X.w) X.A (throw (.ref a):Sem Flow) (SP X pins D) X.xe r) X.xe { s with heap:=h }:=by
   rw [fr]
   exact HandSPX.setFlight_upZ fl λg hg ug=> wpAny_throw (out wish g hg (uph.trans ug))
  first
   | exact wpAny_bind (wpAny_pure (wpAny_bind away))
   | exact wpAny_bind away
 | cons hi hln hc hsu t ih=>
  rename_i x n c i b suite np pos u hds l
  intro wish
  obtain ⟨y,hy,yes,no⟩:=wish
  have lc:Loc X.env.scope n:= .inl hln
  have J1:L2.Inv X pins σ H { s with heap:=h }:=J.landed kb fl.1 (up.trans uph) os ag
  obtain ⟨ox,xs,hx,hzx,hdx⟩:=fl.there
  have off:∀{g:Heap} {o:Obj} {vs:Array Value},g.FunFrames B (X.env::X.outer)->g.get? a=some o->o.data= .fields vs->a∉frs (X.env::X.outer):=λ{g o vs} ff e dd hm=> by
   obtain ⟨_,o1,e1,nf⟩:=ff.mem hm
   rw [e] at e1;cases e1
   exact nf _ dd
  have offA:=off fl.2.2.1 hx hdx
  have aL:a≠X.env.locals:=λz=> offA (List.mem_filterMap.mpr ⟨X.env,mem_cons_self,by rw [fr,z]⟩)
  have aF:a∉X.fs:=λhm=> by
   obtain ⟨e,he,q⟩:=List.mem_filterMap.mp hm
   exact offA (List.mem_filterMap.mpr ⟨e,mem_cons_of_mem _ he,q⟩)
  have J2:=J1.suite hx hdx na aL aF
  have ty:PySem.W.Looks (model X.prog X.w) h (typeOf (.ref a)) cls:=λA Q E s k q=> wpAny_typeOf_ref (k _ _ hx) (by rw [(zc _ hzx).1];exact q)
  have hit:=PySem.W.exm_one (M:=model X.prog X.w) (J1.kIn) ty hy
  have named:∀{Q:Value->Shared->Prop} {E:Value->Shared->Prop},Q c { s with heap:=h }->wpAny (model X.prog X.w) (X.A.mark (some (.ref a))) (eval (.Name x np) X.env) Q E { s with heap:=h }:=λ{Q E} q=> by
   obtain ⟨g1,g2,g3 | ⟨g3,g4,g5⟩⟩:=hc
   ·exact ld_glob (X:=X.suite a ((a,ox)::(X.pn++pins))) J2 g1 g3 q g2
   ·exact ld_blt (X:=X.suite a ((a,ox)::(X.pn++pins))) J2 g1 g3 g4 q g5 g2
  refine wpAny_handleBy_cons (codeAny_handlers_test (named (hit.here ?_))) (by intro z;cases z)
  cases y with
  | false=> exact ih (no rfl)
  | true=>
   refine codeAny_handlers_suite_as (HandSPX.lands_againZ fl λg flg ug=> ?_)
   have J3:L2.Inv X pins σ H { s with heap:=g }:=J.landed kb flg.1 ((up.trans uph).trans ug) os ag
   obtain ⟨oy,ys,hoy,hzy,hdy⟩:=flg.there
   have J4:=J3.suite hoy hdy na aL aF
   refine store_ok (X:=X.suite a ((a,oy)::(X.pn++pins))) (v:= .ref a) J4 nd hi lc rfl (λs5 J5=> ?_) (.inr hln)
   refine wpAny_mono ((hsu a oy cls d (X.pn++pins) (zc _ hzy) ⟨_,hdy⟩).run [] s5 _ H _ J5 (yes rfl a na)) (λf s6 done=> ?_) (λ_ _ z=> False.elim z)
   have shut:∀{σ6:L2.St} {H6:Hp} {Q:Shared->Prop},L2.Inv (X.suite a ((a,oy)::(X.pn++pins))) [] σ6 H6 s6->(∀s7,L2.Inv X pins (σ6.set i none) H6 s7->Q s7)->
     wpAny (model X.prog X.w) X.A (do bindName X.env n .none;unbindBehindTheSuite X.env n pos) (λ_ s7=> Q s7) X.xe s6:=λ{σ6 H6 Q} J6 hq=> gone_ok (J6.unsuite ok) nd hi hln hq
   cases f with
   | next=>
    obtain ⟨σ6,H6,J6,q6⟩:=done
    exact shut J6 λs7 J7=> ⟨_,_,J7,q6⟩
   | brk=>
    obtain ⟨σ6,H6,J6,q6⟩:=done
    exact shut J6 λs7 J7=> ⟨_,_,J7,q6⟩
   | cont=>
    obtain ⟨σ6,H6,J6,q6⟩:=done
    exact shut J6 λs7 J7=> ⟨_,_,J7,q6⟩
   | ret v=>
    obtain ⟨v6,σ6,H6,J6,r6,q6⟩:=done
    exact shut J6 λs7 J7=> ⟨_,_,_,J7,r6,q6⟩
end
abbrev XT:=AExc->(W->Prop)->Prop
abbrev XTs:=AExc->(List W->Prop)->Prop
def A4n (t:XT):Prop:=∀x K K',(∀w,K w->K' w)->t x K->t x K'
def A8U (t:XTs):Prop:=∀x K K',(∀w,K w->K' w)->t x K->t x K'
structure XS (G:Gx) (i:Nat) (a:Addr) (cls:Value) (d:Option Addr) (x:AExc) (env:A0) (h:AH) (σ:L2.St) (H:Hp):Prop where
 bs:BS G env h σ H
 at_:σ[i]? =some (some (V.ref a))
 rep:wat G.K H x cls d
theorem wat.new {K:PySem.W.Frag} {H H':Hp} {x:AExc} {cls:Value} {d:Option Addr} (n:New H H') (r:wat K H x cls d):wat K H' x cls d:=by
 obtain ⟨e,dd,vs,ed,ea,f1,f2⟩:=r
 exact ⟨e,dd,vs,ed,n _ _ ea,f1,waa.mono n.keeps _ _ f2⟩
structure XV (X:Cx) (G:Gx) (i:Nat) (ks:List Str) (e:Expr) (t:XT):Prop where
 mono:A4n t
 pe:∀(a:Addr) (oe:Obj) (cls:Value) (d:Option Addr) (pn:List (Addr×Obj)),Zc cls d oe->(∃vs,oe.data= .fields vs)->PE (X.suite a ((a,oe)::pn)) e (λσ H Q=> ∃x env h,XS G i a cls d x env h σ H/\x.n∈ks/\
  t x λw=> ∀v H',New H H'->Rep G.K H' w v->Q v H')
structure XVs (X:Cx) (G:Gx) (i:Nat) (ks:List Str) (es:List Expr) (t:XTs):Prop where
 mono:A8U t
 pa:∀(a:Addr) (oe:Obj) (cls:Value) (d:Option Addr) (pn:List (Addr×Obj)),Zc cls d oe->(∃vs,oe.data= .fields vs)->PA (X.suite a ((a,oe)::pn)) es (λσ H Q=> ∃x env h,XS G i a cls d x env h σ H/\x.n∈ks/\
  t x λws=> ∀vs H',New H H'->waa G.K H' ws vs->Q vs H')
theorem wai.lookup {K:PySem.W.Frag} {H:Hp}:∀{fs:List (Str×W)} {vs:List (Str×V)} {f:Str} {w:W},wai K H fs vs->fs.lookup f=some w->∃v,vs.lookup f=some v/\Rep K H w v
 | [],_,_,_,_,e=> by cases e
 | (g,x)::fs,vs,f,w,⟨n,r⟩,e=> by
  obtain ⟨v,t,ev,rv,rt⟩:=waa.of_cons (K:=K) (H:=H) r
  cases vs with
  | nil=> cases ev
  | cons p vs=>
   obtain ⟨g',y⟩:=p
   simp only [map_cons,List.cons.injEq] at n ev
   obtain ⟨n1,n2⟩:=n
   obtain ⟨v1,v2⟩:=ev
   subst n1 v1 v2
   rw [lookup_cons] at e ⊢
   cases q:(f==g) with
   | true=>
    rw [q] at e
    cases e
    exact ⟨_,rfl,rv⟩
   | false=>
    rw [q] at e
    exact wai.lookup (fs:=fs) (vs:=vs) ⟨n2,rt⟩ e
section
variable {X:Cx} {G:Gx} {i:Nat} {ks:List Str} {n f:Str} {p pos:Pos} {e:Expr} {es:List Expr}
end
abbrev HdL:=List (Str×Nat×Nat×XT)
def A4W (env:A0):Bool:=env.all λo=> match o with
 | some (.own _)=> false
 | _=> true
theorem A3H {env:A0} (h:A4W env=true) {i:Nat} {c:Cont} (e:env[i]? =some (some (.own c))):False:=by
 have z:=all_eq_true.mp h _ (List.mem_of_getElem? e)
 cases z
theorem BS.into {G:Gx} {env:A0} {h:AH} {σ:L2.St} {H:Hp} (S:BS G env h σ H) (no:A4W env=true):BS ⟨G.K,h,H⟩ env h σ H:=
 ⟨S.len,S.val,λi c e=> (A3H no e).elim,λi j c c' p e=> (A3H no e).elim,S.hp,λp o e _ _=> e,λa o e n=> (by have n:h a=none:=n;rw [n] at e;cases e),λp o e=> ⟨o,e⟩,S.tabs⟩
theorem BS.keeps {K:PySem.W.Frag} {G:Gx} {env env':A0} {h h':AH} {σ σ':L2.St} {H H':Hp} (S:BS G env h σ H) (T:BS ⟨K,h,H⟩ env' h' σ' H'):Keeps H H':=λp o e i=> T.fr p o e (S.imm e i).1 i.nt
inductive HdA (X:Cx) (ks:List Str):List ExceptHandler->HdL->Prop where
 | nil:HdA X ks [] []
 | cons {c n y:Str} {i j:Nat} {e:Expr} {np py pos pos':Pos} {sv:XT} {hds:List ExceptHandler} {l:HdL} (hi:X.N[i]? =some n) (hln:X.env.kindOf n=some .local) (hg:Gl X c) (hm:X.mg c=some (.ref (He.ga X.K c)))
   (ex:∀k∈ks,PySem.W.exmOne X.K (.ref (He.ga X.K k)) (.ref (He.ga X.K c))=some (A2F k c)) (hj:X.N[j]? =some y) (hy:Loc X.env.scope y) (fy:X.fn y=true\/X.env.scope.names.lookup y=some .local) (ne:i≠j)
   (hv:∀G:Gx,G.K=X.K->XV X G i ks e sv) (hs:swapsWithSole [.Name y py] e pos.line X.env=pure false) (hw:swappedStores [.Name y py] e X.env=pure none) (h1:(assignEach [.Name y py] X.env).map (·.2)=[assign (.Name y py) X.env])
   (hdb:(c==("__debug__":Str))=false) (t:HdA X ks hds l):HdA X ks (.ExceptHandler (some (.Name c np)) (some n) [.Assign [.Name y py] e pos] pos'::hds) ((c,i,j,sv)::l)
section
variable {X:Cx} {G:Gx} {ks:List Str} {hs:HdL} {body:List Stmt} {h₀:ExceptHandler} {hds:List ExceptHandler} {t:(AExc->A0->AH->Prop)->B9} {E:AExc->A0->AH->Prop} {pos:Pos}
def GLe (G G':Gx):Prop:=∀H:Hp,(∀p o,G'.H0 p=some o->G'.h0 p=none->NT o->H p=some o)->∀p o,G.H0 p=some o->G.h0 p=none->NT o->H p=some o
theorem GLe.refl {G:Gx}:GLe G G:=λ_ h=> h
theorem _root_.Ab.LamHas.to {Z:Cx} {G':Gx} {f:Addr} {n:Nat} {sp:A5} (L:LamHas Z G f n sp) (g:GLe G G') (pn:List (Addr×Obj)) (xe:Value->Shared->Prop):LamHas (Z.tr pn xe) G' f n sp:=
 ⟨L.m,λs H k=> L.fn s H (g H k),λs H us vs Q E k=> L.run s H us vs Q E (g H k)⟩
end
section
variable {prog:Program} {w:World} {A:Around} {R:Result->Shared->Prop} {I:Addr} {fp wr:List Addr} {n:Nat} {P:Nat->Value->Prop} {St:Nat->Heap->Prop}
end
section
variable {prog:Program} {w:World} {A:Around} {E:Value->Shared->Prop} {s:Shared} {l:Addr} {xs:Array (Int×Tok)}
end
section
variable {X:Cx} {G:Gx} {e:Expr} {p pos kpos cp:Pos} {j:Nat} {t:J0}
end
section
variable {X:Cx} {G:Gx} {c:Expr} {body:List Stmt} {pos:Pos} {tc:C2} {tb:B9}
end
section
variable {prog:Program} {w:World} {K:Type} [DecidableEq K] {kd:KeyKind prog w K} {A:Around} {E:Value->Shared->Prop} {s:Shared}
end
section
variable {X:Cx} {pins:List (Addr×Obj)} {σ:L2.St} {H:Hp} {s:Shared} {a:Addr} {kvs:List (List Key×V)} {A:Around} {E:Value->Shared->Prop} {o i e:Expr} {td ty tv:TE} {pos pos':Pos}
end
end Ab
namespace Ab
open PySem PySem.Spec PyProof.Rows L2 RZ
def m4 (l:List (List Int×W)):List (W×W):=(W.lst [],W.non)::l.map λp=> (W.tup (p.1.map .int),p.2)
def u5 (l:List (List Int×W)) (ns:List Int):Option W:=(l.find? λp=> decide (p.1=ns)).map (·.2)
section
variable {X:Cx} {G:Gx}
def aInT (neg:Bool) (i:Nat) (tk:A6):AT:=λenv h Q=> tk env h λw env1 h1=> (∃(l:List (List Int×W)) (ns:List Int),env1[i]? =some (some (.own (.map (m4 l))))/\w= .tup (ns.map .int)/\
 Q (.val (.bl (if neg=true then !(u5 l ns).isSome else (u5 l ns).isSome))) env1 h1)\/neg=false/\(∃l:List (List Int×W),env1[i]? =some (some (.own (.map (m4 l)))))/\w= .non/\Q (.val (.bl false)) env1 h1
theorem aInT.mono {neg:Bool} {i:Nat} {tk:A6} (m:A1 tk):A1 (aInT neg i tk):=λenv h Q Q' k q=> m env h _ _ (λw e g z=> by
 rcases z with ⟨l,ns,z1,z2,z3⟩ | ⟨z1,z2,z3,z4⟩
 ·exact .inl ⟨l,ns,z1,z2,k _ _ _ z3⟩
 ·exact .inr ⟨z1,z2,z3,k _ _ _ z4⟩) q
def aGetT (i:Nat) (tk:A6):AT:=λenv h Q=> (∃kvs,env[i]? =some (some (.own (.map kvs))))/\tk env h λw env1 h1=> ∃(l:List (List Int×W)) (ns:List Int) (v:W),env1[i]? =some (some (.own (.map (m4 l))))/\w= .tup (ns.map .int)/\
 u5 l ns=some v/\Q (.val v) env1 h1
theorem aGetT.mono {i:Nat} {tk:A6} (m:A1 tk):A1 (aGetT i tk):=λenv h Q Q' k q=> ⟨q.1,m env h _ _ (λw e g ⟨l,ns,v,z1,z2,z3,z4⟩=> ⟨l,ns,v,z1,z2,z3,k _ _ _ z4⟩) q.2⟩
def aGetDT (i:Nat) (tk td:A6):AT:=λenv h Q=> (∃kvs,env[i]? =some (some (.own (.map kvs))))/\tk env h λw env1 h1=> td env1 h1 λd env2 h2=>
 ∃(l:List (List Int×W)) (ns:List Int),env2[i]? =some (some (.own (.map (m4 l))))/\w= .tup (ns.map .int)/\Q (.val ((u5 l ns).getD d)) env2 h2
theorem aGetDT.mono {i:Nat} {tk td:A6} (m:A1 tk) (n:A1 td):A1 (aGetDT i tk td):=λenv h Q Q' k q=>
 ⟨q.1,m env h _ _ (λw e g z=> n e g _ _ (λd e g ⟨l,ns,z1,z2,z3⟩=> ⟨l,ns,z1,z2,k _ _ _ z3⟩) z) q.2⟩
end
section
variable {X:Cx} {G:Gx} {k v:Expr} {pos:Pos} {tk tv:TE}
end
section
variable {X:Cx} {G:Gx} {k v:Expr} {pos:Pos}
def aDispT (tk tv:A6):AT:=λenv h Q=> tk env h λw env1 h1=> tv env1 h1 λy env2 h2=> ∃ns:List Int,w= .tup (ns.map .int)/\Q (.own (.map (m4 [(ns,y)]))) env2 h2
theorem aDispT.mono {tk tv:A6} (m:A1 tk) (n:A1 tv):A1 (aDispT tk tv):=λenv h Q Q' k q=> m env h _ _ (λw e g z=> n e g _ _ (λy e g ⟨ns,z1,z2⟩=> ⟨ns,z1,k _ _ _ z2⟩) z) q
end
def A4M (i j:Int):Prop:=0<=j/\(PySem.Builtin.Int.intBits i:Int)*j<=2 ^ 27
section
variable {X:Cx} {G:Gx} {a b:Expr} {ta tb:AT} {pos:Pos}
end
def wap (a:Vw) (ws:List W) (Q:RV->Prop):Prop:=match ws with
 | [.int x]=> ∃ns:List Int,a.seq=some (ns.map W.int)/\x∈ns/\Q (.val (.int (ns.idxOf x)))
 | _=> False
def aIdx (to:AT) (t:B8):AT:=λenv h Q=> to env h λro env1 h1=> (∃ns:List Int,(view env1 h1 ro).seq=some (ns.map W.int))/\t env1 h1 λws env2 h2=> wap (view env2 h2 ro) ws λr=> Q r env2 h2
theorem wap.mono {a:Vw} {ws:List W} {Q Q':RV->Prop} (k:∀r,Q r->Q' r) (q:wap a ws Q):wap a ws Q':=by
 unfold wap at q ⊢
 split at q
 ·obtain ⟨ns,e,m,q⟩:=q
  exact ⟨ns,e,m,k _ q⟩
 ·exact q.elim
theorem aIdx.mono {to:AT} {t:B8} (a:A1 to) (b:A1 t):A1 (aIdx to t):=λenv h Q Q' k q=>
 a env h _ _ (λro e g z=> ⟨z.1,b e g _ _ (λws e2 g2 z=> z.mono λr q=> k _ _ _ q) z.2⟩) q
section
variable {X:Cx} {G:Gx} {o e:Expr} {es:List Expr} {to:AT} {t:B8} {apos cpos:Pos}
end
structure OkD (P:Program) (w:World) (K:PySem.W.Frag) (mg:Str->Option Value) (base:Heap) (x:Str) (st:Stmt) (k n:Nat) (ps:List Str) (kws:List (Str×V)) (sp:A5):Prop where
 m:D1 sp
 ex:∃f fd,mg x=some (.ref f)/\FunD K x x (defArgs st) (defBody st) (defScope st) [] kws f fd/\FnOk P w K mg base (Ab.CX P w) k f fd ps (M0 K n sp)
theorem OkD.mk' {P:Program} {w:World} {K:PySem.W.Frag} {mg:Str->Option Value} {base:Heap} {x:Str} {st:Stmt} {f:Addr} {fd:FuncData} {N ps:List Str} {k n:Nat} {kws:List (Str×V)} {sp:A5} {t:(AExc->A0->AH->Prop)->B9} (sm:D1 sp) (hm:mg x=some (.ref f)) (F:FunD K x x (defArgs st) (defBody st) (defScope st) [] kws f fd) (S:FnScope N ps (defScope st)) (hn:ps.length=n)
  (hb:∀(cdv:Value) (A:Around) (outer:List Env) (s:Shared) (H:Hp) (E:XK) (G:Gx) (E':AExc->A0->AH->Prop),Room k (A.deeper (envOfC x (defScope st) s.heap.objs.size f cdv))->G.K=K->Takes (bx P w K mg base N x (defScope st) f cdv A outer s H E) (cW G E')->
   ASs (bx P w K mg base N x (defScope st) f cdv A outer s H E) G (defBody st) (t E'))
  (hq:∀ws h Qa Ea,ws.length=n->sp ws h Qa Ea->t (G3 Ea) (E8 Qa) (G7 N.length ws) h):OkD P w K mg base x st (k+1) n ps kws sp:=
 ⟨sm,f,fd,hm,F,A1i [] kws F S hn hb hq⟩
section
variable {X:Cx} {G:Gx} {sp:A5} {st:Stmt} {k j n0:Nat} {ps ks:List Str} {kws0 ms:List (Str×V)} {ds:List W} {x:Str} {p pos:Pos} {e:Expr} {es:List Expr} {kws:List Keyword} {t tk:B8} {E:AExc->A0->AH->Prop} {perm:List Nat}
end
section
variable {X:Cx} {G:Gx} {sp:A5} {st:Stmt} {k j:Nat} {ps:List Str} {x:Str} {p pos:Pos} {E:AExc->A0->AH->Prop}
end
def A2G (neg:Bool):C9:=λa b Q=> ∃x y:Bool,a= .wv (.bl x)/\b= .wv (.bl y)/\Q (.val (.bl (if neg then !decide (x=y) else decide (x=y))))
section
variable {X:Cx} {G:Gx} {a b:Expr} {ta tb:AT} {pos:Pos}
end
def aRevL (ta:AT):AT:=λenv h Q=> ta env h λr env1 h1=> ∃xs,(view env1 h1 r).seq=some xs/\Q (.own (.seq xs.reverse)) env1 h1
theorem aRevL.mono {ta:AT} (m:A1 ta):A1 (aRevL ta):=λenv h Q Q' k q=> m env h _ _ (λr e g ⟨xs,z1,z2⟩=> ⟨xs,z1,k _ _ _ z2⟩) q
section
variable {X:Cx} {G:Gx} {a:Expr} {ta:AT} {k:Nat} {p1 p2 p3 pos:Pos}
end
def oLenSet:C7:=λas Q=> match as with
 | [.wv (.tup ws)]=> ∃ns:List Int,ws=ns.map W.int/\ns≠[]/\ns.length<=4000/\∀m:Int,(m=1↔∀x∈ns,∀y∈ns,x=y)->Q (.val (.int m))
 | _=> False
theorem oLenSet.mono {as:List Vw} {Q Q':RV->Prop} (k:∀r,Q r->Q' r) (q:oLenSet as Q):oLenSet as Q':=by
 unfold oLenSet at q ⊢
 split at q
 ·obtain ⟨ns,a,b,c,q⟩:=q
  exact ⟨ns,a,b,c,λm e=> k _ (q m e)⟩
 ·exact q.elim
section
variable {X:Cx} {G:Gx} {e:Expr} {p p2 q pos kpos cp:Pos} {j:Nat} {t:J0}
end
def u9 (f:Str) (w:W):List (Str×W)->List (Str×W)
 | []=> [(f,w)]
 | (g,x)::r=> if g=f then (g,w)::r else (g,x)::u9 f w r
theorem wai.put {K:PySem.W.Frag} {H:Hp} {f:Str} {w:W} {v:V} (r:Rep K H w v):∀{fs:List (Str×W)} {vs:List (Str×V)},wai K H fs vs->wai K H (u9 f w fs) (putF f v vs)
 | [],[],_=> ⟨rfl,.cons r .nil⟩
 | [],v::vs,h=> by cases h.1
 | p::fs,[],h=> by cases h.1
 | (g,x)::fs,(g',y)::vs,⟨h1,h2⟩=> by
  rw [map_cons,map_cons] at h1
  injection h1 with e1 e2
  have e1:g=g':=e1
  subst e1
  obtain ⟨v',r',e3,a,b⟩:=waa.of_cons (w:=x) (ws:=fs.map (·.2)) h2
  rw [map_cons] at e3
  injection e3 with e3 e4
  subst e3 e4
  unfold u9 putF
  by_cases q:g=f
  ·rw [if_pos q,if_pos q]
   exact ⟨by rw [map_cons,map_cons,e2],.cons r b⟩
  ·rw [if_neg q,if_neg q]
   obtain ⟨i1,i2⟩:=wai.put r (fs:=fs) (vs:=vs) ⟨e2,b⟩
   exact ⟨by rw [map_cons,map_cons,i1],.cons a i2⟩
theorem wai.mono {K:PySem.W.Frag} {H H':Hp} (k:Keeps H H') {fs:List (Str×W)} {vs:List (Str×V)} (h:wai K H fs vs):wai K H' fs vs:=⟨h.1,waa.mono k _ _ h.2⟩
theorem wai.length {K:PySem.W.Frag} {H:Hp} {fs:List (Str×W)} {vs:List (Str×V)} (h:wai K H fs vs):fs.length=vs.length:=by have:=congrArg List.length h.1;simpa using this
structure FldOk (K:PySem.W.Frag) (n f:Str):Prop where
 cl:Cls K (He.ga K n)
 no:NoAttr K (He.ga K n) f
section
variable {G:Gx} {env:A0} {h:AH} {σ:L2.St} {H:Hp}
end
def aFld (n f:Str) (t:AT):AT:=λenv h Q=> t env h λr env1 h1=> ∃a fs w,r= .val (.ref a)/\h1 a=some (.ins n fs)/\fs.lookup f=some w/\Q (.val w) env1 h1
theorem aFld.mono {n f:Str} {t:AT} (m:A1 t):A1 (aFld n f t):=λenv h Q Q' k q=> m env h _ _ (λr e g ⟨a,fs,w,z1,z2,z3,z4⟩=> ⟨a,fs,w,z1,z2,z3,k _ _ _ z4⟩) q
section
variable {X:Cx} {G:Gx} {o:Expr} {n f:Str} {to:AT} {pos:Pos}
end
structure OkM (P:Program) (w:World) (K:PySem.W.Frag) (mg:Str->Option Value) (base:Heap) (C m:Str) (st:Stmt) (k n:Nat) (ps:List Str) (kws:List (Str×V)) (sp:A5):Prop where
 sm:D1 sp
 cl:Cls K (He.ga K C)
 ex:∃f fd,Meth K (He.ga K C) m f/\FunD K m (C++"."++m) (defArgs st) (defBody st) (defScope st) [] kws f fd/\FnOk P w K mg base (Ab.CX P w) k f fd ps (M0 K n sp)
def A1d (C m:Str) (st:Stmt) (ps:List Str):Prop:=∀(kV doc pm:Value) (an:Option Addr) (cdv ct:Value) (us:List Value),us.length=ps.length->bindArgs (PySem.W.fnOf m (C++"."++m) (defArgs st) (defBody st) (defScope st) .none kV doc pm an cdv ct) ⟨us,[]⟩=pure (ps.zip us)
def kRes (Q:RV->A0->AH->Prop) (env:A0):RR->AH->Prop:=λr h2=> match r with
 | .val w=> Q (.val w) env h2
 | .own c=> Q (.own c) env h2
def aMeth (C m:Str) (E:AExc->A0->AH->Prop) (sp:A5) (to:AT) (t:B8):AT:=λenv h Q=> to env h λr env1 h1=> ∃a fs,r= .val (.ref a)/\h1 a=some (.ins C fs)/\fs.lookup m=none/\
 t env1 h1 λws env2 h2=> sp (.ref a::ws) h2 (kRes Q env2) λx h3=> E x env2 h3
theorem kRes.imp {Q Q':RV->A0->AH->Prop} {env:A0} (k:∀r e h,Q r e h->Q' r e h) (r:RR) (h:AH) (z:kRes Q env r h):kRes Q' env r h:=by
 cases r with
 | val w=> exact k _ _ _ z
 | own c=> exact k _ _ _ z
theorem aMeth.mono {C m:Str} {E:AExc->A0->AH->Prop} {sp:A5} {to:AT} {t:B8} (sm:D1 sp) (a:A1 to) (b:A1 t):A1 (aMeth C m E sp to t):=λenv h Q Q' k q=>
 a env h _ _ (λr e g ⟨p,fs,z1,z2,z3,z4⟩=> ⟨p,fs,z1,z2,z3,b e g _ _ (λws e2 g2 z=> sm _ _ _ _ _ _ (λr f y=> kRes.imp k r f y) (λx f y=> y) z) z4⟩) q
section
variable {X:Cx} {G:Gx} {sp:A5} {C m:Str} {st:Stmt} {k j n:Nat} {ps:List Str} {o e:Expr} {es:List Expr} {pos apos:Pos} {to:AT} {t:B8} {E:AExc->A0->AH->Prop}
end
structure MkC (K:PySem.W.Frag) (mg:Str->Option Value) (n:Str):Prop where
 gl:mg n=some (.ref (He.ga K n))
 makes:PySem.W.makesIn K (He.ga K n)=true
 kp:PySem.W.keepIn K (.ref (He.ga K n))=true
def kMk (Q:RV->A0->AH->Prop) (env:A0) (a:Addr):RR->AH->Prop:=λr h2=> r= .val .non/\Q (.val (.ref a)) env h2
def aMake (C:Str) (E:AExc->A0->AH->Prop) (sp:A5) (t:B8):AT:=λenv h Q=> t env h λws env1 h1=> ∀a,h1 a=none->sp (.ref a::ws) (C4 h1 a (.ins C [])) (kMk Q env1 a) λx h3=> E x env1 h3
theorem aMake.mono {C:Str} {E:AExc->A0->AH->Prop} {sp:A5} {t:B8} (sm:D1 sp) (b:A1 t):A1 (aMake C E sp t):=λenv h Q Q' k q=>
 b env h _ _ (λws e g z a n=> sm _ _ _ _ _ _ (λr f y=> ⟨y.1,k _ _ _ y.2⟩) (λx f y=> y) (z a n)) q
section
variable {G:Gx} {env:A0} {h:AH} {σ:L2.St} {H:Hp}
theorem BS.made (S:BS G env h σ H) {a dx:Addr} {C:Str} (n:H a=none) (nd:H dx=none) (ne:dx≠a):
  BS G env (C4 h a (.ins C [])) σ (upd (upd H dx (.own a)) a (.ins (He.ga G.K C) dx []))/\Xt env h σ H env (C4 h a (.ins C [])) (upd (upd H dx (.own a)) a (.ins (He.ga G.K C) dx [])):=by
 have nw:New H (upd (upd H dx (.own a)) a (.ins (He.ga G.K C) dx [])):=λp o e=> by
  have n1:p≠a:=λz=> by rw [z,n] at e;cases e
  have n2:p≠dx:=λz=> by rw [z,nd] at e;cases e
  rw [upd_ne n1,upd_ne n2];exact e
 have S1:=nw.bs S
 obtain ⟨ha,h0,no⟩:=S.noAt n
 refine ⟨⟨S1.len,S1.val,λi c e=> ?_,S1.uni,λb o e=> ?_,S1.fr,λb o e y=> ?_,S1.tr,S1.tabs⟩,⟨λp o e _ _ _=> nw p o e,λp o e y=> ?_,λp o e=> ⟨o,nw p o e⟩,λi c e=> ⟨c,e⟩⟩⟩
 ·obtain ⟨p,x,y,z,w⟩:=S1.own i c e
  have np:p≠a:=λq=> no ⟨i,c,e,q▸x⟩
  exact ⟨p,x,y,by rw [Q4 np];exact z,w⟩
 ·by_cases hb:b=a
  ·subst hb;rw [O7] at e;cases e;exact ⟨dx,[],upd_same,rfl,.nil⟩
  ·rw [Q4 hb] at e;exact S1.hp b o e
 ·by_cases hb:b=a
  ·subst hb;exact h0
  ·rw [Q4 hb] at e;exact S1.ext b o e y
 ·by_cases hb:p=a
  ·subst hb;exact n
  ·rw [Q4 hb,y] at e;cases e
end
section
variable {X:Cx} {G:Gx} {sp:A5} {C:Str} {st:Stmt} {k j n:Nat} {ps:List Str} {e:Expr} {es:List Expr} {pos p:Pos} {t:B8} {E:AExc->A0->AH->Prop}
end
section
variable {P:Program} {w:World} {K:PySem.W.Frag} {mg:Str->Option Value} {base:Heap} {C m:Str} {st:Stmt} {f:Addr} {fd:FuncData} {N ps:List Str} {k n:Nat} {kws:List (Str×V)} {sp:A5}
theorem OkM.mk' {t:(AExc->A0->AH->Prop)->B9} (sm:D1 sp) (cl:Cls K (He.ga K C)) (M:Meth K (He.ga K C) m f) (F:FunD K m (C++"."++m) (defArgs st) (defBody st) (defScope st) [] kws f fd) (S:FnScope N ps (defScope st)) (hn:ps.length=n)
  (hb:∀(cdv:Value) (A:Around) (outer:List Env) (s:Shared) (H:Hp) (E:XK) (G:Gx) (E':AExc->A0->AH->Prop),Room k (A.deeper (envOfC (C++"."++m) (defScope st) s.heap.objs.size f cdv))->G.K=K->Takes (bx P w K mg base N (C++"."++m) (defScope st) f cdv A outer s H E) (cW G E')->
   ASs (bx P w K mg base N (C++"."++m) (defScope st) f cdv A outer s H E) G (defBody st) (t E'))
  (hq:∀ws h Qa Ea,ws.length=n->sp ws h Qa Ea->t (G3 Ea) (E8 Qa) (G7 N.length ws) h):OkM P w K mg base C m st (k+1) n ps kws sp:=
 ⟨sm,cl,f,fd,M,F,A1i [] kws F S hn hb hq⟩
end
def smap (l:List (Str×W)):List (W×W):=l.map λp=> (W.str p.1,p.2)
def x7 (l:List (Str×W)) (s:Str) (w:W):List (Str×W):=if (l.any λp=> decide (p.1=s))=true then l.map (λp=> if p.1=s then (p.1,w) else p) else l++[(s,w)]
def A4Z (l:List (Str×W)) (s:Str):List (Str×W):=l.filter λp=> decide (p.1≠s)
abbrev N7 (l:List (Str×W)):W:=(Cont.map (smap l)).fz
section
variable {K:PySem.W.Frag} {H:Hp}
theorem A6Z (l:List (Str×W)):((smap l).map (·.1)).map Y0=l.map λq=> some (Sum.inr q.1):=by
 simp only [smap,map_map];rfl
theorem A1I (l:List (Str×W)):(smap l).map (·.2)=l.map (·.2):=by
 simp only [smap,map_map];rfl
theorem A2s {α:Type}:∀{a b:List α},a.map some=b.map some->a=b
 | [],[],_=> rfl
 | [],_::_,e=> by cases e
 | _::_,[],e=> by cases e
 | x::a,y::b,e=> by
  rw [map_cons,map_cons] at e
  injection e with e1 e2
  rw [Option.some.inj e1,A2s e2]
theorem A1R {l:List (Str×W)} {ks:List (Key×V)} (e:((smap l).map (·.1)).map Y0=ks.map (λq=> some q.1)):ks.map (·.1)=l.map λq=> Sum.inr q.1:=by
 rw [A6Z] at e
 have z:(ks.map (·.1)).map some=(l.map λq=> (Sum.inr q.1:Key)).map some:=by
  rw [map_map,map_map];exact e.symm
 exact A2s z
theorem A1w {l:List (Str×W)} {ks:List (List Key×V)} (e:∃r,(smap l).map (·.1)= .lst []::r/\r.map A2U=ks.map (λq=> some q.1)):False:=by
 obtain ⟨r,e,_⟩:=e
 cases l with
 | nil=> cases e
 | cons p l=> cases e
theorem A9j {p:Addr} {l:List (Str×W)} (h:wae K H p (.map (smap l))):∃ks,H p=some (.dK ks)/\ks.map (·.1)=l.map (λq=> Sum.inr q.1)/\waa K H (l.map (·.2)) (ks.map (·.2)):=by
 rcases h with ⟨ks,e,a,b⟩ | ⟨ks,e,a,b⟩
 ·exact ⟨ks,e,A1R a,A1I l▸b⟩
 ·exact (A1w a).elim
theorem VR.smap {v:Vw} {x:V} {l:List (Str×W)} (r:VR K H v x) (e:v.toW=N7 l):∃p ks,x= .ref p/\Rd H p (.dK ks)/\ks.map (·.1)=l.map (λq=> Sum.inr q.1)/\waa K H (l.map (·.2)) (ks.map (·.2)):=by
 cases v with
 | bad=> cases e
 | cv c=>
  cases c with
  | seq ws=> cases e
  | map kvs=>
   obtain ⟨p,ex,c⟩:=r
   have e1:kvs.map (·.1)=(Ab.smap l).map (·.1):=by injection e
   have e2:kvs.map (·.2)=(Ab.smap l).map (·.2):=by injection e
   rcases c with ⟨ks,a,b,d⟩ | ⟨ks,a,b,d⟩
   ·rw [e1] at b;rw [e2,A1I] at d
    exact ⟨p,ks,ex,.inl a,A1R b,d⟩
   ·rw [e1] at b
    exact (A1w b).elim
 | wv w=>
  have e:w=N7 l:=e
  subst e
  have z:Rep K H (.dct ((Ab.smap l).map (·.1)) ((Ab.smap l).map (·.2))) x:=r
  simp only [Rep] at z
  obtain ⟨p,ex,⟨o,ks,a,b,d⟩ | ⟨o,ks,a,b,d⟩⟩:=z
  ·rw [A1I] at d
   exact ⟨p,ks,ex,.inr ⟨o,a⟩,A1R b,d⟩
  ·exact (A1w b).elim
end
def inM (neg:Bool) (v:Vw) (w:W) (Q:RV->Prop):Prop:=∃l s,v.toW=N7 l/\w= .str s/\Q (.val (.bl (if neg=true then !(l.lookup s).isSome else (l.lookup s).isSome)))
def aInM (neg:Bool) (tk:A6) (to:AT):AT:=λenv h Q=> tk env h λw env1 h1=> to env1 h1 λr env2 h2=> inM neg (view env2 h2 r) w λx=> Q x env2 h2
theorem aInM.mono {neg:Bool} {tk:A6} {to:AT} (m:A1 tk) (n:A1 to):A1 (aInM neg tk to):=λenv h Q Q' k q=> m env h _ _ (λw e g z=> n e g _ _ (λr e g ⟨l,s,z1,z2,z3⟩=> ⟨l,s,z1,z2,k _ _ _ z3⟩) z) q
section
variable {X:Cx} {G:Gx} {o k e:Expr} {pos pos':Pos} {tk tv:A6} {to:AT}
def A4v (v:Vw) (w:W) (Q:RV->Prop):Prop:=∃l s u,v.toW=N7 l/\w= .str s/\l.lookup s=some u/\Q (.val u)
def aGetM (to:AT) (tk:A6):AT:=λenv h Q=> to env h λr env1 h1=> tk env1 h1 λw env2 h2=> A4v (view env2 h2 r) w λx=> Q x env2 h2
theorem aGetM.mono {tk:A6} {to:AT} (n:A1 to) (m:A1 tk):A1 (aGetM to tk):=λenv h Q Q' k q=> n env h _ _ (λr e g z=> m e g _ _ (λw e g ⟨l,s,u,z1,z2,z3,z4⟩=> ⟨l,s,u,z1,z2,z3,k _ _ _ z4⟩) z) q
end
theorem B0H {a b:Vw} {neg:Bool} {Q:RV->Prop}:R9 neg a b Q=(match b.items with
 | some xs=> a.ok=true/\xs.all (W.dat 60)=true/\Q (.val (.bl (if neg then !R7 a.toW xs else R7 a.toW xs)))
 | none=> False):=by
 unfold R9
 cases b.items <;> simp
theorem A6W {x y:W} {ys:List W}:R7 x (y::ys)=(D2 y x || R7 x ys):=rfl
theorem B02 {x:W} {xs:List W}:atI (x::xs) 0=some x:=atI_nat (j:=0) rfl
theorem B0n {x y:W} {xs:List W}:atI (x::y::xs) 1=some y:=atI_nat (j:=1) rfl
theorem B0w {x y z:W} {xs:List W}:atI (x::y::z::xs) 2=some z:=atI_nat (j:=2) rfl
def B0i (K:PySem.W.Frag) (tl:TE):TI:=λσ H R=> tl σ H λx H1=>
 ∃a,x= .ref a/\(((∃xs,SqL K H1 a xs)/\R (Itl K a) H1)\/((∃xs,SqT K H1 a xs)/\R (Itt K a) H1))
theorem B0J {X:Cx} {tg l:Expr} {tl:TE} (hl:PE X l tl):PI X tg l (B0i X.K tl):=by
 constructor
 intro pins s σ H R I h
 refine thn (hl.run pins s σ H _ I h) ?_
 rintro v s1 ⟨x,H1,I1,r1,a,rfl,q⟩
 cases r1
 have fp:∀b∈[s1.heap.objs.size],FpOk X pins H1 b:=by
  intro b hb
  obtain rfl:b=s1.heap.objs.size:=by simpa using hb
  exact I1.fpOk (Nat.le_refl _) (I1.hok.fresh (Nat.le_refl _))
 rcases q with ⟨⟨xs,hq⟩,q⟩ | ⟨⟨xs,hq⟩,q⟩
 ·obtain ⟨its,rv,p,hz⟩:=I1.list hq
  apply wpAny_pyIter_list p.isList
  exact ⟨_,[s1.heap.objs.size],_,_,H1,rfl,
   I1.kept (t':=s1.toks) λb o e=> Heap.get?_push_of_some _ e,turn_list a _,⟨_,Heap.get?_push_size _ rfl,rfl,rfl⟩,fp,q⟩
 ·obtain ⟨its,rv,p,hz⟩:=I1.tuple hq
  apply wpAny_pyIter_tuple (show s1.heap.IsTuple a its.toArray from p)
  exact ⟨_,[s1.heap.objs.size],_,_,H1,rfl,
   I1.kept (t':=s1.toks) λb o e=> Heap.get?_push_of_some _ e,turn_tuple a _,⟨_,Heap.get?_push_size _ rfl,rfl,rfl⟩,fp,q⟩
def iSq (t:A6):I5:=λenv h Q=> t env h λw env' h'=> match w with
 | .lst ws=> Q ws env' h'
 | .tup ws=> Q ws env' h'
 | _=> False
theorem iSq.mono {t:A6} (m:A1 t):A1 (iSq t):=λenv h Q Q' k q=> m env h _ _ (λw e g z=> by
 split at z
 ·exact k _ _ _ z
 ·exact k _ _ _ z
 ·exact z) q
section
variable {X:Cx} {G:Gx} {tg e:Expr} {st:Stmt}
theorem B0I {t:A6} (gk:G.K=X.K) (a:AV X G e t):AI X G tg e (iSq t):=by
 refine ⟨iSq.mono a.mono,PI.imp (B0J a.pe) λσ H R ⟨env,h,S,q⟩=> ?_⟩
 refine ⟨env,h,S,a.mono env h _ _ (λw env1 h1 z v H1 S1 x1 r1=> ?_) q⟩
 cases w with
 | lst ws=>
  obtain ⟨p,vs,rfl,l,r⟩:=Rep.of_lst r1
  exact ⟨p,rfl,.inl ⟨⟨vs,l.sq⟩,z _ H1 S1 x1 (gk▸A6D l r)⟩⟩
 | tup ws=>
  obtain ⟨p,vs,rfl,l,r⟩:=Rep.of_tup r1
  exact ⟨p,rfl,.inr ⟨⟨vs,gk▸l⟩,z _ H1 S1 x1 (gk▸A6V l r)⟩⟩
 | _=> exact z.elim
def aFrz (i:Nat) (t:B9):B9:=λD env h=> match env[i]? with
 | some (some (.own c))=> t D (env.set i (some (.val c.fz))) h
 | some (some (.val _))=> t D env h
 | _=> False
theorem aFrz.mono {i:Nat} {t:B9} (m:P0 t):P0 (aFrz i t):=λD D' env h l q=> by
 unfold aFrz at q ⊢
 split at q
 ·exact m _ _ _ _ l q
 ·exact m _ _ _ _ l q
 ·exact q
end
section
variable {X:Cx}
def A0b:C7:=λas Q=> match as with
 | [a]=> ∃ns:List Int,a.items=some (ns.map W.int)/\Q (.val (.int ns.sum))
 | _=> False
end
abbrev P9:=A0->AH->((AH->Prop)->List W->A0->AH->Prop)->Prop
def A0d (t:P9):Prop:=∀env h Q Q',(∀ok ws e k,Q ok ws e k->Q' ok ws e k)->t env h Q->t env h Q'
def A8d (G:Gx) (J:It) (H1:Hp) (ok:AH->Prop) (ws:List W):Prop:=∀h H,(∀a o,h a=some o->wam G.K H a o)->Keeps H1 H->ok h->∀i:Nat,(ws.length<=i->J.stop i H)/\∀w,ws[i]? =some w->J.go i H/\∀x H',J.yld i H x H'->New H H'/\Rep G.K H' w x
def cIL (G:Gx) (t:P9):TI:=λσ H R=> ∃env h,BS G env h σ H/\t env h λok ws env' h'=> ∀J H',BS G env' h' σ H'->Xt env h σ H env' h' H'->A8d G J H' ok ws->R J H'
structure AI2 (X:Cx) (G:Gx) (tg iter:Expr) (t:P9):Prop where
 mono:A0d t
 pi:PI X tg iter (cIL G t)
def B0b (t:I5):P9:=λenv h Q=> t env h λws e k=> Q (λ_=> True) ws e k
theorem AI.two {X:Cx} {G:Gx} {tg e:Expr} {t:I5} (a:AI X G tg e t):AI2 X G tg e (B0b t):=
 ⟨λenv h Q Q' k q=> a.mono env h _ _ (λws e g z=> k _ _ _ _ z) q,PI.imp a.pi λσ H R ⟨env,h,S,q⟩=> ⟨env,h,S,a.mono env h _ _ (λws e g z J H' S1 x1 gv=> z J H' S1 x1 λ_ H'' _ kk _=> gv H'' kk) q⟩⟩
def wav (h:AH) (r:RV) (Q:(AH->Prop)->List W->Prop):Prop:=match r with
 | .val (.ref a)=> ∃ws,h a=some (.cont (.seq ws))/\Q (λk=> k a=some (.cont (.seq ws))) ws
 | .val (.lst ws)=> Q (λ_=> True) ws
 | .val (.tup ws)=> Q (λ_=> True) ws
 | _=> False
def iLive (t:AT):P9:=λenv h Q=> t env h λr env1 h1=> wav h1 r λok ws=> Q ok ws env1 h1
def iLvE (t:AT):P9:=λenv h Q=> t env h λr env1 h1=> wav h1 r λok ws=> Q ok (b8 ws) env1 h1
theorem wav.imp {h:AH} {r:RV} {Q Q':(AH->Prop)->List W->Prop} (k:∀ok ws,Q ok ws->Q' ok ws) (z:wav h r Q):wav h r Q':=by
 unfold wav at z ⊢
 split at z
 ·obtain ⟨ws,e,z⟩:=z;exact ⟨ws,e,k _ _ z⟩
 ·exact k _ _ z
 ·exact k _ _ z
 ·exact z
theorem iLive.mono {t:AT} (m:A1 t):A0d (iLive t):=λenv h Q Q' k q=> m env h _ _ (λr e g z=> wav.imp (λok ws y=> k _ _ _ _ y) z) q
theorem iLvE.mono {t:AT} (m:A1 t):A0d (iLvE t):=λenv h Q Q' k q=> m env h _ _ (λr e g z=> wav.imp (λok ws y=> k _ _ _ _ y) z) q
section
variable {X:Cx} {G:Gx} {tg e:Expr}
end
def waj (ok:AH->Prop) (g:C5) (tb:B9) (D:AEnds):List W->A0->AH->Prop
 | []=> λenv h=> ok h/\D.nx env h
 | w::ws=> λenv h=> ok h/\g w env h λenv1 h1=> tb { D with nx:=waj ok g tb D ws,ct:=waj ok g tb D ws,bk:=D.nx } env1 h1
theorem waj.mono {ok:AH->Prop} {g:C5} {tb:B9} (mg:R5 g) (mt:P0 tb) {D D':AEnds} (l:D.Le D'):∀(ws:List W) env h,waj ok g tb D ws env h->waj ok g tb D' ws env h
 | [],env,h,q=> ⟨q.1,l.nx _ _ q.2⟩
 | w::ws,env,h,q=> ⟨q.1,mg w env h _ _ (λe k z=> mt { D with nx:=waj ok g tb D ws,ct:=waj ok g tb D ws,bk:=D.nx } { D' with nx:=waj ok g tb D' ws,ct:=waj ok g tb D' ws,bk:=D'.nx } e k ⟨waj.mono mg mt l ws,l.rt,l.nx,waj.mono mg mt l ws⟩ z) q.2⟩
section
variable {X:Cx} {G:Gx} {tg iter:Expr} {body:List Stmt} {pos:Pos}
end
def wak (ok:AH->Prop) (vs:List Nat) (g:C5) (tt:C2) (te:A6) (Q:List W->A0->AH->Prop):List W->List W->A0->AH->Prop
 | [],acc=> λenv h=> ok h/\Q acc env h
 | w::ws,acc=> λenv h=> ok h/\g w (I7 env vs) h λe1 h1=> tt e1 h1 λb e2 h2=> if b=true then te e2 h2 λy e3 h3=> acc.length < sizeLine/\wak ok vs g tt te Q ws (acc++[y]) (mend env e3 vs) h3 else wak ok vs g tt te Q ws acc (mend env e2 vs) h2
theorem wak.mono {ok:AH->Prop} {vs:List Nat} {g:C5} {tt:C2} {te:A6} (mg:R5 g) (mt:A1 tt) (me:A1 te) {Q Q':List W->A0->AH->Prop} (k:∀a e h,Q a e h->Q' a e h):∀(ws acc:List W) env h,wak ok vs g tt te Q ws acc env h->wak ok vs g tt te Q' ws acc env h
 | [],acc,env,h,q=> ⟨q.1,k _ _ _ q.2⟩
 | w::ws,acc,env,h,q=> ⟨q.1,mg _ _ _ _ _ (λe1 h1 z=> mt _ _ _ _ (λb e2 h2 z=> by
  cases b with
  | true=> rw [if_pos rfl] at z ⊢;exact me _ _ _ _ (λy e3 h3 z=> ⟨z.1,wak.mono mg mt me k ws _ _ _ z.2⟩) z
  | false=> rw [if_neg Bool.false_ne_true] at z ⊢;exact wak.mono mg mt me k ws _ _ _ z) z) q.2⟩
def del (H:Hp) (D:Addr):Hp:=λp=> if p=D then none else H p
theorem A3N {H:Hp} {D:Addr}:del H D D=none:=by unfold del;rw [if_pos rfl]
theorem del_ne {H:Hp} {D p:Addr} (n:p≠D):del H D p=H p:=by unfold del;rw [if_neg n]
theorem A3Q {H:Hp} {D p:Addr} {o:HO} (e:del H D p=some o):p≠D/\H p=some o:=by
 have n:p≠D:=λz=> by rw [z,A3N] at e;cases e
 exact ⟨n,(del_ne n).symm.trans e⟩
theorem Xt.del {env env':A0} {h h':AH} {σ:L2.St} {H H':Hp} {D:Addr} (x:Xt env h σ H env' h' H'):Xt env h σ (del H D) env' h' H':=
 ⟨λp o e n w t=> x.fr p o (A3Q e).2 n w t,λp o e n=> by
  by_cases q:p=D
  ·rw [q];exact A3N
  ·rw [del_ne q];exact x.hn p o e n,λp o e=> x.th p o (A3Q e).2,x.sl⟩
section
variable {X:Cx} {G:Gx} {elt tg iter:Expr} {ifs:List Expr} {scope:Scope} {own:List (Str×Nat)} {pos:Pos} {ti:P9} {g:C5} {tt:C2} {te:A6} {sl:List Nat}
def wan (ok:AH->Prop) (vs:List Nat) (g:C5) (tt:C2) (ti1:P9) (vs1:List Nat) (g1:C5) (tt1:C2) (te:A6) (Q:List W->A0->AH->Prop):List W->List W->A0->AH->Prop
 | [],acc=> λenv h=> ok h/\Q acc env h
 | w::ws,acc=> λenv h=> ok h/\g w (I7 env vs) h λe1 h1=> tt e1 h1 λb e2 h2=> if b=true then ti1 e2 h2 λok1 ws1 e3 h3=> wak ok1 vs1 g1 tt1 te (λacc' e4 h4=> wan ok vs g tt ti1 vs1 g1 tt1 te Q ws acc' (mend env e4 vs) h4) ws1 acc e3 h3 else wan ok vs g tt ti1 vs1 g1 tt1 te Q ws acc (mend env e2 vs) h2
variable {ti1:P9} {g1:C5} {tt1:C2} {vs1 sl1:List Nat} {tg1 iter1:Expr} {ifs1:List Expr}
theorem wan.mono {ok:AH->Prop} {vs:List Nat} (mg:R5 g) (mt:A1 tt) (mi:A0d ti1) (mg1:R5 g1) (mt1:A1 tt1) (me:A1 te) {Q Q':List W->A0->AH->Prop} (k:∀a e h,Q a e h->Q' a e h):∀(ws acc:List W) env h,wan ok vs g tt ti1 vs1 g1 tt1 te Q ws acc env h->wan ok vs g tt ti1 vs1 g1 tt1 te Q' ws acc env h
 | [],acc,env,h,q=> ⟨q.1,k _ _ _ q.2⟩
 | w::ws,acc,env,h,q=> ⟨q.1,mg _ _ _ _ _ (λe1 h1 z=> mt _ _ _ _ (λb e2 h2 z=> by
  cases b with
  | true=> rw [if_pos rfl] at z ⊢;exact mi _ _ _ _ (λok1 ws1 e3 h3 z=> wak.mono mg1 mt1 me (λacc' e4 h4 z=> wan.mono mg mt mi mg1 mt1 me k ws _ _ _ z) _ _ _ _ z) z
  | false=> rw [if_neg Bool.false_ne_true] at z ⊢;exact wan.mono mg mt mi mg1 mt1 me k ws _ _ _ z) z) q.2⟩
end
mutual
def W.nodct:W->Bool
 | .dct _ _=> false
 | .tup ws=> W.nodcts ws
 | .lst ws=> W.nodcts ws
 | .exc _ _ _=> false
 | _=> true
def W.nodcts:List W->Bool
 | []=> true
 | w::ws=> w.nodct && W.nodcts ws
end
def SV.nodct:SV->Bool
 | .val w=> w.nodct
 | .own (.seq ws)=> W.nodcts ws
 | .own (.map kvs)=> W.nodcts (kvs.map (·.2))
def A3v (e:A0):Bool:=e.all λx=> match x with
 | some sv=> sv.nodct
 | none=> true
section
variable {K:PySem.W.Frag} {H H':Hp} {q:Addr} {od:Obj} {u:HO} {kq:List (Key×V)}
theorem o8 (hq:H q=some (.frz od (.dK kq))) {p:Addr} {o:HO} (e:H p=some o) (n:∀od',o≠ .frz od' (.dK kq)):p≠q:=λz=> by
 rw [z,hq] at e;exact n od (Option.some.inj e).symm
mutual
theorem Rep.unlock (hq:H q=some (.frz od (.dK kq))) (kp:∀p o,H p=some o->Imm o->p≠q->H' p=some o):∀(w:W) (v:V),w.nodct=true->Rep K H w v->Rep K H' w v
 | .non,_,_,h=> by simpa only [Rep] using h
 | .bl _,_,_,h=> by simpa only [Rep] using h
 | .int _,_,_,h=> by simpa only [Rep] using h
 | .str _,_,_,h=> by simpa only [Rep] using h
 | .ref _,_,_,h=> by simpa only [Rep] using h
 | .ty _,_,_,h=> by simpa only [Rep] using h
 | .emp,_,_,h=> by simpa only [Rep] using h
 | .exc _ _ _,_,d,_=> by simp [W.nodct] at d
 | .tup ws,v,d,h=> by
  simp only [Rep] at h ⊢
  obtain ⟨a,vs,e,s,r⟩:=h
  refine ⟨a,vs,e,s.imp (λe=> kp _ _ e trivial (o8 hq e λ_ z=> by cases z)) id,waa.unlock hq kp ws vs ?_ r⟩
  simpa only [W.nodct] using d
 | .lst ws,v,d,h=> by
  simp only [Rep] at h ⊢
  obtain ⟨a,vs,e,⟨o,s⟩,r⟩:=h
  refine ⟨a,vs,e,⟨o,kp _ _ s trivial (o8 hq s λ_ z=> by cases z)⟩,waa.unlock hq kp ws vs ?_ r⟩
  simpa only [W.nodct] using d
 | .dct ks ws,v,d,h=> by simp only [W.nodct] at d;cases d
theorem waa.unlock (hq:H q=some (.frz od (.dK kq))) (kp:∀p o,H p=some o->Imm o->p≠q->H' p=some o):∀(ws:List W) (vs:List V),W.nodcts ws=true->waa K H ws vs->waa K H' ws vs
 | [],vs,_,h=> by simpa only [waa] using h
 | w::ws,vs,d,h=> by
  simp only [W.nodcts,Bool.and_eq_true] at d
  simp only [waa] at h ⊢
  obtain ⟨v,r,e,a,b⟩:=h
  exact ⟨v,r,e,Rep.unlock hq kp w v d.1 a,waa.unlock hq kp ws r d.2 b⟩
end
theorem wae.unlock (hq:H q=some (.frz od (.dK kq))) (kp:∀p o,H p=some o->Imm o->p≠q->H' p=some o) {p:Addr} (s:H' p=H p):∀{c:Cont},(SV.own c).nodct=true->wae K H p c->wae K H' p c
 | .seq ws,d,⟨vs,e,r⟩=> ⟨vs,s.trans e,waa.unlock hq kp _ _ d r⟩
 | .map kvs,d,.inl ⟨ks,e,t,r⟩=> .inl ⟨ks,s.trans e,t,waa.unlock hq kp _ _ d r⟩
 | .map kvs,d,.inr ⟨ks,e,t,r⟩=> .inr ⟨ks,s.trans e,t,waa.unlock hq kp _ _ d r⟩
theorem waf.unlock {o o':HO} (t:waf K H) (e:H q=some o) (n:∀ps,o≠ .tbl ps) (n2:∀φ,o≠ .ext φ):waf K (L2.upd H q o'):=λp hp=> by
 obtain ⟨ps,h1,h2,h3⟩:=t p hp
 refine ⟨ps,?_,h2,λpos cv hc=> ?_⟩
 ·rw [upd_ne (λz=> by rw [z,e] at h1;exact n _ (Option.some.inj h1))];exact h1
 ·obtain ⟨c,e1,e2⟩:=h3 pos cv hc
  refine ⟨c,e1,?_⟩
  rw [upd_ne (λz=> by rw [z,e] at e2;exact n2 _ (Option.some.inj e2))];exact e2
end
section
variable {G:Gx} {env e:A0} {h:AH} {σ σ':L2.St} {H Hk:Hp} {q:Addr} {od:Obj} {kq:List (Key×V)}
open Classical
noncomputable def u7 (G:Gx) (env:A0) (σ:L2.St) (H:Hp):Gx:=⟨G.K,λ_=> none,λp=> if wac env σ p then none else H p⟩
theorem A0M {p:Addr} {o:HO} (n:¬wac env σ p) (e:H p=some o):(u7 G env σ H).H0 p=some o:=by
 show (if wac env σ p then none else H p)=_
 rw [if_neg n];exact e
theorem A3C {p:Addr} {o:HO} (e:(u7 G env σ H).H0 p=some o):¬wac env σ p/\H p=some o:=by
 have e:(if wac env σ p then none else H p)=some o:=e
 by_cases n:wac env σ p
 ·rw [if_pos n] at e;cases e
 ·rw [if_neg n] at e;exact ⟨n,e⟩
theorem BS.lock (S:BS G env h σ H) {l:List (Str×W)} (hq:h q=some (.cont (.map (smap l)))):∃kq,H q=some (.dK kq)/\kq.map (·.1)=l.map (λp=> Sum.inr p.1)/\waa G.K H (l.map (·.2)) (kq.map (·.2))/\¬wac env σ q/\
  ∀od,BS (u7 G env σ (upd H q (.frz od (.dK kq)))) env (λ_=> none) σ (upd H q (.frz od (.dK kq)))/\Keeps H (upd H q (.frz od (.dK kq))):=by
 obtain ⟨kq,e0,e1,e2⟩:=A9j (S.hp q _ hq)
 have noq:¬wac env σ q:=λ⟨i,c,a,b⟩=> by
  obtain ⟨p,x,_,n,_⟩:=S.own i c a
  rw [b] at x;cases x
  rw [hq] at n;cases n
 refine ⟨kq,e0,e1,e2,noq,λod=> ?_⟩
 have kp:Keeps H (upd H q (.frz od (.dK kq))):=λp o e i=> by
  have n:p≠q:=λz=> by rw [z,e0] at e;cases e;exact i.elim
  rw [upd_ne n];exact e
 refine ⟨⟨S.len,λi w z=> ?_,λi c z=> ?_,S.uni,λ_ _ z=> (by cases z),λp o z _ _=> (A3C z).2,λ_ _ z=> (by cases z),λp o z=> ⟨o,(A3C z).2⟩,S.tabs.upd λo z=> (by rw [e0] at z;cases z;trivial)⟩,kp⟩
 ·obtain ⟨v,a,b⟩:=S.val i w z;exact ⟨v,a,Rep.mono kp w v b⟩
 ·obtain ⟨p,a,b,_,_⟩:=S.own i c z
  have np:p≠q:=λy=> noq ⟨i,c,z,y▸a⟩
  refine ⟨p,a,b.mono kp (upd_ne np),rfl,?_⟩
  show (if wac env σ p then none else _)=none
  rw [if_pos ⟨i,c,z,a⟩]
theorem BS.open (S:BS G env h σ H) {l:List (Str×W)} (hq:h q=some (.cont (.map (smap l)))) (e0:H q=some (.dK kq)) (Sk:BS (u7 G env σ (upd H q (.frz od (.dK kq)))) e (λ_=> none) σ' Hk) (nd:A3v e=true):
  Hk q=some (.frz od (.dK kq))/\BS G e h σ' (upd Hk q (.dK kq))/\Keeps H (upd Hk q (.dK kq)):=by
 have noq:¬wac env σ q:=λ⟨i,c,a,b⟩=> by
  obtain ⟨p,x,_,n,_⟩:=S.own i c a
  rw [b] at x;cases x
  rw [hq] at n;cases n
 have fr:∀p o,H p=some o->p≠q->¬wac env σ p->NT o->Hk p=some o:=λp o e n w t=> Sk.fr p o (A0M w (by rw [upd_ne n];exact e)) rfl t
 have hk:Hk q=some (.frz od (.dK kq)):=Sk.fr q _ (A0M noq upd_same) rfl (λ_ z=> (by cases z))
 have kp:Keeps H (upd Hk q (.dK kq)):=λp o e i=> by
  have n:p≠q:=λz=> by rw [z,e0] at e;cases e;exact i.elim
  rw [upd_ne n]
  exact fr p o e n (S.imm e i).2 i.nt
 have up:∀p o,Hk p=some o->Imm o->p≠q->upd Hk q (.dK kq) p=some o:=λp o e _ n=> by rw [upd_ne n];exact e
 have at_:∀{j:Nat} {sv:SV},e[j]? =some (some sv)->sv.nodct=true:=λ{j sv} z=> by
  have:=all_eq_true.mp nd (some sv) (List.mem_of_getElem? z)
  exact this
 have not_own:∀{p:Addr} {o:HO},H p=some o->(u7 G env σ (upd H q (.frz od (.dK kq)))).H0 p=none->p≠q->wac env σ p:=λ{p o} e n ne=> Classical.byContradiction λy=> by
  rw [A0M y (show upd H q _ p=some o by rw [upd_ne ne];exact e)] at n;cases n
 refine ⟨hk,⟨Sk.len,λi w z=> ?_,λi c z=> ?_,Sk.uni,λa o z=> ?_,λp o z y t=> ?_,S.ext,λp o z=> ?_,Sk.tabs.unlock hk (λ_ z=> (by cases z)) (λ_ z=> (by cases z))⟩,kp⟩
 ·obtain ⟨v,a,b⟩:=Sk.val i w z
  exact ⟨v,a,Rep.unlock hk up w v (at_ z) b⟩
 ·obtain ⟨p,a,b,_,d⟩:=Sk.own i c z
  have np:p≠q:=λy=> by
   obtain ⟨o,eo,m⟩:=b.there
   rw [y,hk] at eo;cases eo;exact m
  refine ⟨p,a,b.unlock hk up (upd_ne np) (at_ z),?_,?_⟩
  ·cases x:h p with
   | none=> rfl
   | some o=>
    obtain ⟨u,eu,_⟩:=(S.hp p o x).there
    obtain ⟨j,c',f1,f2⟩:=not_own eu d np
    obtain ⟨p',f3,_,f4,_⟩:=S.own j c' f1
    rw [f2] at f3;cases f3
    rw [f4] at x;cases x
  ·cases x:G.H0 p with
   | none=> rfl
   | some o=>
    obtain ⟨u,eu⟩:=S.tr p o x
    obtain ⟨j,c',f1,f2⟩:=not_own eu d np
    obtain ⟨p',f3,_,_,f4⟩:=S.own j c' f1
    rw [f2] at f3;cases f3
    rw [f4] at x;cases x
 ·by_cases ha:a=q
  ·subst ha
   rw [hq] at z;cases z
   exact wae.mono kp (upd_same.trans e0.symm) (show wae G.K H a (.map (smap l)) from S.hp a _ hq)
  ·obtain ⟨u,eu,m⟩:=(S.hp a o z).there
   have no:¬wac env σ a:=λ⟨j,c',f1,f2⟩=> by
    obtain ⟨p',f3,_,f4,_⟩:=S.own j c' f1
    rw [f2] at f3;cases f3
    rw [f4] at z;cases z
   exact (S.hp a o z).mono kp (by rw [upd_ne ha,fr a u eu ha no m.nt,eu])
 ·have e:=S.fr p o z y t
  have np:p≠q:=λx=> by
   subst x
   rw [S.ext p _ hq y] at z;cases z
  rw [upd_ne np]
  refine fr p o e np (λ⟨j,c',f1,f2⟩=> ?_) t
  obtain ⟨p',f3,_,_,f4⟩:=S.own j c' f1
  rw [f2] at f3;cases f3
  rw [f4] at z;cases z
 ·by_cases np:p=q
  ·subst np;exact ⟨_,upd_same⟩
  ·obtain ⟨u,eu⟩:=S.tr p o z
   have no:¬wac env σ p:=λ⟨j,c',f1,f2⟩=> by
    obtain ⟨p',f3,_,_,f4⟩:=S.own j c' f1
    rw [f2] at f3;cases f3
    rw [f4] at z;cases z
   obtain ⟨u',eu'⟩:=Sk.tr p u (A0M no (by rw [upd_ne np];exact eu))
   exact ⟨u',by rw [upd_ne np];exact eu'⟩
theorem BS.le {G:Gx} {env:A0} {h h':AH} {σ:L2.St} {H:Hp} (S:BS G env h σ H) (l:AH.Le h' h):BS G env h' σ H:=
 ⟨S.len,S.val,λi c e=> (by
  obtain ⟨p,a,b,d,f⟩:=S.own i c e
  refine ⟨p,a,b,?_,f⟩
  cases z:h' p with
  | none=> rfl
  | some u=> rw [l p u z] at d;cases d),S.uni,λa o e=> S.hp a o (l a o e),S.fr,λa o e=> S.ext a o (l a o e),S.tr,S.tabs⟩
end
def itL (a b:Nat) (tb:B9) (D:A0->Prop):List (Str×W)->A0->Prop
 | [],e=> A3v e=true/\D e
 | p::r,e=> tb ⟨λe' _=> itL a b tb D r e',λ_ _ _=> False,λ_ _=> False,λe' _=> itL a b tb D r e'⟩ ((e.set a (some (.val (.str p.1)))).set b (some (.val p.2))) λ_=> none
theorem itL.mono {a b:Nat} {tb:B9} (m:P0 tb) {D D':A0->Prop} (k:∀e,D e->D' e):∀(l:List (Str×W)) (e:A0),itL a b tb D l e->itL a b tb D' l e
 | [],e,q=> ⟨q.1,k e q.2⟩
 | p::r,e,q=> m ⟨λe' _=> itL a b tb D r e',λ_ _ _=> False,λ_ _=> False,λe' _=> itL a b tb D r e'⟩ ⟨λe' _=> itL a b tb D' r e',λ_ _ _=> False,λ_ _=> False,λe' _=> itL a b tb D' r e'⟩ _ _ ⟨λe' _ z=> itL.mono m k r e' z,λ_ _ _ z=> z,λ_ _ z=> z,λe' _ z=> itL.mono m k r e' z⟩ q
section
variable {X:Cx} {G:Gx} {i a b:Nat} {n f A B Sn:Str} {body:List Stmt} {pos p1 p2 p3 p4 p5 p6 p7:Pos} {k0:Nat} {tb:B9}
end
def Sta (H H':Hp):Prop:=∀p o,H p=some o->NT o->H' p=some o
section
variable {G:Gx} {env e:A0} {h:AH} {σ σ':L2.St} {H H':Hp}
theorem Sta.keeps (s:Sta H H'):Keeps H H':=λp o e i=> s p o e i.nt
theorem BS.same (S:BS G env h σ H) (s:Sta H H') (th:∀p o,H p=some o->∃u,H' p=some u) (tb:waf G.K H'):BS G env h σ H'/\Xt env h σ H env h H':=by
 refine ⟨⟨S.len,λi w z=> ?_,λi c z=> ?_,S.uni,λa o z=> ?_,λp o z y t=> s p o (S.fr p o z y t) t,S.ext,λp o z=> ?_,tb⟩,⟨λp o e _ _ t=> s p o e t,λp o e n=> (by rw [n] at e;cases e),th,λi c e=> ⟨c,e⟩⟩⟩
 ·obtain ⟨v,a,b⟩:=S.val i w z;exact ⟨v,a,Rep.mono s.keeps w v b⟩
 ·obtain ⟨p,a,b,d,f⟩:=S.own i c z
  obtain ⟨u,eu,m⟩:=b.there
  exact ⟨p,a,b.mono s.keeps ((s p u eu m.nt).trans eu.symm),d,f⟩
 ·obtain ⟨u,eu,m⟩:=(S.hp a o z).there
  exact (S.hp a o z).mono s.keeps ((s a u eu m.nt).trans eu.symm)
 ·obtain ⟨u,eu⟩:=S.tr p o z;exact th p u eu
def VOnly (e:A0):Prop:=∀(i:Nat) (c:Cont),e[i]? ≠some (some (.own c))
theorem VOnly.set (v:VOnly e) {a:Nat} {w:W}:VOnly (e.set a (some (.val w))):=λi c z=> by
 by_cases hi:a=i
 ·subst hi
  by_cases hl:a < e.length
  ·rw [getElem?_set_self hl] at z;cases z
  ·rw [getElem?_eq_none (by rw [length_set];omega)] at z;cases z
 ·rw [getElem?_set_ne hi] at z;exact v i c z
theorem VOnly.no (v:VOnly e) {p:Addr}:¬wac e σ p:=λ⟨i,c,z,_⟩=> v i c z
end
def A2B (a b:Nat) (e0:A0) (p:Str×W):A0:=(e0.set a (some (.val (.str p.1)))).set b (some (.val p.2))
def dcL (a b:Nat) (tk tv:A6) (Q:List (Str×W)->Prop) (e0:A0):List (Str×W)->List (Str×W)->Prop
 | [],acc=> W.nodcts (acc.map (·.2))=true/\Q acc
 | p::r,acc=> tk (A2B a b e0 p) (λ_=> none) λw e2 _=> e2=A2B a b e0 p/\tv (A2B a b e0 p) (λ_=> none) λu _ _=> ∃s,w= .str s/\acc.length < sizeLine/\dcL a b tk tv Q e0 r (x7 acc s u)
theorem dcL.mono {a b:Nat} {tk tv:A6} {e0:A0} (mk:A1 tk) (mv:A1 tv) {Q Q':List (Str×W)->Prop} (k:∀l,Q l->Q' l):∀(l acc:List (Str×W)),dcL a b tk tv Q e0 l acc->dcL a b tk tv Q' e0 l acc
 | [],acc,q=> ⟨q.1,k _ q.2⟩
 | p::r,acc,q=> mk _ _ _ _ (λw e2 _ ⟨z1,z2⟩=> ⟨z1,mv _ _ _ _ (λu _ _ ⟨s,y1,y2,y3⟩=> ⟨s,y1,y2,dcL.mono mk mv k r _ y3⟩) z2⟩) q
section
variable {X:Cx} {G:Gx} {i a b:Nat} {n f A B Sn:Str} {kx vx:Expr} {pos p1 p2 p3 p4 p5 p6 p7:Pos} {k0:Nat} {tk tv:A6} {scope:Scope} {own:List (Str×Nat)}
end
section
variable {X:Cx} {CX:CXT} {k:Nat} {f C:Addr} {fd:FuncData} {ps:List Str} {sp:Sp} {E:XK}
open Builtin in
structure NeOk (K:PySem.W.Frag) (C:Addr):Prop where
 ne:PySem.W.findIn K (.ref C) "__ne__"=some (some (.builtin "object.__ne__"))
 mr:PySem.W.mroIn K C (.type "object")=some true
open Builtin in
end
def aOwn (C:Str) (sp:A5) (po:RR->(RV->Prop)->Prop) (to:AT):AT:=λenv h Q=> to env h λr env1 h1=> ∃a fs,r= .val (.ref a)/\h1 a=some (.ins C fs)/\sp [.ref a] h1 (λx h2=> po x λy=> Q y env1 h2) λ_ _=> False
def A9P (po:RR->(RV->Prop)->Prop):Prop:=∀r K K',(∀y,K y->K' y)->po r K->po r K'
theorem aOwn.mono {C:Str} {sp:A5} {po:RR->(RV->Prop)->Prop} {to:AT} (sm:D1 sp) (pm:A9P po) (m:A1 to):A1 (aOwn C sp po to):=λenv h Q Q' k q=>
 m env h _ _ (λr e g ⟨a,fs,z1,z2,z⟩=> ⟨a,fs,z1,z2,sm _ _ _ _ _ _ (λx f y=> pm _ _ _ (λy' z=> k _ _ _ z) y) (λ_ _ z=> z) z⟩) q
section
variable {X:Cx} {G:Gx} {sp:A5} {C:Str} {st:Stmt} {k j:Nat} {ps:List Str} {o o2:Expr} {p pos:Pos} {to t2:AT}
def aEqO (C:Str) (neg:Bool) (sp:A5) (ta tb:AT):AT:=λenv h Q=> ta env h λr env1 h1=> tb env1 h1 λr2 env2 h2=> ∃a b fs gs,r= .val (.ref a)/\r2= .val (.ref b)/\h2 a=some (.ins C fs)/\h2 b=some (.ins C gs)/\
 sp [.ref a,.ref b] h2 (λx h3=> ∃k:Bool,x= .val (.bl k)/\Q (.val (.bl (if neg=true then !k else k))) env2 h3) λ_ _=> False
theorem aEqO.mono {C:Str} {neg:Bool} {sp:A5} {ta tb:AT} (sm:D1 sp) (m:A1 ta) (n:A1 tb):A1 (aEqO C neg sp ta tb):=λenv h Q Q' k q=>
 m env h _ _ (λr e g z=> n e g _ _ (λr2 e2 g2 ⟨a,b,fs,gs,z1,z2,z3,z4,z⟩=> ⟨a,b,fs,gs,z1,z2,z3,z4,sm _ _ _ _ _ _ (λx f ⟨b,y1,y2⟩=> ⟨b,y1,k _ _ _ y2⟩) (λ_ _ z=> z) z⟩) z) q
section
variable (gk:G.K=X.K) (O:OkM X.prog X.w X.K X.mg X.base C "__eq__" st k 2 ps [] sp) (bd:A1d C "__eq__" st ps) (hr:Room j X.A) (kj:k+1<=j) (ho:AE X G o to) (h2:AE X G o2 t2)
include gk O bd hr kj ho h2
end
structure IsO (K:PySem.W.Frag) (mg:Str->Option Value) (n C:Str) (b:Bool):Prop where
 gl:mg C=some (.ref (He.ga K C))
 cl:Cls K (He.ga K n)
 ca:PySem.W.findIn K (.ref (He.ga K n)) "__class__"=some (some (.builtin "object.__class__"))
 cn:PySem.W.specialIn K (.builtin "object.__class__") "__get__"=some (some (.builtin "getset_descriptor.__get__"))
 ct:PySem.W.takesIn K (.builtin "object.__class__")=some true
 cm:PySem.W.mroIn K (He.ga K n) (.type "object")=some true
 ko:PySem.W.kitOne K (.ref (He.ga K n)) (.ref (He.ga K C))=some b
 kl:PySem.W.kitOne K (.type "list") (.ref (He.ga K C))=some false
 kt:PySem.W.kitOne K (.type "tuple") (.ref (He.ga K C))=some false
 ks:PySem.W.kitOne K (.type "str") (.ref (He.ga K C))=some false
def A4C:W->Prop
 | .lst _=> True
 | .tup _=> True
 | .str _=> True
 | _=> False
end
def aMethM (C m:Str) (E:AExc->A0->AH->Prop) (sp:A5) (N:Nat) (gW:List W->List W->List W) (to:AT) (t tk:B8):AT:=λenv h Q=> to env h λr env1 h1=> ∃a fs,r= .val (.ref a)/\h1 a=some (.ins C fs)/\fs.lookup m=none/\
 t env1 h1 λws env2 h2=> tk env2 h2 λzs env3 h3=> (gW (.ref a::ws) zs).length=N/\sp (gW (.ref a::ws) zs) h3 (kRes Q env3) λx h4=> E x env3 h4
theorem aMethM.mono {C m:Str} {E:AExc->A0->AH->Prop} {sp:A5} {N:Nat} {gW:List W->List W->List W} {to:AT} {t tk:B8} (sm:D1 sp) (a:A1 to) (b:A1 t) (c:A1 tk):A1 (aMethM C m E sp N gW to t tk):=λenv h Q Q' k q=>
 a env h _ _ (λr e g ⟨p,fs,z1,z2,z3,z4⟩=> ⟨p,fs,z1,z2,z3,b e g _ _ (λws e2 g2 z=> c e2 g2 _ _ (λzs e3 g3 z=> ⟨z.1,sm _ _ _ _ _ _ (λr f y=> kRes.imp k r f y) (λx f y=> y) z.2⟩) z) z4⟩) q
def aMakeM (C:Str) (E:AExc->A0->AH->Prop) (sp:A5) (N:Nat) (gW:List W->List W->List W) (t tk:B8):AT:=λenv h Q=> t env h λws env1 h1=> tk env1 h1 λzs env2 h2=> (∀a:Addr,(gW (.ref a::ws) zs).length=N)/\∀a,h2 a=none->sp (gW (.ref a::ws) zs) (C4 h2 a (.ins C [])) (kMk Q env2 a) λx h3=> E x env2 h3
theorem aMakeM.mono {C:Str} {E:AExc->A0->AH->Prop} {sp:A5} {N:Nat} {gW:List W->List W->List W} {t tk:B8} (sm:D1 sp) (b:A1 t) (c:A1 tk):A1 (aMakeM C E sp N gW t tk):=λenv h Q Q' k q=>
 b env h _ _ (λws e g z=> c e g _ _ (λzs e g z=> ⟨z.1,λa n=> sm _ _ _ _ _ _ (λr f y=> ⟨y.1,k _ _ _ y.2⟩) (λx f y=> y) (z.2 a n)⟩) z) q
section
variable {X:Cx} {G:Gx} {sp:A5} {C m:Str} {st:Stmt} {k j n0:Nat} {ps ks:List Str} {kws0:List (Str×V)} {mz:List V} {ds:List W} {o e:Expr} {es:List Expr} {kws:List Keyword} {pos apos p:Pos} {to:AT} {t tk:B8} {E:AExc->A0->AH->Prop} {perm:List Nat}
end
def A0p (l2:List (Str×W)):List (Str×W)->Bool
 | []=> true
 | p::r=> match l2.lookup p.1 with
  | none=> false
  | some u=> D2 p.2 u && A0p l2 r
def l6 (l:List (Str×W)):Bool:=l.all λp=> p.2.dat 60
section
variable {X:Cx} {pins:List (Addr×Obj)} {σ:L2.St} {H:Hp} {s:Shared}
end
def oEqM:C9:=λa b Q=> ∃l1 l2,a.toW=N7 l1/\b.toW=N7 l2/\l6 l1=true/\l6 l2=true/\Q (.val (.bl (l1.length==l2.length && A0p l2 l1)))
theorem oEqM.mono (a b:Vw) (Q Q':RV->Prop) (k:∀r,Q r->Q' r) (q:oEqM a b Q):oEqM a b Q':=
 let ⟨l1,l2,x1,x2,c,d,q⟩:=q
 ⟨l1,l2,x1,x2,c,d,k _ q⟩
def oNeM:C9:=λa b Q=> ∃l1 l2,a.toW=N7 l1/\b.toW=N7 l2/\l6 l1=true/\l6 l2=true/\Q (.val (.bl (!(l1.length==l2.length && A0p l2 l1))))
theorem oNeM.mono (a b:Vw) (Q Q':RV->Prop) (k:∀r,Q r->Q' r) (q:oNeM a b Q):oNeM a b Q':=
 let ⟨l1,l2,x1,x2,c,d,q⟩:=q
 ⟨l1,l2,x1,x2,c,d,k _ q⟩
section
variable {X:Cx}
end
section
variable {X:Cx}
def A4p:R2:=λx y H Q=> ∃l k xs,x= .ref l/\y= .int k/\Rd H l (.lst xs)/\ -(2 ^ 63)<=k/\k < 2 ^ 63/\xs.length*k.toNat<=sizeLine/\∀p,H p=none->Q (.ref p) (upd H p (.lst (List.replicate k.toNat xs).flatten))
theorem A7O:OpR X (binaryOp .Mult) A4p:=by
 intro pins s σ H x y v u Q I rx ry h
 obtain ⟨l,k,xs,rfl,rfl,hH,h1,h2,hz,q⟩:=h
 cases rx
 obtain ⟨t,rfl⟩:=ry
 obtain ⟨z,its,n,r,e⟩:=A1j I hH
 have hl:=r.length
 have hlen:its.toArray.size*k.toNat<=sizeLine:=by rw [size_toArray,<-hl];exact hz
 have hcap:¬its.toArray.size*k.toNat > (2 ^ 63 - 1) / 8:=by
  have:(sizeLine:Nat)<=(2 ^ 63 - 1) / 8:=by decide
  omega
 have hfit:¬(!Builtin.List.listFitsIndex k)=true:=by
  rw [fitsIndex_both h1 h2]
  exact Bool.false_ne_true
 have hlong:¬Builtin.List.listTooLong (its.toArray.size*k.toNat)=true:=by
  rw [notLongL hlen]
  exact Bool.false_ne_true
 have hnew:List.foldl (λx1 x2=> x1++x2) #[] (List.replicate (if its.toArray.isEmpty=true then 0 else k.toNat) its.toArray)=(List.replicate k.toNat its).flatten.toArray:=by
  have f0:∀m:Nat,List.foldl (λx1 x2=> x1++x2) #[] (List.replicate m its.toArray)=(List.replicate m its).flatten.toArray:=λm=> by
   have:=foldl_rep its m []
   rw [List.nil_append] at this
   exact this
  rw [f0]
  cases its with
  | nil=> simp
  | cons a r'=> rw [if_neg (by simp)]
 refine wpAny_binaryOp_repeat_ref (T:="list") (U:="int") (by decide) ⟨_,e,rfl⟩ (λs'=> typeIs_int s' k t) noFill_list_mul F.fills_int_mul F.slot_int_rmul repeat_list F.slot_int_index.lookup
  (call_meets F.slot_int_rmul (typeIs_int s k t) F.entry_int_rmul (F.args_int_rmul_2 _ _) (int___rmul___int_list k t l its.toArray n)
   ⟨e,rfl,⟨_,e,rfl⟩,call_meets F.slot_list_mul ⟨_,e,rfl⟩ F.entry_list_mul (F.args_list_mul_2 _ _) (AutoListH.list___mul___list_int_3 l its.toArray n k t hfit hcap hlong) ⟨e,?_⟩⟩)
 rw [hnew]
 exact ⟨.ref _,_,I.lnew (t':=s.toks) (r.rep k.toNat) (by rw [PyProof.Rows.lm_len_rep_flat,Nat.mul_comm];exact hz),rfl,q _ I.fresh⟩
def X0 (x:Str) (n:Int):Str:=⟨(List.replicate n.toNat x.cps.toList).flatten.toArray⟩
def A4o:R2:=λx y H Q=> ∃a n,x= .str a/\y= .int n/\0<=n/\n<=1000/\a.length<=1000/\Q (.str (X0 a n)) H
theorem A28 (x:Array Nat):∀(n:Nat) (acc:Array Nat),(List.replicate n x).foldl (· ++ ·) acc=acc++(List.replicate n x.toList).flatten.toArray
 | 0,acc=> by simp
 | n+1,acc=> by
  rw [replicate_succ,List.foldl_cons,A28 x n,replicate_succ,flatten_cons]
  obtain ⟨x⟩:=x
  simp
theorem A7N:OpR X (binaryOp .Mult) A4o:=by
 intro pins s σ H x y v u Q I rx ry h
 obtain ⟨a,n,rfl,rfl,n0,n1,la,q⟩:=h
 obtain ⟨t,rfl⟩:=rx
 obtain ⟨t',rfl⟩:=ry
 have hz:a.length*n.toNat<=1000000:=Nat.le_trans (Nat.mul_le_mul la (show n.toNat<=1000 by omega)) (by decide)
 refine PySem.P.mul_str (by
  have h1:¬n < -(2 ^ 63:Int):=by omega
  have h2:¬n≥2 ^ 63:=by omega
  rw [decide_eq_false h1,decide_eq_false h2];rfl) (λh1 _=> ?_) (λ_ _=> ?_) ?_
 ·have h3:(9223372036854775:Int)<=(2 ^ 63 - 1) / n:=by
   have:=Int.le_ediv_of_mul_le (a:=9223372036854775) (b:=2 ^ 63 - 1) (c:=n) (by omega) (by omega)
   exact this
  omega
 ·unfold Builtin.Str.tooLong
  rw [decide_eq_false]
  rw [show sizeLine=16777216 from rfl]
  omega
 ·by_cases h1:n < 1
  ·rw [if_pos h1]
   have e:n=0:=by omega
   subst e
   exact ⟨by decide,.str _,H,I.tok _,⟨_,rfl⟩,q⟩
  ·rw [if_neg h1]
   by_cases h2:(n==1 || a.length==0)=true
   ·rw [if_pos h2]
    have e:X0 a n=a:=by
     rcases Bool.or_eq_true_iff.mp h2 with e | e
     ·have e:n=1:=by simpa using e
      subst e
      show Str.mk _=a
      simp
     ·have e:a.length=0:=by simpa using e
      obtain ⟨⟨c⟩⟩:=a
      have:c=[]:=eq_nil_of_length_eq_zero e
      subst this
      unfold X0
      simp
    rw [e] at q
    exact ⟨.str a,H,I,⟨t,rfl⟩,q⟩
   ·rw [if_neg h2]
    have e:(⟨(List.replicate n.toNat a.cps).foldl (· ++ ·) #[]⟩:Str)=X0 a n:=by
     unfold X0
     rw [A28]
     simp
    rw [e]
    refine ⟨?_,.str _,H,I.tok _,⟨_,rfl⟩,q⟩
    show (X0 a n).cps.size<=_
    unfold X0
    simp only [size_toArray,List.length_flatten,List.map_replicate,List.sum_replicate_nat,Array.length_toList]
    rw [show sizeLine=16777216 from rfl,Nat.mul_comm]
    exact Nat.le_trans hz (by decide)
end
def oMulX:C9:=λa b Q=> match b with
 | .wv (.int j)=> match a with
  | .wv (.int i)=> CMulW i j/\Q (.val (.int (i*j)))
  | .wv (.str x)=> (0<=j/\j<=1000/\x.length<=1000)/\Q (.val (.str (X0 x j)))
  | a=> ∃xs,a.seq=some xs/\(-(2 ^ 63)<=j/\j < 2 ^ 63/\xs.length*j.toNat<=sizeLine)/\Q (.own (.seq (List.replicate j.toNat xs).flatten))
 | _=> False
theorem oMulX.mono (a b:Vw) (Q Q':RV->Prop) (k:∀r,Q r->Q' r) (q:oMulX a b Q):oMulX a b Q':=by
 unfold oMulX at q ⊢
 split at q
 ·split at q
  ·exact ⟨q.1,k _ q.2⟩
  ·exact ⟨q.1,k _ q.2⟩
  ·obtain ⟨xs,e,z,q⟩:=q;exact ⟨xs,e,z,k _ q⟩
 ·exact q
theorem A61 {K:PySem.W.Frag}:OpA K (λx y H Q=> (rI CMulW (λi j=> .int (i*j)) x y H Q\/A4o x y H Q)\/A4p x y H Q) oMulX:=
 ⟨oMulX.mono,λa b x y H Q0 Q ra rb q k=> by
  unfold oMulX at q
  split at q
  ·rename_i j
   have ey:y= .int j:=rb.int
   split at q
   ·rename_i i
    exact .inl (.inl ⟨i,j,ra.int,ey,q.1,k _ _ (.val q.2 .int)⟩)
   ·rename_i x
    exact .inl (.inr ⟨x,j,ra.str,ey,q.1.1,q.1.2.1,q.1.2.2,k _ _ (.val q.2 .str)⟩)
   ·obtain ⟨xs,e,z,q⟩:=q
    obtain ⟨p,vs,ex,d1,r1⟩:=ra.seq e
    exact .inr ⟨p,j,vs,ex,ey,d1,z.1,z.2.1,by rw [<-r1.length];exact z.2.2,λp' n=> k _ _ (.lst n q (r1.rep _))⟩
  ·exact q.elim⟩
section
variable {X:Cx} {G:Gx} {a b:Expr} {ta tb:AT} {pos:Pos}
theorem A7W (ha:AE X G a ta) (hb:AE X G b tb):AE X G (.BinOp a .Mult b pos) (aOp2 oMulX ta tb):=j5 ((op_mulW.or A7N).or A7O) A61 ha hb
end
abbrev AJT:=A0->AH->(Str->A0->AH->Prop)->Prop
def way (v:Vw) (Q:Str->Prop):Prop:=match v with
 | .wv (.str y)=> y.length<=sizeLine/\Q y
 | .wv (.int i)=> i.natAbs.log2 < 1920/\Q (toString i)
 | _=> False
def aFmt (t:AT):AT:=λenv h Q=> t env h λr env1 h1=> way (view env1 h1 r) λy=> Q (.val (.str y)) env1 h1
theorem way.imp {v:Vw} {Q Q':Str->Prop} (k:∀y,Q y->Q' y) (q:way v Q):way v Q':=by
 unfold way at q ⊢
 split at q
 ·exact ⟨q.1,k _ q.2⟩
 ·exact ⟨q.1,k _ q.2⟩
 ·exact q
theorem aFmt.mono {t:AT} (m:A1 t):A1 (aFmt t):=λenv h Q Q' k q=> m env h _ _ (λr e g z=> z.imp λy z=> k _ _ _ z) q
def jsL:List AT->Str->AJT
 | [],acc=> λenv h Q=> Q acc env h
 | t::ts,acc=> λenv h Q=> t env h λr env1 h1=> ∃y:Str,r= .val (.str y)/\(acc++y).length<=sizeLine/\jsL ts (acc++y) env1 h1 Q
inductive AJ (X:Cx) (G:Gx):List Expr->List AT->Prop where
 | nil:AJ X G [] []
 | cons {e:Expr} {t:AT} {es:List Expr} {ts:List AT} (h:AE X G e t) (r:AJ X G es ts):AJ X G (e::es) (t::ts)
section
variable {X:Cx} {G:Gx} {e v1 v2:Expr} {t:AT} {es rest:List Expr} {ts:List AT} {pos:Pos}
theorem AJ.mono (a:AJ X G es ts):∀acc,A1 (jsL ts acc):=by
 induction a with
 | nil=> exact λacc env h Q Q' k q=> k _ _ _ q
 | cons h r ih=> exact λacc env g Q Q' k q=> h.mono env g _ _ (λr e g ⟨y,e1,e2,z⟩=> ⟨y,e1,e2,ih _ _ _ _ _ k z⟩) q
end
def A41 (x:Str):List W:=x.cps.toList.map λc=> .str ⟨#[c]⟩
section
variable {X:Cx} {G:Gx} {tg e a b o k:Expr} {t ta tb to:AT} {tk:A6} {pos:Pos}
def A4P (i j:Str):Bool:= !(Builtin.Str.occurrences j i 0 j.length 1).isEmpty
def oInS (neg:Bool):C9:=λa b Q=> match a,b with
 | .wv (.str i),.wv (.str j)=> Q (.val (.bl (if neg=true then !A4P i j else A4P i j)))
 | _,_=> False
theorem oInS.mono {neg:Bool} (a b:Vw) (Q Q':RV->Prop) (k:∀r,Q r->Q' r) (q:oInS neg a b Q):oInS neg a b Q':=by
 unfold oInS at q ⊢
 split at q
 ·exact k _ q
 ·exact q
end
section
variable {X:Cx} {G:Gx} {i a b:Nat} {n f A B Sn:Str} {kx vx:Expr} {pos p1 p2 p3 p4 p5 p6 p7:Pos} {k0:Nat} {tk tv:A6} {scope:Scope} {own:List (Str×Nat)}
end
section
variable {X:Cx} {G:Gx} {elt tg iter:Expr} {ifs:List Expr} {scope:Scope} {own:List (Str×Nat)} {pos:Pos} {ti:P9} {g:C5} {tt:C2} {te:A6} {sl:List Nat}
variable {ti1:P9} {g1:C5} {tt1:C2} {vs1 sl1:List Nat} {tg1 iter1:Expr} {ifs1:List Expr}
end
theorem VRL.three {K:PySem.W.Frag} {H:Hp} {a b c:Vw} {vs:List V} (r:VRL K H [a,b,c] vs):∃v u t,vs=[v,u,t]/\VR K H a v/\VR K H b u/\VR K H c t:=by
 cases r with
 | cons r1 rr=>
  obtain ⟨u,t,rfl,r2,r3⟩:=VRL.two rr
  exact ⟨_,u,t,rfl,r1,r2,r3⟩
def A5B (hi:Int) (n:Nat):List W:=(List.range n).map λ(i:Nat)=> W.int (hi - i)
section
variable {X:Cx} {G:Gx} {tg e:Expr} {pos:Pos} {x:Str}
end
section
variable {X:Cx} {G:Gx} {body:List Stmt} {f₀:Stmt} {fs:List Stmt} {pos:Pos} {E:AExc->A0->AH->Prop}
def A5O (x:AExc):Bool:=(match x.fs.lookup ("word":Str) with
 | some (.str t)=> t==("bad text":Str)
 | _=> false) || match x.fs.lookup ("most":Str) with
 | some (.int i)=> i==60
 | _=> false
theorem wat.hot {K:PySem.W.Frag} {H:Hp} {x:AExc} {cls:Value} {d:Option Addr} (r:wat K H x cls d) (b:A5O x=true):Hot d H:=by
 obtain ⟨_,dd,vs,ed,ea,f⟩:=r
 refine ⟨dd,vs,ed,ea,?_⟩
 unfold A5O at b
 rcases Bool.or_eq_true_iff.mp b with b | b
 ·split at b
  ·rename_i t q
   obtain ⟨v,lv,rv⟩:=wai.lookup f q
   rw [rv.of_str,eq_of_beq b] at lv
   exact .inl lv
  ·cases b
 ·split at b
  ·rename_i i q
   obtain ⟨v,lv,rv⟩:=wai.lookup f q
   rw [rv.of_int,eq_of_beq b] at lv
   exact .inr lv
  ·cases b
variable {sp:A5} {st:Stmt} {k j n:Nat} {ps:List Str} {x y:Str} {p:Pos} {e:Expr} {es:List Expr} {t:B8}
end
section
variable {P:Program} {w:World} {K:PySem.W.Frag} {mg:Str->Option Value} {base:Heap} {C m:Str} {f:Addr} {fd:FuncData} {N ps:List Str} {k n:Nat} {sp:A5} {st:Stmt} {kws:List (Str×V)}
end
section
variable {K:PySem.W.Frag}
end
section
variable {X:Cx} {G:Gx} {o k e a b tg:Expr} {to ta tb:AT} {tk:A6} {t:A6} {i j:Nat} {x y:Str} {px py pt pos apos cpos:Pos} {kt:Nat} {k2:Nat} {pt2:Pos}
end
def A7F:K4:=λxs ws Q=> match ws with
 | [.int i,y]=> xs.length < sizeLine/\0<=i/\i < 2 ^ 63/\Q (xs.take i.toNat++[y]++xs.drop i.toNat) .non
 | _=> False
def A68:K4:=λxs ws Q=> match ws with
 | []=> Q xs.reverse .non
 | _=> False
def A8D:K4:=λxs ws Q=> match ws with
 | []=> Q [] .non
 | _=> False
def A4Q (v:Vw) (w d:W) (Q:RV->Prop):Prop:=∃l s,v.toW=N7 l/\w= .str s/\Q (.val ((l.lookup s).getD d))
def isM (v:Vw):Prop:=∃l,v.toW=N7 l
def aGetMD (to:AT) (tk td:A6):AT:=λenv h Q=> to env h λr env1 h1=> isM (view env1 h1 r)/\tk env1 h1 λw env2 h2=> td env2 h2 λd env3 h3=> A4Q (view env3 h3 r) w d λx=> Q x env3 h3
theorem aGetMD.mono {tk td:A6} {to:AT} (n:A1 to) (m:A1 tk) (o:A1 td):A1 (aGetMD to tk td):=λenv h Q Q' k q=> n env h _ _ (λr e g z=> ⟨z.1,m e g _ _ (λw e g z=> o e g _ _ (λd e g ⟨l,s,z1,z2,z4⟩=> ⟨l,s,z1,z2,k _ _ _ z4⟩) z) z.2⟩) q
section
variable {X:Cx} {G:Gx} {o k e:Expr} {apos cpos:Pos} {tk td:A6} {to:AT}
end
def A4S:C7:=λas Q=> match as with
 | [.wv (.int i)]=> i.natAbs.log2 < 1920/\Q (.val (.str (toString i)))
 | [.wv (.str s)]=> Q (.val (.str s))
 | _=> False
def aJoin (to te:AT):AT:=λenv h Q=> to env h λr env1 h1=> (∃s,view env1 h1 r= .wv (.str s))/\te env1 h1 λr2 env2 h2=> ∃(s:Str) (ys:List Str),view env2 h2 r= .wv (.str s)/\(view env2 h2 r2).items=some (ys.map W.str)/\(ys.map (·.length)).sum+ys.length*s.length<=16777216/\Q (.val (.str (Txt.join s ys))) env2 h2
theorem aJoin.mono {to te:AT} (a:A1 to) (b:A1 te):A1 (aJoin to te):=λenv h Q Q' k q=>
 a env h _ _ (λr e g z=> ⟨z.1,b e g _ _ (λr2 e2 g2 ⟨s,ys,z1,z2,z3,z4⟩=> ⟨s,ys,z1,z2,z3,k _ _ _ z4⟩) z.2⟩) q
section
variable {X:Cx} {G:Gx} {o e:Expr} {to te:AT} {apos pos:Pos}
end
section
variable {X:Cx} {CX:CXT} {k:Nat} {f C:Addr} {fd:FuncData} {ps:List Str} {sp:Sp} {E:XK}
end
section
variable {X:Cx} {G:Gx} {sp:A5} {C:Str} {st:Stmt} {k j:Nat} {ps:List Str} {o:Expr} {p pos:Pos} {to:AT}
end
def aM1 (o:C7) (to te:AT):AT:=λenv h Q=> to env h λr env1 h1=> (∃s,view env1 h1 r= .wv (.str s))/\te env1 h1 λr2 env2 h2=> o [view env2 h2 r,view env2 h2 r2] λx=> Q x env2 h2
theorem aM1.mono {K:PySem.W.Frag} {r:List V->Hp->VK->Prop} {o:C7} {to te:AT} (ca:CallA K r o) (a:A1 to) (b:A1 te):A1 (aM1 o to te):=λenv h Q Q' k q=>
 a env h _ _ (λr e g z=> ⟨z.1,b e g _ _ (λr2 e2 g2 z=> ca.mono _ _ _ (λx q=> k _ _ _ q) z) z.2⟩) q
def A8V:C7:=λas Q=> match as with
 | [.wv (.str a),.wv (.str b)]=> (b.length==0)=false/\a.length+2<=sizeLine/\Q (.own (.seq ((Txt.split a b).map W.str)))
 | _=> False
section
variable {X:Cx} {G:Gx} {o e:Expr} {to te:AT} {apos pos:Pos}
end
def N6 (tab:List (Str×Int)) (x:Str):Option Int:=(tab.find? λp=> decide (p.1=x)).map (·.2)
structure DcF (K:PySem.W.Frag) (w:World) (a:Addr) (tab:List (Str×Int)):Prop where
 kd:∃es n,KDict K w a es n
 hit:∀x i,N6 tab x=some i->∃t,PySem.W.nsIn K a x=some (some (.int i t))
 miss:∀x,N6 tab x=none->PySem.W.nsIn K a x=some none
def aInKD (neg:Bool) (tab:List (Str×Int)) (tk:A6):AT:=λenv h Q=> tk env h λw env1 h1=> ∃s,w= .str s/\Q (.val (.bl (if neg=true then !(N6 tab s).isSome else (N6 tab s).isSome))) env1 h1
theorem aInKD.mono {neg:Bool} {tab:List (Str×Int)} {tk:A6} (m:A1 tk):A1 (aInKD neg tab tk):=λenv h Q Q' k q=> m env h _ _ (λw e g ⟨s,z1,z2⟩=> ⟨s,z1,k _ _ _ z2⟩) q
def aIxKD (tab:List (Str×Int)) (tk:A6):AT:=λenv h Q=> tk env h λw env1 h1=> ∃s i,w= .str s/\N6 tab s=some i/\Q (.val (.int i)) env1 h1
theorem aIxKD.mono {tab:List (Str×Int)} {tk:A6} (m:A1 tk):A1 (aIxKD tab tk):=λenv h Q Q' k q=> m env h _ _ (λw e g ⟨s,i,z1,z0,z2⟩=> ⟨s,i,z1,z0,k _ _ _ z2⟩) q
section
variable {X:Cx} {G:Gx} {k:Expr} {pos dpos:Pos} {x:Str} {tab:List (Str×Int)} {tk:A6}
end
def B0B:C7:=λas Q=> match as with
 | [.wv (.bl b)]=> Q (.val (.int (if b then 1 else 0)))
 | _=> False
section
variable {X:Cx} {G:Gx} {e:Expr} {t:AT} {i:Nat}
end
section
variable {X:Cx} {G:Gx} {sp:A5} {C m:Str} {st:Stmt} {k j n0:Nat} {ps ks:List Str} {kws0:List (Str×V)} {mz:List V} {ds:List W} {o e:Expr} {es:List Expr} {kws:List Keyword} {pos apos p:Pos} {to:AT} {t tk:B8} {E:AExc->A0->AH->Prop} {perm:List Nat}
end
open Builtin in
section
variable {X:Cx} {k:Nat} {C f:Addr} {fd:FuncData} {ps:List Str} {sp:Sp}
end
def aCmG (C:Str) (neg:Bool) (sp:A5) (ta:AT) (tb:A6):AT:=λenv h Q=> ta env h λr env1 h1=> tb env1 h1 λw env2 h2=> ∃a fs,r= .val (.ref a)/\h2 a=some (.ins C fs)/\A4C w/\
 sp [.ref a,w] h2 (λx h3=> ∃k:Bool,x= .val (.bl k)/\Q (.val (.bl (if neg=true then !k else k))) env2 h3) λ_ _=> False
theorem aCmG.mono {C:Str} {neg:Bool} {sp:A5} {ta:AT} {tb:A6} (sm:D1 sp) (m:A1 ta) (n:A1 tb):A1 (aCmG C neg sp ta tb):=λenv h Q Q' k q=>
 m env h _ _ (λr e g z=> n e g _ _ (λr2 e2 g2 ⟨a,fs,z1,z2,z3,z⟩=> ⟨a,fs,z1,z2,z3,sm _ _ _ _ _ _ (λx f ⟨b,y1,y2⟩=> ⟨b,y1,k _ _ _ y2⟩) (λ_ _ z=> z) z⟩) z) q
section
variable {X:Cx} {G:Gx} {sp:A5} {C:Str} {st:Stmt} {k j:Nat} {ps:List Str} {o o2:Expr} {p pos:Pos} {to:AT} {t2:A6}
variable (gk:G.K=X.K) (O:OkM X.prog X.w X.K X.mg X.base C "__eq__" st k 2 ps [] sp) (bd:A1d C "__eq__" st ps) (hr:Room j X.A) (kj:k+1<=j) (ho:AE X G o to) (h2:AV X G o2 t2)
include gk O bd hr kj ho h2
end
end Ab
namespace PpSet
open PySem PySem.Spec PyProof.Rows L2
section
variable {X:Cx}
end
end PpSet
namespace Ab
open PySem PySem.Spec PyProof.Rows L2 RZ PpSet
section
variable {G:Gx} {env e2:A0} {h h2:AH} {σ σ2:L2.St} {H H2:Hp} {vs sl:List Nat}
end
abbrev cd (k:List Int):Int:=TS.code 64 k
def A5H (k:List Int):List (List Int)->List (List Int)
 | []=> [k]
 | b::r=> if k=b then b::r else if cd k<=cd b then k::b::r else b::A5H k r
def A2H:List (List Int)->List (List Int)
 | []=> []
 | a::r=> A5H a (A2H r)
def A8z (d:Nat) (l:List (List Int)):Prop:=∀k∈l,k.length=d/\TS.Bd 64 k
def Few (l:List (List Int)):Prop:=∃U:List (List Int),U.length<=62/\∀x∈l,x∈U
def was (vs:List Nat) (g:C5) (tt:C2) (te:A6) (Q:List (List Int)->A0->AH->Prop):List W->List (List Int)->A0->AH->Prop
 | [],acc=> λenv h=> Q acc env h
 | w::ws,acc=> λenv h=> g w (I7 env vs) h λe1 h1=> tt e1 h1 λb e2 h2=> if b=true then te e2 h2 λy e3 h3=> ∃k:List Int,y= .tup (k.map .int)/\Few acc/\was vs g tt te Q ws (acc++[k]) (mend env e3 vs) h3 else was vs g tt te Q ws acc (mend env e2 vs) h2
theorem was.mono {vs:List Nat} {g:C5} {tt:C2} {te:A6} (mg:R5 g) (mt:A1 tt) (me:A1 te) {Q Q':List (List Int)->A0->AH->Prop} (k:∀a e h,Q a e h->Q' a e h):∀(ws:List W) (acc:List (List Int)) env h,was vs g tt te Q ws acc env h->was vs g tt te Q' ws acc env h
 | [],acc,env,h,q=> k _ _ _ q
 | w::ws,acc,env,h,q=> mg _ _ _ _ _ (λe1 h1 z=> mt _ _ _ _ (λb e2 h2 z=> by
  cases b with
  | true=> rw [if_pos rfl] at z ⊢;exact me _ _ _ _ (λy e3 h3 ⟨n,z1,z2,z3⟩=> ⟨n,z1,z2,was.mono mg mt me k ws _ _ _ z3⟩) z
  | false=> rw [if_neg Bool.false_ne_true] at z ⊢;exact was.mono mg mt me k ws _ _ _ z) z) q
theorem TqT.tup_ints {K:PySem.W.Frag} {H:Hp} {k:List Int} {v:V} (r:Rep K H (.tup (k.map .int)) v):∃a,v= .ref a/\TqT K H a (k.map V.int):=by
 obtain ⟨a,vs,e,s,r⟩:=r.of_tupT
 have z:=r.of_ints
 subst z
 exact ⟨a,e,s⟩
section
variable {X:Cx} {G:Gx} {elt tg iter:Expr} {ifs:List Expr} {scope:Scope} {own:List (Str×Nat)} {pos:Pos} {ti:I5} {g:C5} {tt:C2} {te:A6} {sl:List Nat}
structure ScI (G:Gx) (P:Program) (w:World) (H1:Hp) (D:Addr) (env:A0) (h:AH) (σ:L2.St) (H:Hp) (acc:List (List Int)) (L:List (Addr×List Int)) (e:A0) (k:AH) (H':Hp):Prop where
 kp:Keeps H1 H'
 at_:H' D=some (SetTO P w D L)
 tq:∀p∈L,TqT G.K H' p.1 (p.2.map V.int)
 nd:(L.map (·.2)).Nodup
 sub:∀p∈L,p.2∈acc
 all:∀x∈acc,x∈L.map (·.2)
 bs:BS G e k σ H'
 xt:Xt env h σ H e k H'
 nD:k D=none
 no:¬wac e σ D
variable {x:Str} {p q:Pos}
end
end Ab
namespace Ab
open PySem PySem.Spec PyProof.Rows L2 RZ
section
variable {K:PySem.W.Frag} {H:Hp}
end
end Ab
namespace Ab
open PySem PySem.Spec PyProof.Rows L2 LamX
def wah (H H2:Hp):Prop:=∀p o,H p=some o->¬Mu o->NT o->H2 p=some o
theorem wah.refl (H:Hp):wah H H:=λ_ _ e _ _=> e
theorem wah.trans {H H1 H2:Hp} (a:wah H H1) (b:wah H1 H2):wah H H2:=λp o e m n=> b p o (a p o e m n) m n
theorem wah.keeps {H H1:Hp} (a:wah H H1):Keeps H H1:=λp o e i=> a p o e (λm=> m.imm i) i.nt
theorem Xt.stays {G:Gx} {env env':A0} {h h':AH} {σ:L2.St} {H H':Hp} (x:Xt env h σ H env' h' H') (S:BS G env h σ H):wah H H':=λp o e m n=>
 let ⟨a,b⟩:=S.nmu e m
 x.fr p o e a b n
structure FnB (P:Program) (w:World) (K:PySem.W.Frag) (mg:Str->Option Value) (base:Heap) (k:Nat) (H:Hp) (f:Addr) (sp:A5):Prop where
 m:D1 sp
 fn:∀(s:Shared) (H2:Hp),wah H H2->HOk P w H2 s.heap->PySem.W.FnAt f s.heap
 run:∀(A:Around) (outer:List Env) (s:Shared) (H2:Hp) (Q:VK) (E:XK),wah H H2->Room k A->Env0 P w K mg base A outer s H2->M0 K 0 sp [] H2 Q E->
  codeAny (model P w) A (.call (.ref f) ⟨[],[]⟩) (CR (Ab.CX P w) outer P w H2 s Q E) s
theorem FnB.stays {P:Program} {w:World} {K:PySem.W.Frag} {mg:Str->Option Value} {base:Heap} {k:Nat} {H H1:Hp} {f:Addr} {sp:A5} (F:FnB P w K mg base k H f sp) (a:wah H H1):FnB P w K mg base k H1 f sp:=
 ⟨F.m,λs H2 b=> F.fn s H2 (a.trans b),λA outer s H2 Q E b=> F.run A outer s H2 Q E (a.trans b)⟩
theorem FnB.up {P:Program} {w:World} {K:PySem.W.Frag} {mg:Str->Option Value} {base:Heap} {k k':Nat} {H:Hp} {f:Addr} {sp:A5} (F:FnB P w K mg base k H f sp) (a:k<=k'):FnB P w K mg base k' H f sp:=
 ⟨F.m,F.fn,λA outer s H2 Q E b hr=> F.run A outer s H2 Q E b (hr.mono a)⟩
def S9 (X:Cx) (b:Addr):Prop:=∃y,X.env.cells.lookup y=some b
def A5K (s:Shared) (b:Addr):HO:= .ext λh=> ∀v,s.heap.IsCell b v->h.IsCell b v
open Classical in
noncomputable def X7 (X:Cx) (s:Shared) (H:Hp):Hp:=λb=> if S9 X b then some (A5K s b) else H b
open Classical in
open Classical in
section
variable {X:Cx} {pins:List (Addr×Obj)} {σ:L2.St} {H H2 H':Hp} {s s':Shared} {b:Addr}
theorem A6l (c:S9 X b):X7 X s H b=some (A5K s b):=by unfold X7;rw [if_pos c]
theorem A1K (c:¬S9 X b):X7 X s H b=H b:=by unfold X7;rw [if_neg c]
theorem noC (I:Inv X pins σ H s) {o:HO} (e:H b=some o):¬S9 X b:=λ⟨y,hy⟩=> by rw [I.freeC y b hy] at e;cases e
theorem i7 (I:Inv X pins σ H s) {o:HO} (e:H b=some o):X7 X s H b=some o:=by rw [A1K (noC I e)];exact e
theorem A6T (I:Inv X pins σ H s):HOk X.prog X.w (X7 X s H) s.heap:=λb u e=> by
 by_cases c:S9 X b
 ·rw [A6l c] at e
  cases e
  obtain ⟨y,hy⟩:=c
  obtain ⟨v,o,ho,hd⟩:=I.cell y b hy
  exact ⟨λv hv=> hv,⟨o,ho⟩,λh1 h2 q st v hv=> by
   obtain ⟨o',ho',hd'⟩:=q v hv
   exact ⟨o',st _ ho',hd'⟩⟩
 ·rw [A1K c] at e
  exact (I.hok b u e).stay (λ_ _ _ q=> q) (λd q=> i7 I q) λd xs q=> i7 I q
theorem A6a (I:Inv X pins σ H s) (hf:∀x,X.fn x=true) (hex:X.ex=[]):Un X.fs [] X.H_0 (X7 X s H) X.s_0.heap s.heap:=by
 have U:Un X.fs [] X.H_0 H X.s_0.heap s.heap:=hex▸I.base
 refine ⟨U.keep,U.slot,λb o e n x=> ?_,U.there,λb xs e=> i7 I (U.tups b xs e),λb o u e=> i7 I (U.frzs b o u e),λb ps e=> ?_⟩
 ·rw [A1K]
  ·exact U.free b o e n x
  ·rintro ⟨y,hy⟩
   exact absurd (Nat.lt_of_lt_of_le (Heap.lt_size e) (I.ok.cab y b (hf y) hy)) (Nat.lt_irrefl _)
 ·obtain ⟨m,q⟩:=U.tbls b ps e
  exact ⟨m,i7 I q⟩
end
section
variable {X:Cx} {G:Gx} {env:A0} {h:AH} {σ:L2.St} {H:Hp} {s:Shared} {pins:List (Addr×Obj)} {d:LamD} {f:Addr} {k:Nat} {t:(AExc->A0->AH->Prop)->AT}
end
open Classical in
noncomputable def Gx.up (G:Gx) (H:Hp):Gx:=⟨G.K,λp=> if ∃o,H p=some o/\¬Mu o then none else G.h0 p,λp=> if ∃o,H p=some o/\¬Mu o then H p else G.H0 p⟩
section
variable {G:Gx} {env env':A0} {h h':AH} {σ σ':L2.St} {H H':Hp} {p:Addr}
theorem W7 {o:HO} (e:H p=some o) (m:¬Mu o):(G.up H).H0 p=some o/\(G.up H).h0 p=none:=by
 have c:∃o,H p=some o/\¬Mu o:=⟨o,e,m⟩
 refine ⟨?_,?_⟩
 ·unfold Gx.up;dsimp only;rw [if_pos c];exact e
 ·unfold Gx.up;dsimp only;rw [if_pos c]
theorem Y9 (c:¬∃o,H p=some o/\¬Mu o):(G.up H).H0 p=G.H0 p/\(G.up H).h0 p=G.h0 p:=by
 refine ⟨?_,?_⟩
 ·unfold Gx.up;dsimp only;rw [if_neg c]
 ·unfold Gx.up;dsimp only;rw [if_neg c]
theorem BS.up (S:BS G env h σ H):BS (G.up H) env h σ H:=by
 refine ⟨S.len,S.val,λi c e=> ?_,S.uni,S.hp,λp o e n y=> ?_,λa o e n=> ?_,λp o e=> ?_,S.tabs⟩
 ·obtain ⟨p,x,y,n,n0⟩:=S.own i c e
  refine ⟨p,x,y,n,?_⟩
  rw [(Y9 λ⟨o,z,m⟩=> m (y.mu_at z)).1]
  exact n0
 ·by_cases c:∃o,H p=some o/\¬Mu o
  ·obtain ⟨o',z,m⟩:=c
   rw [(W7 z m).1] at e
   cases e;exact z
  ·obtain ⟨a,b⟩:=Y9 (G:=G) c
   rw [a] at e;rw [b] at n
   exact S.fr p o e n y
 ·obtain ⟨u,eu,mu⟩:=(S.hp a o e).there
  obtain ⟨x,y⟩:=Y9 (G:=G) (H:=H) (p:=a) λ⟨o,z,m⟩=> by
   rw [eu] at z;cases z;exact m mu
  rw [y] at n;rw [x]
  exact S.ext a o e n
 ·by_cases c:∃o,H p=some o/\¬Mu o
  ·obtain ⟨o',z,m⟩:=c
   exact ⟨o',z⟩
  ·rw [(Y9 (G:=G) c).1] at e
   exact S.tr p o e
theorem BS.down (S1:BS G env h σ H) (S:BS (G.up H) env' h' σ' H'):BS G env' h' σ' H':=by
 refine ⟨S.len,S.val,λi c e=> ?_,S.uni,S.hp,λp o e n y=> ?_,λa o e n=> ?_,λp o e=> ?_,S.tabs⟩
 ·obtain ⟨p,x,y,n,n0⟩:=S.own i c e
  refine ⟨p,x,y,n,?_⟩
  by_cases c:∃o,H p=some o/\¬Mu o
  ·obtain ⟨o',z,m⟩:=c
   rw [(W7 z m).1] at n0;cases n0
  ·rw [(Y9 c).1] at n0
   exact n0
 ·by_cases c:∃o,H p=some o/\¬Mu o
  ·obtain ⟨o',z,m⟩:=c
   have z':=S1.fr p o e n y
   rw [z] at z';cases z'
   exact S.fr p _ (W7 z m).1 (W7 z m).2 y
  ·obtain ⟨a,b⟩:=Y9 (G:=G) c
   exact S.fr p o (a.trans e) (b.trans n) y
 ·by_cases c:∃o,H a=some o/\¬Mu o
  ·obtain ⟨o',z,m⟩:=c
   have q:=S.ext a o e (W7 z m).2
   rw [(W7 z m).1] at q;cases q
  ·obtain ⟨x,y⟩:=Y9 (G:=G) c
   rw [<-x]
   exact S.ext a o e (y.trans n)
 ·by_cases c:∃o,H p=some o/\¬Mu o
  ·obtain ⟨o',z,m⟩:=c
   exact S.tr p o' (W7 z m).1
  ·exact S.tr p o ((Y9 c).1.trans e)
end
structure FnG (X:Cx) (k:Nat) (G:Gx) (f:Addr) (sp:A5):Prop where
 m:D1 sp
 at_:∀(H:Hp) (s:Shared),(∀p o,G.H0 p=some o->G.h0 p=none->NT o->H p=some o)->HOk X.prog X.w H s.heap->FnB X.prog X.w X.K X.mg X.base k H f sp
theorem FnB.g {X:Cx} {k:Nat} {G:Gx} {H:Hp} {f:Addr} {sp:A5} (F:FnB X.prog X.w X.K X.mg X.base k H f sp):FnG X k (G.up H) f sp:=
 ⟨F.m,λH' s fr _=> F.stays λp o e m n=> fr p o (W7 e m).1 (W7 e m).2 n⟩
section
variable {X:Cx} {G:Gx} {kg kl i:Nat} {g f:Addr} {fd:FuncData} {x a:Str} {st:Stmt} {Ng psg:List Str} {p p2 pos:Pos} {sp:A5} {tc:Addr->A5->(AExc->A0->AH->Prop)->B9} {E:AExc->A0->AH->Prop}
end
def wal (P:Program) (w:World) (K:PySem.W.Frag) (mg:Str->Option Value) (base:Heap) (k:Nat) (H:Hp) (fs:List Addr) (sps:List A5):Prop:=
 fs.length=sps.length/\∀(i:Nat) (f:Addr) (sp:A5),fs[i]? =some f->sps[i]? =some sp->FnB P w K mg base k H f sp
theorem wal.stays {P:Program} {w:World} {K:PySem.W.Frag} {mg:Str->Option Value} {base:Heap} {k:Nat} {H H1:Hp} {fs:List Addr} {sps:List A5} (F:wal P w K mg base k H fs sps) (a:wah H H1):wal P w K mg base k H1 fs sps:=
 ⟨F.1,λi f sp x y=> (F.2 i f sp x y).stays a⟩
theorem wal.append {P:Program} {w:World} {K:PySem.W.Frag} {mg:Str->Option Value} {base:Heap} {k:Nat} {H:Hp} {fs gs:List Addr} {sps tps:List A5} (F:wal P w K mg base k H fs sps) (G:wal P w K mg base k H gs tps):wal P w K mg base k H (fs++gs) (sps++tps):=by
 refine ⟨by rw [length_append,length_append,F.1,G.1],λi f sp x y=> ?_⟩
 by_cases hi:i < fs.length
 ·rw [getElem?_append_left hi] at x
  rw [getElem?_append_left (by rw [<-F.1];exact hi)] at y
  exact F.2 i f sp x y
 ·rw [getElem?_append_right (by omega)] at x
  rw [getElem?_append_right (by rw [<-F.1];omega),<-F.1] at y
  exact G.2 _ f sp x y
abbrev m7:=A0->AH->(List A5->A0->AH->Prop)->Prop
def cF (X:Cx) (k:Nat) (G:Gx) (t:m7):TE:=λσ H Q=> ∃env h,BS G env h σ H/\t env h λsps env' h'=> ∀p fs H',BS G env' h' σ H'->Xt env h σ H env' h' H'->LsF H' p (fs.map V.ref)->wal X.prog X.w X.K X.mg X.base k H' fs sps->Q (.ref p) H'
structure AF (X:Cx) (k:Nat) (G:Gx) (e:Expr) (t:m7):Prop where
 mono:A1 t
 sm:∀env h (R:List A5->A0->AH->Prop),t env h R->t env h λsps e g=> (∀sp∈sps,D1 sp)/\R sps e g
 pe:PE X e (cF X k G t)
abbrev A0z:=List W->AH->(List A5->AH->Prop)->Prop
def cAk (P:Program) (w:World) (K:PySem.W.Frag) (mg:Str->Option Value) (base:Heap) (k n:Nat) (ak:A0z):Sp:=λvs H Q _=> ∃ws h Qa,ws.length=n/\(∀a o,h a=some o->wam K H a o)/\waf K H/\waa K H ws vs/\ak ws h Qa/\
 ∀sps h' p fs H',Qa sps h'->HS ⟨K,h,H⟩ h' H'->H' p=some (.lst (fs.map V.ref))->h' p=none->H p=none->wal P w K mg base k H' fs sps->Q (.ref p) H'
structure AkOk (P:Program) (w:World) (K:PySem.W.Frag) (mg:Str->Option Value) (base:Heap) (x:Str) (st:Stmt) (kl k n:Nat) (ps:List Str) (ak:A0z):Prop where
 mono:∀ws h Q Q',(∀a b,Q a b->Q' a b)->ak ws h Q->ak ws h Q'
 sm:∀ws h (R:List A5->AH->Prop),ak ws h R->ak ws h λsps g=> (∀sp∈sps,D1 sp)/\R sps g
 ex:∃f fd,mg x=some (.ref f)/\FunD K x x (defArgs st) (defBody st) (defScope st) [] [] f fd/\FnOk P w K mg base (Ab.CX P w) k f fd ps (cAk P w K mg base kl n ak)
section
variable {X:Cx} {G:Gx} {ak:A0z} {st:Stmt} {kl k j n:Nat} {ps:List Str} {x:Str} {p pos:Pos} {e:Expr} {es:List Expr} {t:B8}
end
def lcLoopF (vs:List Nat) (j:Nat) (te:Addr->A5->A6) (Q:List W->A0->AH->Prop):List A5->List W->A0->AH->Prop
 | [],acc=> λenv h=> Q acc env h
 | sp::r,acc=> λenv h=> ∀f:Addr,te f sp ((I7 env vs).set j (some (.val (.ref f)))) h λy e3 h3=> acc.length < sizeLine/\lcLoopF vs j te Q r (acc++[y]) (mend env e3 vs) h3
theorem lcLoopF.mono {vs:List Nat} {j:Nat} {te:Addr->A5->A6} (me:∀f sp,D1 sp->A1 (te f sp)) {Q Q':List W->A0->AH->Prop} (k:∀a e h,Q a e h->Q' a e h):∀(sps:List A5),(∀sp∈sps,D1 sp)->∀(acc:List W) env h,lcLoopF vs j te Q sps acc env h->lcLoopF vs j te Q' sps acc env h
 | [],_,acc,env,h,q=> k _ _ _ q
 | sp::r,sm,acc,env,h,q=> λf=> me f sp (sm sp (mem_cons_self)) _ _ _ _ (λy e3 h3 z=> ⟨z.1,lcLoopF.mono me k r (λs hs=> sm s (mem_cons_of_mem _ hs)) _ _ _ z.2⟩) (q f)
section
variable {X:Cx} {G:Gx} {elt tg iter:Expr} {scope:Scope} {own:List (Str×Nat)} {pos:Pos} {tf:m7} {te:Addr->A5->A6} {sl:List Nat} {kl j:Nat}
theorem FnG.to {X Y:Cx} {f:Addr} {sp:A5} {G1:Gx} (a:FnG X kl G1 f sp) (h1:X.prog=Y.prog:=by rfl) (h2:X.w=Y.w:=by rfl) (h3:X.K=Y.K:=by rfl) (h4:X.mg=Y.mg:=by rfl) (h5:X.base=Y.base:=by rfl):FnG Y kl G1 f sp:=by
 refine ⟨a.m,λH s fr ok=> ?_⟩
 rw [<-h1,<-h2,<-h3,<-h4,<-h5]
 exact a.at_ H s fr (by rw [h1,h2];exact ok)
end
abbrev TR:=(V->L2.St->Hp->Prop)->L2.St->Hp->Prop
structure PSr (X:Cx) (st:List Stmt) (t:TR):Prop where
 run:∀(pins:List (Addr×Obj)) (s:Shared) (σ:L2.St) (H:Hp) (R:V->L2.St->Hp->Prop),Inv X pins σ H s->t R σ H->
  wpAny (model X.prog X.w) X.A (execs st X.env) (λfl s'=> ∃u v σ' H',fl= .ret u/\Inv X pins σ' H' s'/\RelV v u/\R v σ' H') X.xe s
theorem PSr.imp {X:Cx} {st:List Stmt} {t t':TR} (a:PSr X st t) (i:∀R σ H,t' R σ H->t R σ H):PSr X st t':=⟨λpins s σ H R I q=> a.run pins s σ H R I (i _ _ _ q)⟩
structure GrowL (X:Cx) (H H':Hp) (p:Addr):Prop where
 but:∀b o,H b=some o->NT o->b≠p->H' b=some o
 th:∀b o,H b=some o->∃u,H' b=some u
 tabs:waf X.K H'
theorem GrowL.trans {X:Cx} {H H1 H2:Hp} {p:Addr} (a:GrowL X H H1 p) (b:GrowL X H1 H2 p):GrowL X H H2 p:=
 ⟨λq o e n y=> b.but q o (a.but q o e n y) n y,λq o e=> let ⟨u,z⟩:=a.th q o e;b.th q u z,b.tabs⟩
structure LamK (X:Cx) (d:LamD):Prop where
 at_:∃c P,LamAt X d c P
def B0S (X:Cx) (i:Nat) (ds:List LamD):TR:=λR σ H=> ∃p vs,σ[i]? =some (some (.ref p))/\H p=some (.lst vs)/\vs.length+ds.length < sizeLine/\waf X.K H/\
 ∀(fs:List Addr) H',fs.length=ds.length->GrowL X H H' p->H' p=some (.lst (vs++fs.map V.ref))->(∀(k:Nat) f d,fs[k]? =some f->ds[k]? =some d->waw X d H' f)->R (.ref p) σ H'
structure APr (X:Cx) (a:Str) (i:Nat) (st:List Stmt) (ds:List LamD):Prop where
 run:PSr X st (B0S X i ds)
section
variable {X:Cx} {a:Str} {i:Nat} {p p1 pos apos cpos epos lpos:Pos} {st:List Stmt} {ds:List LamD} {params:Arguments} {body:Expr} {scope:Scope}
end
abbrev ARS:=(List A5->A0->AH->Prop)->A0->AH->Prop
def cRs (X:Cx) (kl:Nat) (G:Gx) (u:ARS):TR:=λR σ H=> ∃env h,BS G env h σ H/\u (λsps env' h'=> ∀p fs σ' H',BS G env' h' σ' H'->H' p=some (.lst (fs.map V.ref))->h' p=none->G.H0 p=none->
 (∀pins s',Inv X pins σ' H' s'->wal X.prog X.w X.K X.mg X.base kl (X7 X s' H') fs sps)->R (.ref p) σ' H') env h
structure ASr (X:Cx) (kl:Nat) (G:Gx) (st:List Stmt) (u:ARS):Prop where
 mono:∀Q Q' env h,(∀a b c,Q a b c->Q' a b c)->u Q env h->u Q' env h
 ps:PSr X st (cRs X kl G u)
structure LamB (X:Cx) (k:Nat) (d:LamD) (t:(AExc->A0->AH->Prop)->AT):Prop where
 L:LamP X.env.scope d.scope X.N []
 bind:∀(q:Str) (cl:List (Str×Addr)) (pm cv ctv:Value),bindArgs (PySem.W.kla_fn "<lambda>" q d.params d.body d.scope cl pm cv ctv) ⟨[],[]⟩=pure []
 body:∀(A:Around) (outer:List Env) (s:Shared) (H:Hp) (E:XK) (f c:Addr) (G:Gx) (E':AExc->A0->AH->Prop),Room k (A.deeper (lamEnv X d.scope s.heap.objs.size f c))->G.K=X.K->Takes (A5E X A outer s H E d.scope f c []) (cW G E')->AE (A5E X A outer s H E d.scope f c []) G d.body (t E')
inductive LamBs (X:Cx) (k:Nat):List LamD->List ((AExc->A0->AH->Prop)->AT)->Prop where
 | nil:LamBs X k [] []
 | cons {d:LamD} {t:(AExc->A0->AH->Prop)->AT} {ds:List LamD} {ts:List ((AExc->A0->AH->Prop)->AT)}:LamB X k d t->LamBs X k ds ts->LamBs X k (d::ds) (t::ts)
theorem LamBs.get {X:Cx} {k:Nat} {ds:List LamD} {ts:List ((AExc->A0->AH->Prop)->AT)} (l:LamBs X k ds ts):ds.length=ts.length/\∀(j:Nat) d t,ds[j]? =some d->ts[j]? =some t->LamB X k d t:=by
 induction l with
 | nil=> exact ⟨rfl,λj d t e=> by simp at e⟩
 | cons a b ih=>
  refine ⟨by rw [length_cons,length_cons,ih.1],λj d t e1 e2=> ?_⟩
  cases j with
  | zero=> simp at e1 e2;subst e1;subst e2;exact a
  | succ j=> exact ih.2 j d t (by simpa using e1) (by simpa using e2)
section
variable {G:Gx} {env:A0} {h:AH} {σ:L2.St} {H:Hp} {i:Nat}
end
section
variable {X:Cx} {G:Gx} {kl:Nat} {s:Stmt} {rest:List Stmt} {t:B9} {u:ARS} {a:Str} {i:Nat} {p pos lpos llpos:Pos} {st:List Stmt} {ds:List LamD} {params:Arguments} {body:Expr} {scope:Scope} {t0:(AExc->A0->AH->Prop)->AT} {ts:List ((AExc->A0->AH->Prop)->AT)}
end
theorem FnB.imp {P:Program} {w:World} {K:PySem.W.Frag} {mg:Str->Option Value} {base:Heap} {k:Nat} {H:Hp} {f:Addr} {sp sp':A5} (F:FnB P w K mg base k H f sp) (m:D1 sp') (i:∀ws h Q E,sp' ws h Q E->sp ws h Q E):FnB P w K mg base k H f sp':=
 ⟨m,F.fn,λA outer s H2 Q E st hr e0 ⟨ws,h,Qa,Ea,a,b,c,d,q,r⟩=> F.run A outer s H2 Q E st hr e0 ⟨ws,h,Qa,Ea,a,b,c,d,i _ _ _ _ q,r⟩⟩
inductive Imps:List A5->List A5->Prop where
 | nil:Imps [] []
 | cons {sp sp':A5} {l l':List A5}:D1 sp'->(∀ws h Q E,sp' ws h Q E->sp ws h Q E)->Imps l l'->Imps (sp::l) (sp'::l')
theorem Imps.get {l l':List A5} (a:Imps l l'):l.length=l'.length/\∀(j:Nat) sp',l'[j]? =some sp'->∃sp,l[j]? =some sp/\D1 sp'/\∀ws h Q E,sp' ws h Q E->sp ws h Q E:=by
 induction a with
 | nil=> exact ⟨rfl,λj s e=> by simp at e⟩
 | cons m i t ih=>
  refine ⟨by rw [length_cons,length_cons,ih.1],λj s e=> ?_⟩
  cases j with
  | zero=> simp at e;subst e;exact ⟨_,rfl,m,i⟩
  | succ j=> simpa using ih.2 j s (by simpa using e)
theorem wal.imps {P:Program} {w:World} {K:PySem.W.Frag} {mg:Str->Option Value} {base:Heap} {k:Nat} {H:Hp} {fs:List Addr} {l l':List A5} (F:wal P w K mg base k H fs l) (a:Imps l l'):wal P w K mg base k H fs l':=by
 obtain ⟨e,g⟩:=a.get
 refine ⟨by rw [F.1,e],λi f sp' x y=> ?_⟩
 obtain ⟨sp,z,m,im⟩:=g i sp' y
 exact (F.2 i f sp x z).imp m im
section
variable {P:Program} {w:World} {K:PySem.W.Frag} {mg:Str->Option Value} {base:Heap} {x:Str} {f:Addr} {fd:FuncData} {N ps:List Str} {k kl n:Nat} {st:Stmt} {ak:A0z} {u:ARS}
theorem AkOk.mk' (mono:∀ws h Q Q',(∀a b,Q a b->Q' a b)->ak ws h Q->ak ws h Q') (sm:∀ws h (R:List A5->AH->Prop),ak ws h R->ak ws h λsps g=> (∀sp∈sps,D1 sp)/\R sps g)
  (hm:mg x=some (.ref f)) (F:FunD K x x (defArgs st) (defBody st) (defScope st) [] [] f fd) (S:FnScope N ps (defScope st)) (hn:ps.length=n)
  (lm:∀cdv,A8S K f cdv->MakesL K mg base (x++".<locals>."++"<lambda>") cdv)
  (hb:∀(cdv:Value) (A:Around) (outer:List Env) (s:Shared) (H:Hp) (E:XK) (G:Gx),MakesL K mg base (x++".<locals>."++"<lambda>") cdv->Room k (A.deeper (envOfC x (defScope st) s.heap.objs.size f cdv))->G.K=K->
   ASr (bx P w K mg base N x (defScope st) f cdv A outer s H E) kl G (defBody st) u)
  (hq:∀ws h Qa,ws.length=n->ak ws h Qa->u (λsps _ h'=> ∃tps,Imps sps tps/\Qa tps h') (G7 N.length ws) h):AkOk P w K mg base x st kl (k+1) n ps ak:=by
 refine ⟨mono,sm,f,fd,hm,F,?_⟩
 obtain ⟨oc,od,dV,kV,doc,pm,an,cdv,ct,osl,rfl,lk,hcd,_,_⟩:=F.ex
 have len:∀vs H Q E,cAk P w K mg base kl n ak vs H Q E->vs.length=ps.length:=λvs H Q E ⟨ws,h,Qa,hl,_,_,r,_⟩=> by rw [<-r.length,hl,hn]
 refine ⟨len,λA outer s H args us vs Q E hr e0 hbd r hsp=> ?_⟩
 have hl:=len _ _ _ _ hsp
 have KX:K.In s.heap:=e0.mod.kin.keeps λb o e=> (e0.bs b o e).1
 have lim:s.heap.NoLimit:=e0.mod.nolimit.keeps λb o e=> (e0.bs b o e).1
 have hkind:∀y∈ps.zip us,(defScope st).names.lookup y.1=some .local\/((defScope st).names.lookup y.1=some .cell/\((cellsFrom (s.heap.objs.size+1) (defScope st).names []).lookup y.1).isSome=true):=λ⟨n,v⟩ hy=> by
  rcases S.par n (List.of_mem_zip hy).1 with q | q
  ·exact .inl q
  ·exact .inr ⟨q,PySem.W.cellsFrom_some _ _ _ (.inl q)⟩
 refine codeAny_call_function hr.depth (KX _ _ lk) rfl S.co S.gen rfl (PySem.W.codeRec_of KX hcd) (hbd _ _ _ _ ?_)
 refine wpAny_newFunctionEnv_cells S.kind hkind λenv he s1 xx=> ?_
 subst he
 refine ⟨lim.keeps xx.toInCall.keep,codeAny_func ?_⟩
 obtain ⟨ws,h,Qa,hwl,hp,tb,rl,q,kq⟩:=hsp
 have hwN:ws.length<=N.length:=by
  have z:=congrArg List.length S.pre
  rw [List.length_take] at z
  omega
 have I:Inv (cxOf (Ab.CX P w) P w K mg base N x (defScope st) f cdv A outer s H E) [] (L2.start N vs) H s1:=inv_start S hr.hd e0 hl r xx
 have ht:=hb cdv A outer s H E ⟨K,h,H⟩ (lm cdv ⟨oc,od,_,osl,lk,rfl⟩) (hr.deeper _) rfl
 have S0:BS ⟨K,h,H⟩ (G7 N.length ws) h (L2.start N vs) H:=BS.begin hp tb rl hwN
 refine wpAny_mono (ht.ps.run [] s1 (L2.start N vs) H (λv σ' H'=> ∀s',Inv (cxOf (Ab.CX P w) P w K mg base N x (defScope st) f cdv A outer s H E) [] σ' H' s'->Q v (X7 (cxOf (Ab.CX P w) P w K mg base N x (defScope st) f cdv A outer s H E) s' H')) I ⟨_,h,S0,ht.mono _ _ _ _ (λsps env' h' ⟨tps,im,z⟩ p fs σ' H' S1 el n0 g0 fb s' J=> ?_) (hq ws h Qa hwl q)⟩) (λfl s' hs=> ?_) λe s' hs=> hs
 ·obtain ⟨u,v,σ',H',rfl,J,rv,z⟩:=hs
  exact ⟨v,_,J.os,J.bare,A6a J (λ_=> rfl) rfl,A6T J,rv,z s' J⟩
 ·have le:∀b o,H' b=some o->X7 (cxOf (Ab.CX P w) P w K mg base N x (defScope st) f cdv A outer s H E) s' H' b=some o:=λb o e=> i7 J e
  refine kq tps h' p fs _ z ⟨λa o e=> ?_,λb o e n y=> le _ _ (S1.fr b o e n y),S1.ext,λb o e=> ?_,S1.tabs.keep λa o e _=> le a o e⟩ (le _ _ el) n0 g0 ((fb _ s' J).imps im)
  ·obtain ⟨u,eu,mu⟩:=(S1.hp a o e).there
   exact (S1.hp a o e).mono (λb u q _=> le b u q) ((le a u eu).trans eu.symm)
  ·obtain ⟨u,y⟩:=S1.tr b o e
   exact ⟨u,le b u y⟩
end
theorem wal.up {P:Program} {w:World} {K:PySem.W.Frag} {mg:Str->Option Value} {base:Heap} {k k':Nat} {H:Hp} {fs:List Addr} {sps:List A5} (h:k<=k') (F:wal P w K mg base k H fs sps):wal P w K mg base k' H fs sps:=⟨F.1,λi f sp a b=> (F.2 i f sp a b).up h⟩
theorem AF.up {X:Cx} {k k':Nat} {G:Gx} {e:Expr} {t:m7} (h:k<=k') (a:AF X k G e t):AF X k' G e t:=
 ⟨a.mono,a.sm,PE.imp a.pe λσ H Q ⟨env,h0,S,q⟩=> ⟨env,h0,S,a.mono env h0 _ _ (λsps e g z p fs H' S' x l F=> z p fs H' S' x l (F.up h)) q⟩⟩
section
variable {X:Cx} {G:Gx} {i:Nat} {y:Str} {py:Pos} {elt tg iter:Expr} {scope:Scope} {own:List (Str×Nat)} {pos spos:Pos} {tf:m7} {te:Addr->A5->A6} {sl:List Nat} {kl j:Nat}
end
def war (X:Cx) (s:Shared) (H2:Hp) (s2:Shared):Prop:=∀b,S9 X b->H2 b=none/\∀v,s.heap.IsCell b v->s2.heap.IsCell b v
theorem war.trans {X:Cx} {s s2 s3:Shared} {H2 H3:Hp} (a:war X s H2 s2) (b:war X s2 H3 s3):war X s H3 s3:=λc hc=> ⟨(b c hc).1,λv q=> (b c hc).2 v ((a c hc).2 v q)⟩
theorem war.un {X:Cx} {fs ex:List Addr} {s s2 s3:Shared} {H2 H3:Hp} (a:war X s H2 s2) (hc:∀b,S9 X b->∃v,s2.heap.IsCell b v) (u:Un fs ex H2 H3 s2.heap s3.heap) (hx:∀b,S9 X b->b∉ex):war X s H3 s3:=λb c=> by
 obtain ⟨v0,o,ho,hd⟩:=hc b c
 refine ⟨u.free b o ho (a b c).1 (hx b c),λv q=> ?_⟩
 obtain ⟨o',ho',hd'⟩:=(a b c).2 v q
 obtain ⟨sl,z⟩:=u.any ho' (a b c).1 (hx b c)
 exact ⟨_,z,hd'⟩
theorem A6O {X:Cx} {pins:List (Addr×Obj)} {σ:L2.St} {H:Hp} {s:Shared} (I:Inv X pins σ H s):war X s H s:=λb ⟨y,hy⟩=> ⟨I.freeC y b hy,λv q=> q⟩
theorem A4q {X:Cx} {pins:List (Addr×Obj)} {σ:L2.St} {H:Hp} {s:Shared} (I:Inv X pins σ H s):∀b,S9 X b->∃v,s.heap.IsCell b v:=λb ⟨y,hy⟩=> I.cell y b hy
theorem war.is {X:Cx} {s s2:Shared} {H2:Hp} (a:war X s H2 s2) (hc:∀b,S9 X b->∃v,s.heap.IsCell b v):∀b,S9 X b->∃v,s2.heap.IsCell b v:=λb c=> let ⟨v,q⟩:=hc b c;⟨v,(a b c).2 v q⟩
structure FnU (X:Cx) (k:Nat) (H:Hp) (s:Shared) (f:Addr) (sp:A5):Prop where
 m:D1 sp
 fn:∀(s2:Shared) (H2:Hp),wah H H2->HOk X.prog X.w H2 s2.heap->PySem.W.FnAt f s2.heap
 run:∀(A:Around) (outer:List Env) (s2:Shared) (H2:Hp) (Q:VK) (E:XK),wah H H2->war X s H2 s2->Room k A->Env0 X.prog X.w X.K X.mg X.base A outer s2 H2->M0 X.K 0 sp [] H2 Q E->
  codeAny (model X.prog X.w) A (.call (.ref f) ⟨[],[]⟩) (CR (Ab.CX X.prog X.w) outer X.prog X.w H2 s2 Q E) s2
section
variable {X:Cx} {G:Gx} {env:A0} {h:AH} {σ:L2.St} {H H2 H':Hp} {s s2:Shared} {pins:List (Addr×Obj)} {d:LamD} {f:Addr} {k:Nat} {t:(AExc->A0->AH->Prop)->AT}
end
structure UseU (Y:Cx) (k:Nat) (G:Gx) (f:Addr) (sp:A5):Prop where
 m:D1 sp
 fn:∀(pins:List (Addr×Obj)) (σ:L2.St) (H1:Hp) (s1:Shared) (env:A0) (h:AH),Inv Y pins σ H1 s1->BS G env h σ H1->∀(s2:Shared) (H2:Hp),wah H1 H2->HOk Y.prog Y.w H2 s2.heap->PySem.W.FnAt f s2.heap
 run:∀(pins:List (Addr×Obj)) (σ:L2.St) (H1:Hp) (s1:Shared) (env:A0) (h:AH),Inv Y pins σ H1 s1->BS G env h σ H1->∀(A:Around) (outer:List Env) (s2:Shared) (H2:Hp) (Q:VK) (E:XK),wah H1 H2->Un (frs Y.stack) [] H1 H2 s1.heap s2.heap->Room k A->Env0 Y.prog Y.w Y.K Y.mg Y.base A outer s2 H2->M0 Y.K 0 sp [] H2 Q E->
  codeAny (model Y.prog Y.w) A (.call (.ref f) ⟨[],[]⟩) (CR (Ab.CX Y.prog Y.w) outer Y.prog Y.w H2 s2 Q E) s2
section
variable {X:Cx} {G:Gx} {kg kl i:Nat} {g f:Addr} {fd:FuncData} {x a:Str} {st:Stmt} {Ng psg:List Str} {p p2 pos:Pos} {sp:A5} {tc:Addr->A5->(AExc->A0->AH->Prop)->B9} {E:AExc->A0->AH->Prop}
end
section
variable {X:Cx} {elt tg iter:Expr} {scope:Scope} {own:List (Str×Nat)} {wi:TI} {g:TG} {te:Shared->Hp->TE}
end
structure LivF (X:Cx) (G:Gx) (fs:List Addr) (ds:List LamD):Prop where
 at_:∀(H:Hp) (s:Shared),(∀p o,G.H0 p=some o->G.h0 p=none->NT o->H p=some o)->HOk X.prog X.w H s.heap->fs.length=ds.length/\∀(k:Nat) f d,fs[k]? =some f->ds[k]? =some d->waw X d H f
section
variable {X:Cx} {G:Gx} {elt tg iter:Expr} {scope:Scope} {own:List (Str×Nat)} {pos:Pos} {fs:List Addr} {ds:List LamD} {ts:List ((AExc->A0->AH->Prop)->AT)} {te:Addr->A5->A6} {sl:List Nat} {kl j i0:Nat}
theorem FnU.use {k:Nat} {s3:Shared} {H3:Hp} {f:Addr} {sp:A5} {pins0:List (Addr×Obj)} {σ0:L2.St} {fp:List Addr} {ce:Env} {G1:Gx} (F:FnU X k H3 s3 f sp) (I3:Inv X pins0 σ0 H3 s3) (hfp:∀b∈fp,FpOk X pins0 H3 b) (st:∀H':Hp,(∀p o,G1.H0 p=some o->G1.h0 p=none->NT o->H' p=some o)->wah H3 H'):UseU (X.blk s3 H3 scope ce fp) k G1 f sp:=by
 refine ⟨F.m,λpins σ H1 s1 env h I1 S s2 H2 sty hok=> F.fn s2 H2 ((st H1 λp o a b c=> S.fr p o a b c).trans sty) hok,λpins σ H1 s1 env h I1 S A outer s2 H2 Q E sty un hr e0 csp=> F.run A outer s2 H2 Q E ((st H1 λp o a b c=> S.fr p o a b c).trans sty) ?_ hr e0 csp⟩
 have b1:Un (X.blk s3 H3 scope ce fp).fs fp H3 H1 s3.heap s1.heap:=I1.base
 have c1:=(A6O I3).un (A4q I3) b1 λb ⟨y,hy⟩ hb=> (hfp b hb).2.2.2.2.1 y b hy rfl
 exact c1.un (c1.is (A4q I3)) un λb _ z=> absurd z List.not_mem_nil
end
def B07 (X:Cx) (i:Nat) (ds:List LamD) (U:TS):TS:=λD σ H=> ∃p vs,σ[i]? =some (some (.ref p))/\H p=some (.lst vs)/\vs.length+ds.length < sizeLine/\waf X.K H/\
 ∀(fs:List Addr) H',fs.length=ds.length->GrowL X H H' p->H' p=some (.lst (vs++fs.map V.ref))->(∀(k:Nat) f d,fs[k]? =some f->ds[k]? =some d->waw X d H' f)->U D σ H'
structure ApL (X:Cx) (a:Str) (i:Nat) (st:List Stmt) (ds:List LamD) (rest:List Stmt):Prop where
 run:∀U,PSs X rest U->PSs X st (B07 X i ds U)
section
variable {X:Cx} {a:Str} {i:Nat} {p p1 pos apos cpos epos lpos:Pos} {st rest:List Stmt} {ds:List LamD} {params:Arguments} {body:Expr} {scope:Scope}
end
section
variable {X:Cx} {G:Gx} {env:A0} {h:AH} {σ:L2.St} {H H':Hp}
theorem wad.down {r:RV} {v:V} (S:wad (G.up H) env h σ H' r v):wad G env h σ H' r v:=by
 cases r with
 | val w=> exact S
 | slot i=> exact S
 | own c=>
  obtain ⟨p,e,cr,n,n0,no⟩:=S
  refine ⟨p,e,cr,n,?_,no⟩
  by_cases c:∃o,H p=some o/\¬Mu o
  ·obtain ⟨o,z,m⟩:=c
   rw [(W7 z m).1] at n0;cases n0
  ·rw [(Y9 c).1] at n0
   exact n0
theorem Link.up {Da:AEnds} {D:Ends} (S1:BS G env h σ H) (l:Link G H Da D):Link (G.up H) H Da D:=
 ⟨λe g σ' H' S q z=> l.nx e g σ' H' (S1.down S) q z,λr e g σ' H' v S q x z=> l.rt r e g σ' H' v (S1.down S) q (wad.down x) z,λe g σ' H' S q z=> l.bk e g σ' H' (S1.down S) q z,λe g σ' H' S q z=> l.ct e g σ' H' (S1.down S) q z⟩
theorem Takes.dn {G1:Gx} {E:AExc->A0->AH->Prop} (gk:G.K=X.K) (gk1:G1.K=X.K) (dn:∀e h σ H (s:Shared),HOk X.prog X.w H s.heap->BS G1 e h σ H->BS G e h σ H) (tk:Takes X (cW G E)):Takes X (cW G1 E):=by
 rintro v s' (⟨a,B,sI,pins,σ,H,cls,d,e,I,nb,up,sky,na,os,ag,x,e1,g,S,xr,z⟩ | ⟨a,B,sI,pins,σ,H,cls,d,e,I,nb,up,sky,na,os,ag,ht,x,e1,g,S,xr,z⟩)
 ·exact tk v s' (.inl ⟨a,B,sI,pins,σ,H,cls,d,e,I,nb,up,sky,na,os,ag,x,e1,g,dn _ _ _ _ sI I.hok S,by rw [gk,<-gk1];exact xr,z⟩)
 ·exact tk v s' (.inr ⟨a,B,sI,pins,σ,H,cls,d,e,I,nb,up,sky,na,os,ag,ht,x,e1,g,dn _ _ _ _ sI I.hok S,by rw [gk,<-gk1];exact xr,z⟩)
end
section
variable {X:Cx} {G:Gx} {u:List Addr->B9} {a:Str} {i:Nat} {p pos lpos llpos:Pos} {st rest:List Stmt} {ds:List LamD} {params:Arguments} {body:Expr} {scope:Scope}
end
end Ab
namespace Ab
open PySem PySem.Spec PyProof.Rows L2
abbrev sX (X:Cx) (a:Addr) (pn:List (Addr×Obj)) (xe:Value->Shared->Prop):Cx:={ X with A:=X.A.mark (some (.ref a)),calm:=false,pn:=pn,xe:=xe }
section
variable {X:Cx} {pins:List (Addr×Obj)} {s:Shared}
end
abbrev j4:=WX->Addr->Value->Option Addr->L2.St->Hp->Prop
def A47 (X:Cx) (suite:List Stmt) (u:j4):Prop:=∀(a:Addr) (oe:Obj) (cls:Value) (d:Option Addr) (pn:List (Addr×Obj)) (xe:Value->Shared->Prop) (W:WX),L2N.Zn cls d oe->(∃vs,oe.data= .fields vs)->
 Takes (sX X a ((a,oe)::pn) xe) W->PSs (sX X a ((a,oe)::pn) xe) suite (λ_ σ H=> u W a cls d σ H)
inductive HdsR (X:Cx):List ExceptHandler->List (Value×Option Nat×j4)->Prop where
 | nil:HdsR X [] []
 | named {x n:Str} {c:Value} {i:Nat} {b:Stmt} {suite:List Stmt} {np pos:Pos} {u:j4} {hds:List ExceptHandler} {l:List (Value×Option Nat×j4)} (hi:X.N[i]? =some n) (hln:X.env.kindOf n=some .local) (hc:Names X x c)
   (hsu:A47 X (b::suite) u) (t:HdsR X hds l):HdsR X (.ExceptHandler (some (.Name x np)) (some n) (b::suite) pos::hds) ((c,some i,u)::l)
 | plain {x:Str} {c:Value} {b:Stmt} {suite:List Stmt} {np pos:Pos} {u:j4} {hds:List ExceptHandler} {l:List (Value×Option Nat×j4)} (hc:Names X x c)
   (hsu:A47 X (b::suite) u) (t:HdsR X hds l):HdsR X (.ExceptHandler (some (.Name x np)) none (b::suite) pos::hds) ((c,none,u)::l)
section
variable {X:Cx} {pins:List (Addr×Obj)} {s:Shared} {Wout:WX} {D:Ends}
end
end Ab
namespace Ab
open PySem PySem.Spec PyProof.Rows L2 HotX L2H
theorem wai.none {K:PySem.W.Frag} {H:Hp} {f:Str}:∀{fs:List (Str×W)} {vs:List (Str×V)},wai K H fs vs->fs.lookup f=none->vs.lookup f=none
 | [],vs,⟨n,_⟩,_=> by
  cases vs with
  | nil=> rfl
  | cons v vs=> cases n
 | (g,w)::fs,vs,⟨n,r⟩,e=> by
  cases vs with
  | nil=> cases n
  | cons v vs=>
   obtain ⟨g',v⟩:=v
   injection n with n1 n2
   have n1:g=g':=n1
   subst n1
   obtain ⟨_,_,ee,_,rt⟩:=r.of_cons
   injection ee with _ ee
   rw [lookup_cons] at e ⊢
   cases q:(f==g) with
   | true=> rw [q] at e;cases e
   | false=>
    rw [q] at e
    exact wai.none (fs:=fs) (vs:=vs) ⟨n2,ee▸rt⟩ e
section
variable {P:Program} {w:World} {K:PySem.W.Frag} {mg:Str->Option Value} {base:Heap} {qual word f:Str} {params:Arguments} {scope:Scope} {fI C:Addr} {fd:FuncData} {q1 q2 q3 q4 q5 q6 q7 q8:Pos} {j:Nat}
end
section
variable {X:Cx} {x:Str} {e:Expr} {es:List Expr} {ta:TA} {p pos:Pos}
end
section
variable {X:Cx} {pins:List (Addr×Obj)} {σ:L2.St} {H:Hp} {s:Shared}
end
end Ab
namespace Ab
open PySem PySem.Spec PyProof.Rows L2 L2H
def A4z:AEnds:={ nx:=λ_ _=> False,rt:=λ_ _ _=> False }
abbrev y9:=Addr->(AExc->A0->AH->Prop)->B9
abbrev n5:=List (Str×Option Nat×y9)
def SuA (X:Cx) (io:Option Nat) (suite:List Stmt) (u:y9):Prop:=∀(a:Addr) (oe:Obj) (cls:Value) (pn:List (Addr×Obj)) (xe:Value->Shared->Prop) (G:Gx) (E:AExc->A0->AH->Prop),G.K=X.K->oe.cls=cls->Hot1 (sX X a ((a,oe)::pn) xe).A (a,oe)->
 PySem.W.subIn X.K cls (.type "BaseException")=some true->Takes (sX X a ((a,oe)::pn) xe) (cW G E)->ASs (sX X a ((a,oe)::pn) xe) G suite (λD env h=> (∀i,io=some i->env[i]? =some (some (.val (.ref a))))/\u a E D env h)
inductive HdAR (X:Cx) (ks:List Str):List ExceptHandler->n5->Prop where
 | nil:HdAR X ks [] []
 | named {c n:Str} {i:Nat} {b:Stmt} {suite:List Stmt} {np pos:Pos} {u:y9} {hds:List ExceptHandler} {l:n5} (hi:X.N[i]? =some n) (hln:X.env.kindOf n=some .local) (hil:i < X.N.length) (hg:Gl X c) (hm:X.mg c=some (.ref (He.ga X.K c)))
   (ex:∀k∈ks,PySem.W.exmOne X.K (.ref (He.ga X.K k)) (.ref (He.ga X.K c))=some (A2F k c)) (hbe:∀k∈ks,PySem.W.subIn X.K (.ref (He.ga X.K k)) (.type "BaseException")=some true) (su:SuA X (some i) (b::suite) u)
   (hdb:(c==("__debug__":Str))=false) (t:HdAR X ks hds l):HdAR X ks (.ExceptHandler (some (.Name c np)) (some n) (b::suite) pos::hds) ((c,some i,u)::l)
 | plain {c:Str} {b:Stmt} {suite:List Stmt} {np pos:Pos} {u:y9} {hds:List ExceptHandler} {l:n5} (hg:Gl X c) (hm:X.mg c=some (.ref (He.ga X.K c)))
   (ex:∀k∈ks,PySem.W.exmOne X.K (.ref (He.ga X.K k)) (.ref (He.ga X.K c))=some (A2F k c)) (hbe:∀k∈ks,PySem.W.subIn X.K (.ref (He.ga X.K k)) (.type "BaseException")=some true) (su:SuA X none (b::suite) u)
   (hdb:(c==("__debug__":Str))=false) (t:HdAR X ks hds l):HdAR X ks (.ExceptHandler (some (.Name c np)) none (b::suite) pos::hds) ((c,none,u)::l)
section
variable {X:Cx} {G:Gx} {ks:List Str} {hs:n5} {body:List Stmt} {h₀:ExceptHandler} {hds:List ExceptHandler} {t:(AExc->A0->AH->Prop)->B9} {E:AExc->A0->AH->Prop} {pos:Pos}
end
structure XhOk (P:Program) (w:World) (K:PySem.W.Frag) (mg:Str->Option Value) (base:Heap) (x word f:Str):Prop where
 gl:mg x=some (.ref (He.ga K x))
 cls:OexG K (He.ga K x)
 ini:∃fI fd,PySem.W.findIn K (.ref (He.ga K x)) "__init__"=some (some (.ref fI))/\PySem.W.typeIn K (.ref fI)=some (.type "function")/\Binds K fd ["self",f] []/\FnH P w K mg base (Ab.CX P w) 1 fI fd ["self",f] (A0Y (He.ga K x) word [f])
 hot:∀y:V,(initF (V.str word) [f] [y]).lookup ("word":Str)=some (.str "bad text")
section
variable {X:Cx} {G:Gx} {x word f:Str} {t:B8} {e:Expr} {E:AExc->A0->AH->Prop} {p pos pos2:Pos} {k:Nat}
end
structure OkMH (P:Program) (w:World) (K:PySem.W.Frag) (mg:Str->Option Value) (base:Heap) (C m:Str) (st:Stmt) (k n:Nat) (ps:List Str) (sp:A5):Prop where
 sm:D1 sp
 cl:Cls K (He.ga K C)
 ex:∃f fd,Meth K (He.ga K C) m f/\FunD K m (C++"."++m) (defArgs st) (defBody st) (defScope st) [] [] f fd/\FnH P w K mg base (Ab.CX P w) k f fd ps (M0 K n sp)
section
variable {X:Cx} {G:Gx} {sp:A5} {C m:Str} {st:Stmt} {k j n:Nat} {ps:List Str} {o:Expr} {pos apos:Pos} {to:AT} {E:AExc->A0->AH->Prop}
end
section
variable {P:Program} {w:World} {K:PySem.W.Frag} {mg:Str->Option Value} {base:Heap} {C m qual:Str} {body:List Stmt} {scope:Scope} {st:Stmt} {f:Addr} {fd:FuncData} {N ps:List Str} {k n:Nat} {sp:A5}
abbrev m8 (P:Program) (w:World) (K:PySem.W.Frag) (mg:Str->Option Value) (base:Heap) (N:List Str) (qual:Str) (scope:Scope) (f:Addr) (cdv:Value) (A:Around) (outer:List Env) (s:Shared) (H:Hp) (E:XK) (p:Addr×Obj):Cx:=cxH (Ab.CX P w) P w K mg base N qual scope f cdv A outer s H E p
theorem A6e {t:B9} {cdv:Value} {A:Around} {outer:List Env} {s:Shared} {H:Hp} {vs:List V} {Q:VK} {E:XK} {ws:List W} {h:AH} {Qa:RR->AH->Prop} {p:Addr×Obj} (hwN:ws.length<=N.length)
  (hb:ASs (m8 P w K mg base N qual scope f cdv A outer s H E p) ⟨K,h,H⟩ body t) (hp:∀a o,h a=some o->wam K H a o) (tb:waf K H) (r:waa K H ws vs) (q:t (E8 Qa) (G7 N.length ws) h)
  (kq:∀r h' v H',Qa r h'->HS ⟨K,h,H⟩ h' H'->A0i ⟨K,h,H⟩ h' H' r v->Q v H'):
  ∃t,PSs (m8 P w K mg base N qual scope f cdv A outer s H E p) body t/\t { nx:=λ_ H'=> Q .non H',rt:=Q } (start N vs) H:=by
 refine ⟨_,hb.ps,G7 N.length ws,h,E8 Qa,BS.begin hp tb r hwN,q,?_⟩
 refine ⟨λenv h' σ' H' SB _ ⟨h'',le,e⟩=> kq (.val .non) h'' .non H' e (SB.hs.le le) (show Rep K H' .non .non from .non),λr0 env h' σ' H' v SB _ rr ⟨h'',le,e⟩=> ?_,λ_ _ _ _ _ _ z=> z.elim,λ_ _ _ _ _ _ z=> z.elim⟩
 have own_end:∀{p:Addr} {c:Cont},v= .ref p->wae K H' p c->h' p=none->H p=none->A0i ⟨K,h,H⟩ h'' H' (.own c) v:=λ{p c} e1 e2 e3 e4=> by
  have e5:h'' p=none:=by
   cases z:h'' p with
   | none=> rfl
   | some u=> rw [le p u z] at e3;cases e3
  exact ⟨p,e1,e2,e5,e4⟩
 cases r0 with
 | val w0=> exact kq (.val w0) h'' v H' e (SB.hs.le le) rr
 | own c=>
  obtain ⟨p,e1,cr,a,b,_⟩:=rr
  exact kq (.own c) h'' v H' e (SB.hs.le le) (own_end e1 cr a b)
 | slot i=>
  have es:σ'[i]? =some (some v):=rr
  have e:match env[i]? with
   | some (some (.val w))=> Qa (.val w) h''
   | some (some (.own c))=> Qa (.own c) h''
   | _=> False:=e
  split at e
  ·rename_i w0 ei
   obtain ⟨u,e3,rv⟩:=SB.val i w0 ei
   rw [es] at e3;cases e3
   exact kq (.val w0) h'' v H' e (SB.hs.le le) rv
  ·rename_i c ei
   obtain ⟨p,e3,cr,a,b⟩:=SB.own i c ei
   rw [es] at e3;cases e3
   exact kq (.own c) h'' _ H' e (SB.hs.le le) (own_end rfl cr a b)
  ·exact e.elim
theorem OkMH.mk' {t:(AExc->A0->AH->Prop)->B9} (sm:D1 sp) (cl:Cls K (He.ga K C)) (M:Meth K (He.ga K C) m f) (F:FunD K m (C++"."++m) (defArgs st) (defBody st) (defScope st) [] [] f fd) (S:FnScope N ps (defScope st)) (hn:ps.length=n)
  (hb:∀(cdv:Value) (A:Around) (outer:List Env) (s:Shared) (H:Hp) (E:XK) (p:Addr×Obj) (G:Gx) (E':AExc->A0->AH->Prop),RoomH k (A.deeper (envOfC (C++"."++m) (defScope st) s.heap.objs.size f cdv))->HotC (m8 P w K mg base N (C++"."++m) (defScope st) f cdv A outer s H E p)->G.K=K->
   Takes (m8 P w K mg base N (C++"."++m) (defScope st) f cdv A outer s H E p) (cW G E')->ASs (m8 P w K mg base N (C++"."++m) (defScope st) f cdv A outer s H E p) G (defBody st) (t E'))
  (hq:∀ws h Qa Ea,ws.length=n->sp ws h Qa Ea->t (G3 Ea) (E8 Qa) (G7 N.length ws) h):OkMH P w K mg base C m st (k+1) n ps sp:=by
 refine ⟨sm,cl,f,fd,M,F,?_⟩
 obtain ⟨oc,od,dV,kV,doc,pm,an,cdv,ct,osl,rfl,lk,hcd,_,_⟩:=F.ex
 refine fn_ofH lk hcd S (λvs H Q E ⟨ws,h,Qa,Ea,hl,_,_,r,_⟩=> by rw [<-r.length,hl,hn]) λA outer s H vs Q E p hot hr ⟨ws,h,Qa,Ea,hl,hp,tb,r,q,kq,ke⟩=> ?_
 have hwN:ws.length<=N.length:=by
  have z:=congrArg List.length S.pre
  rw [List.length_take] at z
  omega
 have tk:Takes (m8 P w K mg base N (C++"."++m) (defScope st) f cdv A outer s H E p) (cW ⟨K,h,H⟩ (G3 Ea)):=
  Takes.imp (W:=λcls d _ H'=> E cls d H') (A3J rfl rfl rfl rfl) λcls d σ H' ⟨x,env,h',SB,xr,h'',le,e⟩=> ke x h'' cls d H' e (HS.le (G:=⟨K,h,H⟩) SB.hs le) xr
 exact A6e hwN (hb cdv A outer s H E p ⟨K,h,H⟩ (G3 Ea) hr ⟨p,⟨hot.1,hot.2⟩,mem_cons_self⟩ rfl tk) hp tb r (hq ws h Qa Ea hl q) kq
end
end Ab
namespace Ab
open PySem PySem.Spec PyProof.Rows L2 RZ
section
variable {P:Program} {w:World} {A:Around} {E:Value->Shared->Prop}
end
section
variable {X:Cx} {G:Gx} {e t1 t2:Expr} {sp pos tpos:Pos} {kk:Nat}
end
section
variable {X:Cx} {G:Gx} {e:Expr} {tv:A6} {px py sp pos tpos:Pos} {kk i j:Nat} {x y:Str}
end
def B00:C7:=λas Q=> match as with
 | [.wv (.str a),.wv (.str b)]=> (b.length==0)=false/\a.length<=sizeLine/\Q (.val (.tup [.str (Txt.partition a b).1,.str (Txt.partition a b).2.1,.str (Txt.partition a b).2.2]))
 | _=> False
section
variable {X:Cx} {G:Gx} {o e:Expr} {to te:AT} {apos pos:Pos}
end
section
variable {X:Cx} {G:Gx}
def aPrmO (t:AT):A6:=λenv h Q=> t env h λr env' h'=> match r with
 | .own c=> ∀p,h' p=none->Q (.ref p) env' (C4 h' p (.cont c))
 | .val w=> Q w env' h'
 | _=> False
theorem aPrmO.mono {t:AT} (m:A1 t):A1 (aPrmO t):=λenv h Q Q' k q=> m env h _ _ (λr e g z=> by
 cases r with
 | own c=> exact λp n=> k _ _ _ (z p n)
 | val w=> exact k _ _ _ z
 | slot i=> exact z.elim) q
end
section
variable {X:Cx} {G:Gx}
def wau:List W->AH->(List W->AH->Prop)->Prop
 | [],h,Q=> Q [] h
 | .ref p::ws,h,Q=> (match h p with
   | some (.cont c)=> wau ws (A3x h p) λus h'=> Q (c.fz::us) h'
   | _=> wau ws h λus h'=> Q (.ref p::us) h')
 | w::ws,h,Q=> wau ws h λus h'=> Q (w::us) h'
theorem wau.mono {ws:List W}:∀{h:AH} {Q Q':List W->AH->Prop},(∀us h',Q us h'->Q' us h')->wau ws h Q->wau ws h Q':=by
 induction ws with
 | nil=> exact λk q=> k _ _ q
 | cons w ws ih=>
  intro h Q Q' k q
  cases w with
  | ref p=>
   unfold wau at q ⊢
   split at q
   ·exact ih (λus h' q=> k _ _ q) q
   ·exact ih (λus h' q=> k _ _ q) q
  | _=>
   unfold wau at q ⊢
   exact ih (λus h' q=> k _ _ q) q
end
mutual
def W.nok (k0:Str):W->Bool
 | .dct ks ws=> (match ks with
  | .str x::_=> decide (x≠k0)
  | _=> true) && W.noks k0 ws
 | .tup ws=> W.noks k0 ws
 | .lst ws=> W.noks k0 ws
 | .exc _ _ _=> false
 | _=> true
def W.noks (k0:Str):List W->Bool
 | []=> true
 | w::ws=> w.nok k0 && W.noks k0 ws
end
def Cont.nok (k0:Str):Cont->Bool
 | .seq ws=> W.noks k0 ws
 | .map kvs=> W.noks k0 (kvs.map (·.2))
def AO.nok (k0:Str):AO->Bool
 | .cont c=> c.nok k0
 | .ins _ fs=> W.noks k0 (fs.map (·.2))
section
variable {K:PySem.W.Frag} {H H':Hp} {q:Addr} {od:Obj} {u:HO} {kq:List (Key×V)} {k0:Str}
mutual
theorem Rep.unlockN (hq:H q=some (.frz od (.dK kq))) (hk:∃v r,kq=(.inr k0,v)::r) (kp:∀p o,H p=some o->Imm o->p≠q->H' p=some o):∀(w:W) (v:V),w.nok k0=true->Rep K H w v->Rep K H' w v
 | .non,_,_,h=> by simpa only [Rep] using h
 | .bl _,_,_,h=> by simpa only [Rep] using h
 | .int _,_,_,h=> by simpa only [Rep] using h
 | .str _,_,_,h=> by simpa only [Rep] using h
 | .ref _,_,_,h=> by simpa only [Rep] using h
 | .ty _,_,_,h=> by simpa only [Rep] using h
 | .emp,_,_,h=> by simpa only [Rep] using h
 | .exc _ _ _,_,d,_=> by simp [W.nok] at d
 | .tup ws,v,d,h=> by
  simp only [Rep] at h ⊢
  obtain ⟨a,vs,e,s,r⟩:=h
  refine ⟨a,vs,e,s.imp (λe=> kp _ _ e trivial (o8 hq e λ_ z=> by cases z)) id,waa.unlockN hq hk kp ws vs ?_ r⟩
  simpa only [W.nok] using d
 | .lst ws,v,d,h=> by
  simp only [Rep] at h ⊢
  obtain ⟨a,vs,e,⟨o,s⟩,r⟩:=h
  refine ⟨a,vs,e,⟨o,kp _ _ s trivial (o8 hq s λ_ z=> by cases z)⟩,waa.unlockN hq hk kp ws vs ?_ r⟩
  simpa only [W.nok] using d
 | .dct ks ws,v,d,h=> by
  simp only [W.nok,Bool.and_eq_true] at d
  simp only [Rep] at h ⊢
  obtain ⟨a,e,⟨o,kvs,s,t,r⟩ | ⟨o,kvs,s,t,r⟩⟩:=h
  ·have na:a≠q:=λz=> by
    rw [z,hq] at s
    cases s
    obtain ⟨v,r',rfl⟩:=hk
    cases ks with
    | nil=> cases t
    | cons k ks=>
     rw [map_cons,map_cons] at t
     injection t with t1 t2
     have ek:k= .str k0:=by
      cases k <;> first | (exact congrArg W.str (Sum.inr.inj (Option.some.inj t1))) | cases t1
     rw [ek] at d
     have:=d.1
     simp at this
   exact ⟨a,e,.inl ⟨o,kvs,kp _ _ s trivial na,t,waa.unlockN hq hk kp ws _ d.2 r⟩⟩
  ·exact ⟨a,e,.inr ⟨o,kvs,kp _ _ s trivial (o8 hq s λ_ z=> by cases z),t,waa.unlockN hq hk kp ws _ d.2 r⟩⟩
theorem waa.unlockN (hq:H q=some (.frz od (.dK kq))) (hk:∃v r,kq=(.inr k0,v)::r) (kp:∀p o,H p=some o->Imm o->p≠q->H' p=some o):∀(ws:List W) (vs:List V),W.noks k0 ws=true->waa K H ws vs->waa K H' ws vs
 | [],vs,_,h=> by simpa only [waa] using h
 | w::ws,vs,d,h=> by
  simp only [W.noks,Bool.and_eq_true] at d
  simp only [waa] at h ⊢
  obtain ⟨v,r,e,a,b⟩:=h
  exact ⟨v,r,e,Rep.unlockN hq hk kp w v d.1 a,waa.unlockN hq hk kp ws r d.2 b⟩
end
theorem wae.unlockN (hq:H q=some (.frz od (.dK kq))) (hk:∃v r,kq=(.inr k0,v)::r) (kp:∀p o,H p=some o->Imm o->p≠q->H' p=some o) {p:Addr} (s:H' p=H p):∀{c:Cont},c.nok k0=true->wae K H p c->wae K H' p c
 | .seq ws,d,⟨vs,e,r⟩=> ⟨vs,s.trans e,waa.unlockN hq hk kp _ _ d r⟩
 | .map kvs,d,.inl ⟨ks,e,t,r⟩=> .inl ⟨ks,s.trans e,t,waa.unlockN hq hk kp _ _ d r⟩
 | .map kvs,d,.inr ⟨ks,e,t,r⟩=> .inr ⟨ks,s.trans e,t,waa.unlockN hq hk kp _ _ d r⟩
theorem wam.unlockN (hq:H q=some (.frz od (.dK kq))) (hk:∃v r,kq=(.inr k0,v)::r) (kp:∀p o,H p=some o->Imm o->p≠q->H' p=some o) {p:Addr} (s:H' p=H p):∀{o:AO},o.nok k0=true->wam K H p o->wam K H' p o
 | .cont _,d,r=> wae.unlockN hq hk kp s d r
 | .ins _ _,d,⟨dx,vs,e,t,r⟩=> ⟨dx,vs,s.trans e,t,waa.unlockN hq hk kp _ _ d r⟩
end
section
variable {X:Cx} {G:Gx} {e:Expr} {t:AT} {i:Nat}
end
section
open AutoSeq1 (wpAny_loadPart')
variable {P:Program} {w:World}
end
inductive EKL where
 | pl | dc | ow (C:Addr) (sp:Sp)
section
variable {X:Cx} {pins:List (Addr×Obj)} {σ:L2.St} {H:Hp} {s:Shared}
end
inductive EK where
 | pl | dc | ow (C:Str) (sp:A5)
def EK.mo:EK->Prop
 | .ow _ sp=> D1 sp
 | _=> True
def aEl:EK->W->W->AH->(Bool->AH->Prop)->Prop
 | .pl,x,y,h,Q=> x.dat 60=true/\y.dat 60=true/\Q (D2 x y) h
 | .dc,x,y,h,Q=> ∃l1 l2,x=N7 l1/\y=N7 l2/\l6 l1=true/\l6 l2=true/\(l1.map (·.1)).Nodup/\Q (l1.length==l2.length && A0p l2 l1) h
 | .ow C sp,x,y,h,Q=> ∃a b fs gs,x= .ref a/\y= .ref b/\h a=some (.ins C fs)/\h b=some (.ins C gs)/\(a=b->Q true h)/\(a≠b->sp [.ref a,.ref b] h (λr h'=> ∃k:Bool,r= .val (.bl k)/\Q k h') λ_ _=> False)
theorem aEl.mono {k:EK} (m:k.mo) {x y:W} {h:AH} {Q Q':Bool->AH->Prop} (i:∀c h,Q c h->Q' c h) (q:aEl k x y h Q):aEl k x y h Q':=by
 cases k with
 | pl=> exact ⟨q.1,q.2.1,i _ _ q.2.2⟩
 | dc=> obtain ⟨l1,l2,a,b,c,d,e,q⟩:=q;exact ⟨l1,l2,a,b,c,d,e,i _ _ q⟩
 | ow C sp=> obtain ⟨a,b,fs,gs,e1,e2,e3,e4,q1,q2⟩:=q;exact ⟨a,b,fs,gs,e1,e2,e3,e4,λz=> i _ _ (q1 z),λz=> m _ _ _ _ _ _ (λr h' ⟨k,y1,y2⟩=> ⟨k,y1,i _ _ y2⟩) (λ_ _ z=> z) (q2 z)⟩
def wax:List EK->List W->List W->AH->(Bool->AH->Prop)->Prop
 | [],[],[],h,Q=> Q true h
 | k::ks,x::xs,y::ys,h,Q=> aEl k x y h λc h'=> if c=true then wax ks xs ys h' Q else Q false h'
 | _,_,_,_,_=> False
theorem wax.mono:∀{ks:List EK},(∀k∈ks,k.mo)->∀{xs ys:List W} {h:AH} {Q Q':Bool->AH->Prop},(∀c h,Q c h->Q' c h)->wax ks xs ys h Q->wax ks xs ys h Q'
 | [],_,[],[],h,Q,Q',i,q=> i _ _ q
 | k::ks,m,x::xs,y::ys,h,Q,Q',i,q=> aEl.mono (m k mem_cons_self) (λc h' z=> by
   cases c with
   | true=> exact wax.mono (λk hk=> m k (mem_cons_of_mem _ hk)) i z
   | false=> exact i _ _ z) q
 | [],_,_::_,_,_,_,_,_,q=> q.elim
 | [],_,[],_::_,_,_,_,_,q=> q.elim
 | _::_,_,[],_,_,_,_,_,q=> q.elim
 | _::_,_,_::_,[],_,_,_,_,q=> q.elim
def aEqT (neg:Bool) (ks:List EK) (ta tb:AT):AT:=λenv h Q=> ta env h λr env1 h1=> tb env1 h1 λr2 env2 h2=> ∃xs ys,r= .val (.tup xs)/\r2= .val (.tup ys)/\xs.length=ks.length/\ys.length=ks.length/\wax ks xs ys h2 λc h3=> Q (.val (.bl (if neg=true then !c else c))) env2 h3
section
variable {X:Cx} {G:Gx} {ks:List EK} {ta tb:AT} {a b:Expr} {neg:Bool} {pos:Pos}
theorem aEqT.mono (mk:∀k∈ks,k.mo) (m:A1 ta) (n:A1 tb):A1 (aEqT neg ks ta tb):=λenv h Q Q' k q=>
 m env h _ _ (λr e g z=> n e g _ _ (λr2 e2 g2 ⟨xs,ys,z1,z2,l1,l2,z⟩=> ⟨xs,ys,z1,z2,l1,l2,wax.mono mk (λ_ _ z=> k _ _ _ z) z⟩) z) q
def wao (X:Cx) (j:Nat):List EK->Prop
 | []=> True
 | .ow C sp::r=> (∃st k ps,OkM X.prog X.w X.K X.mg X.base C "__eq__" st k 2 ps [] sp/\A1d C "__eq__" st ps/\k+1<=j)/\wao X j r
 | _::r=> wao X j r
theorem wao.mo {j:Nat}:∀{ks:List EK},wao X j ks->∀k∈ks,k.mo
 | [],_,k,h=> by cases h
 | k0::r,e,k,h=> by
  rcases List.mem_cons.mp h with rfl | h2
  ·cases k with
   | ow C sp=> obtain ⟨⟨st,k,ps,O,_,_⟩,_⟩:=e;exact O.sm
   | pl=> trivial
   | dc=> trivial
  ·cases k0 with
   | ow C sp=> exact wao.mo e.2 k h2
   | pl=> exact wao.mo (show wao X j r from e) k h2
   | dc=> exact wao.mo (show wao X j r from e) k h2
section
variable {j:Nat} (gk:G.K=X.K) (ok:wao X j ks) (hr:Room j X.A) (ha:AE X G a ta) (hb:AE X G b tb)
include gk ok hr ha hb
end
end
end Ab
namespace Ab
open PySem PySem.Spec PySem.W PyProof.Rows L2
mutual
theorem W.dat_nd:∀(n:Nat) (w:W),w.dat n=true->w.pd.hasDict=false
 | _,.non,_=> by simp only [W.pd,PyData.hasDict]
 | _,.bl _,_=> by simp only [W.pd,PyData.hasDict]
 | _,.int _,_=> by simp only [W.pd,PyData.hasDict]
 | _,.str _,_=> by simp only [W.pd,PyData.hasDict]
 | n+1,.tup xs,d=> by
  simp only [W.dat] at d
  simp only [W.pd,PyData.hasDict]
  exact W.dats_nd n xs d
 | n+1,.lst xs,d=> by
  simp only [W.dat] at d
  simp only [W.pd,PyData.hasDict]
  exact W.dats_nd n xs d
 | 0,.tup _,d=> by simp [W.dat] at d
 | 0,.lst _,d=> by simp [W.dat] at d
 | _,.dct _ _,d=> by simp [W.dat] at d
 | _,.exc _ _ _,d=> by simp [W.dat] at d
 | _,.ref _,d=> by simp [W.dat] at d
 | _,.ty _,d=> by simp [W.dat] at d
 | 0,.emp,d=> by simp [W.dat] at d
 | n+1,.emp,_=> by simp only [W.pd,PyData.hasDict,PyData.hasDictAll]
theorem W.dats_nd:∀(n:Nat) (xs:List W),xs.all (W.dat n)=true->PyData.hasDictAll (W.pds xs)=false
 | _,[],_=> by simp only [W.pds,PyData.hasDictAll]
 | n,x::xs,d=> by
  simp only [List.all_cons,Bool.and_eq_true] at d
  simp only [W.pds,PyData.hasDictAll,W.dat_nd n x d.1,W.dats_nd n xs d.2,Bool.or_self]
end
section
variable {X:Cx} {G:Gx}
end
end Ab
namespace Ab
open PySem PySem.Spec PyProof.Rows L2
section
variable {X:Cx}
def isO (a:Addr) (oe:Obj):HO:= .ext λh=> h.get? a=some oe
def H9 (H:Hp) (a dx:Addr) (oe od:Obj) (fs:List (Str×V)):Hp:=upd (upd H a (.frz oe (isO a oe))) dx (.frz od (.xd fs))
theorem A9c {pins:List (Addr×Obj)} {σ:L2.St} {H:Hp} {sI s:Shared} {a dx:Addr} {oe:Obj} {fs:List (Str×V)} (J:Inv X pins σ H sI) (k:∀b o,sI.heap.get? b=some o->s.heap.get? b=some o) (na:sI.heap.get? a=none) (ha:s.heap.get? a=some oe) (Ha:H a=none)
  (Hd:H dx=some (.xd fs)) (os:s.os=sI.os) (ag:AllBare s.gens):∃od,Inv X pins σ (H9 H a dx oe od fs) s:=by
 have ne:a≠dx:=λz=> by rw [z,Hd] at Ha;cases Ha
 have hok:=J.hok.kept k
 obtain ⟨mA,hN,hr⟩:=hok dx _ Hd
 obtain ⟨od,es,ep,hd,dd,rr⟩:=id hN
 refine ⟨od,?_⟩
 have at_a:H9 H a dx oe od fs a=some (.frz oe (isO a oe)):=by unfold H9;rw [upd_ne ne,upd_same]
 have at_d:H9 H a dx oe od fs dx=some (.frz od (.xd fs)):=by unfold H9;rw [upd_same]
 have off:∀b,b≠a->b≠dx->H9 H a dx oe od fs b=H b:=λb h1 h2=> by unfold H9;rw [upd_ne h2,upd_ne h1]
 have keep:∀b o,H b=some o->(∀q,o≠ .xd q)->H9 H a dx oe od fs b=some o:=λb o e n=> by
  rw [off b (λz=> by rw [z,Ha] at e;cases e) λz=> by rw [z,Hd] at e;exact n _ (Option.some.inj e).symm]
  exact e
 have sub:∀b o,ObjOk X.prog X.w H s.heap b o->ObjOk X.prog X.w (H9 H a dx oe od fs) s.heap b o:=by
  intro b o
  induction o with
  | dT kvs=>
   rintro ⟨a1,a2,xs,a3,a4⟩
   exact ⟨a1,a2,xs,a3.mono λx y ⟨b1,b2,b3⟩=> ⟨b1,keep _ _ b2 (λq z=> by cases z),b3⟩,a4⟩
  | ins C dx fs=>
   rintro ⟨a1,a2⟩
   exact ⟨keep _ _ a1 (λq z=> by cases z),a2⟩
  | frz o u ih=> rintro ⟨a1,a2⟩;exact ⟨a1,ih a2⟩
  | _=> exact id
 refine J.call' (ch:=[]) os ⟨λb o e _ _ _=> k b o e,λb o e _ _ _=> ⟨o.slots,k b o e⟩,λb o e n _=> ?_,λb o e _=> ⟨o,k b o e⟩,λb xs e=> keep b _ e λq z=> (by cases z),λb o u e=> keep b _ e λq z=> (by cases z),λb ps e=> ⟨#[],by rw [Array.append_empty];exact keep b _ e λq z=> (by cases z)⟩⟩ (λb u e=> ?_) ag λb z=> absurd z (by simp)
 ·rw [off b (λz=> by rw [z,na] at e;cases e) λz=> by rw [z,Hd] at n;cases n]
  exact n
 ·by_cases h1:b=a
  ·subst h1
   rw [at_a] at e;cases e
   exact ⟨ha,ha,⟨_,ha⟩,λh1 h2 p q=> q _ p⟩
  ·by_cases h2:b=dx
   ·subst h2
    rw [at_d] at e;cases e
    exact ⟨hd,mA,hN,hr⟩
   ·rw [off b h1 h2] at e
    exact sub b u (hok b u e)
def B08 (t:L2.St->Hp->XK->Prop):TE:=λσ H Q=> t σ H λcls d H'=> ∃dx fs,d=some dx/\H' dx=some (.xd fs)/\∀(a:Addr) (oe od:Obj),H' a=none->oe.cls=cls->oe.dict=some dx->(∃q,oe.data= .fields q)->Q (.ref a) (H9 H' a dx oe od fs)
theorem A30 {e:Expr} {t:L2.St->Hp->XK->Prop} (he:L2N.PMk X e t):PE X e (B08 t):=⟨λpins s σ H Q I h=> by
 refine wpAny_mono (he pins s σ H _ I h) (λu s1 hu=> ?_) λ_ _ x=> x
 obtain ⟨a,oe,vs,sI,H',cls,d,rfl,J,k,hne,ha,hz,hd,h1,na,os,ag,r,dx,fs,ed,ex,q⟩:=hu
 obtain ⟨od,K⟩:=A9c J k hne ha na ex os ag
 exact ⟨.ref a,_,K,rfl,q a oe od na hz.1 (hz.2.1.trans ed) ⟨_,hd⟩⟩⟩
def tXv (K:PySem.W.Frag) (n:Str) (te:TE):TE:=λσ H Q=> te σ H λx H1=> ∃(a C dd:Addr) (oe od:Obj) (u:HO) (q:Array Value) (fs:List (Str×V)) (v:V),x= .ref a/\H1 a=some (.frz oe u)/\oe.cls= .ref C/\XfC K C/\PySem.W.findIn K (.ref C) n=some none/\
 oe.dict=some dd/\oe.data= .fields q/\H1 dd=some (.frz od (.xd fs))/\fs.lookup n=some v/\Q v H1
theorem A83 {e:Expr} {te:TE} {pos:Pos} {n:Str} (he:PE X e te) (hb:attributeBase e n X.env (eval e X.env)=eval e X.env:=by rfl):PE X (.Attribute e n pos) (tXv X.K n te):=by
 refine ⟨λpins s σ H Q I h=> ?_⟩
 refine attr_of hb (thn (he.run pins s σ H _ I h) λu s1 hh=> ?_)
 obtain ⟨x,H1,I1,rx,a,C,dd,oe,od,u',q',fs,v,ex,ea,hc,T,hno,hdd,hdt,ed,l,q⟩:=hh
 subst ex
 obtain rfl:u=Value.ref a:=rx
 obtain ⟨ha,_⟩:=I1.hok a _ ea
 obtain ⟨_,mA,hns,hr⟩:=I1.hok dd _ ed
 obtain ⟨od',ho,hl⟩:=lookIn_ns hns
 obtain ⟨u,hu,ru⟩:=RelO.some_of (v:=v) (o:=mA n) (by rw [<-l];exact hr n)
 have J:PySem.W.InstAt s1.heap a oe C (some od'):=⟨ha,hc,by unfold PySem.W.notCls;rw [hdt] <;> rfl,by rw [hdd];exact ho⟩
 exact HandSPX.exc_get I1.kIn J T.ga T.gg T.exC (PySem.W.findObj_own T.hdC hno rfl (by rw [hl,hu])) (handed_of ru) ⟨v,H1,I1.tok _,ru,q⟩
structure XiC (K:PySem.W.Frag) (C:Addr):Prop where
 cl:(PySem.W.clsIn K C).isSome=true
 ga:PySem.W.findIn K (.ref C) "__getattribute__"=some (some (.builtin "BaseException.__getattribute__"))
 gt:∃gt,PySem.W.findIn K (.ref C) "__getattr__"=some gt
 sub:PySem.W.subIn K (.ref C) (.type "BaseException")=some true
 ca:PySem.W.findIn K (.ref C) "__class__"=some (some (.builtin "object.__class__"))
 cn:PySem.W.specialIn K (.builtin "object.__class__") "__get__"=some (some (.builtin "getset_descriptor.__get__"))
 ct:PySem.W.takesIn K (.builtin "object.__class__")=some true
 cm:PySem.W.mroIn K C (.type "object")=some true
theorem A26:CallR X (.builtin "isinstance") (λxs H Q=> ∃(a C dx:Addr) (oe od:Obj) (u:HO) (q:Array Value) (fs:List (Str×V)) (y:V) (D:Value) (b:Bool),xs=[.ref a,y]/\H a=some (.frz oe u)/\oe.cls= .ref C/\XiC X.K C/\oe.dict=some dx/\oe.data= .fields q/\H dx=some (.frz od (.xd fs))/\
  (∀z,RelV y z->z=D)/\PySem.W.kitOne X.K (.ref C) D=some b/\Q (.bl b) H):=by
 intro pins s σ H xs us Q I r ⟨a,C,dx,oe,od,u,q,fs,y,D,b,exs,ea,hc,T,hdx,hdt,ed,hD,hk,z⟩
 subst exs
 obtain ⟨u1,u2,rfl,r1,r2⟩:=vals2 r
 obtain rfl:u1=Value.ref a:=r1
 obtain rfl:=hD _ r2
 obtain ⟨ha,_⟩:=I.hok a _ ea
 obtain ⟨_,mA,hns,hr⟩:=I.hok dx _ ed
 obtain ⟨od',ho,hl⟩:=lookIn_ns hns
 have J:PySem.W.InstAt s.heap a oe C (some od'):=⟨ha,hc,by unfold PySem.W.notCls;rw [hdt] <;> rfl,by rw [hdx];exact ho⟩
 obtain ⟨gt,hgt⟩:=T.gt
 exact PySem.W.kia_one (PySem.W.kitx_exc T.cl T.ga hgt T.sub T.ca T.cn T.ct T.cm) I.kIn J hk (λz=> nomatch z) λtk=> ⟨.bl b,H,I.tok tk,rfl,z⟩
end
def C1 (x word:Str) (fs:List Str) (ws:List W):W:= .exc x ((initF (W.str word) fs ws).map (·.1)) ((initF (W.str word) fs ws).map (·.2))
def P4 (x word:Str) (fs:List Str) (t:B8):AT:=λenv h Q=> t env h λws env1 h1=> Q (.val (C1 x word fs ws)) env1 h1
theorem A3R {α β:Type} (l:List (α×β)):(l.map (·.1)).zip (l.map (·.2))=l:=by
 induction l with
 | nil=> rfl
 | cons p l ih=> rw [map_cons,map_cons,List.zip_cons_cons,ih]
section
variable {X:Cx} {G:Gx} {x word:Str} {fs:List Str} {t:B8} {e:Expr} {es:List Expr} {p pos:Pos} {k:Nat}
theorem Z7 (R:XkOk X.prog X.w X.K X.mg X.base x word fs) (gk:G.K=X.K) (hr:Room k X.A) (hk:2<=k) (hg:Gl X x) (ha:AN X G (e::es) fs.length t) (hl:fs.length<=900:=by decide)
  (hdb:(x==("__debug__":Str))=false:=by decide) (he:starEach (e::es) X.env=(false,eval e X.env)::starEach es X.env:=by rfl) (hpl:(backTo pos (starEach es X.env)).any (·.1)=false:=by rfl):
  AE X G (.Call (.Name x p) (e::es) [] pos) (P4 x word fs t):=by
 obtain ⟨fI,fd,ps,iC,tI,hb,F⟩:=R.ini
 refine ⟨λenv h Q Q' kq q=> ha.aa.mono env h _ _ (λws env1 h1 z=> kq _ _ _ z) q,PE.imp (A30 (A9I R.cls iC tI F (hr.mono hk) hb (passes_call (W:=λ_ _ _ _=> False) takes0 λ_ _ _ _ z=> z) hg R.gl ha.aa.pa hdb he hpl)) λσ H Q ⟨env,h,S,q⟩=> ?_⟩
 refine ⟨env,h,S,ha.aa.mono env h _ _ (λws env1 h1 ⟨wl,z⟩ vs H1 S1 x1 r1=> ?_) (ha.ln _ _ _ q)⟩
 have lv:vs.length=fs.length:=by rw [<-r1.length,wl]
 refine ⟨by omega,λa na=> ⟨a,vs,rfl,lv,upd_same,λd H2 nd da e1 e2 e3=> ⟨rfl,d,_,e1,e2,?_,?_⟩⟩⟩
 ·rw [upd_ne da] at nd;exact nd
 ·have nd1:H1 d=none:=by rw [upd_ne da] at nd;exact nd
  refine ⟨d,_,rfl,upd_same,λa' oe od na' hc hd hq=> ?_⟩
  have ad:a'≠d:=λz=> by rw [z,upd_same] at na';cases na'
  have nw0:New H1 (upd (L2.del H2 a) d (.xd (initF (V.str word) fs vs))):=λp o ep=> by
   have pa:p≠a:=ne_of_none ep na
   have pd:p≠d:=ne_of_none ep nd1
   rw [upd_ne pd,L2.del_ne pa,e3 p pa pd,upd_ne pa]
   exact ep
  have nw:New H1 (H9 (upd (L2.del H2 a) d (.xd (initF (V.str word) fs vs))) a' d oe od (initF (V.str word) fs vs)):=λp o ep=> by
   have pd:p≠d:=ne_of_none ep nd1
   have pa:p≠a':=λz=> by rw [z] at ep;rw [nw0 _ _ ep] at na';cases na'
   unfold H9
   rw [upd_ne pd,upd_ne pa]
   exact nw0 p o ep
  obtain ⟨f1,f2⟩:=waa.initF (word:=word) (waa.mono nw.keeps _ _ r1) wl
  refine z (.ref a') _ (nw.bs S1) (x1.trans nw.xt) ?_ trivial
  show Rep G.K _ (.exc _ _ _) _
  simp only [Rep]
  refine ⟨a',d,(initF (V.str word) fs vs).map (·.2),oe,isO a' oe,od,rfl,?_,by rw [hc,gk],hd,hq,?_,f2⟩
  ·unfold H9;rw [upd_ne ad,upd_same]
  ·unfold H9;rw [upd_same,f1,A3R]
theorem A72 (R:XkOk X.prog X.w X.K X.mg X.base x word []) (gk:G.K=X.K) (hr:Room k X.A) (hk:2<=k) (hg:Gl X x) (hdb:(x==("__debug__":Str))=false:=by decide):AE X G (.Call (.Name x p) [] [] pos) (P4 x word [] aNil):=by
 obtain ⟨fI,fd,ps,iC,tI,hb,F⟩:=R.ini
 refine ⟨λenv h Q Q' kq q=> kq _ _ _ q,PE.imp (A30 (A8m R.cls iC tI F (hr.mono hk) hb (passes_call (W:=λ_ _ _ _=> False) takes0 λ_ _ _ _ z=> z) hg R.gl hdb)) λσ H Q ⟨env,h,S,z⟩=> ?_⟩
 refine ⟨Nat.zero_le _,λa na=> ⟨a,[],rfl,rfl,upd_same,λd H2 nd da e1 e2 e3=> ⟨rfl,d,_,e1,e2,?_,?_⟩⟩⟩
 ·rw [upd_ne da] at nd;exact nd
 ·have nd1:H d=none:=by rw [upd_ne da] at nd;exact nd
  refine ⟨d,_,rfl,upd_same,λa' oe od na' hc hd hq=> ?_⟩
  have ad:a'≠d:=λz=> by rw [z,upd_same] at na';cases na'
  have nw0:New H (upd (L2.del H2 a) d (.xd (initF (V.str word) [] []))):=λp o ep=> by
   have pa:p≠a:=ne_of_none ep na
   have pd:p≠d:=ne_of_none ep nd1
   rw [upd_ne pd,L2.del_ne pa,e3 p pa pd,upd_ne pa]
   exact ep
  have nw:New H (H9 (upd (L2.del H2 a) d (.xd (initF (V.str word) [] []))) a' d oe od (initF (V.str word) [] [])):=λp o ep=> by
   have pd:p≠d:=ne_of_none ep nd1
   have pa:p≠a':=λz=> by rw [z] at ep;rw [nw0 _ _ ep] at na';cases na'
   unfold H9
   rw [upd_ne pd,upd_ne pa]
   exact nw0 p o ep
  obtain ⟨f1,f2⟩:=waa.initF (K:=G.K) (H:=H9 (upd (L2.del H2 a) d (.xd (initF (V.str word) [] []))) a' d oe od (initF (V.str word) [] [])) (word:=word) (fs:=[]) (ws:=[]) (vs:=[]) .nil rfl
  refine z (.ref a') _ (nw.bs S) nw.xt ?_ trivial
  show Rep G.K _ (.exc _ _ _) _
  simp only [Rep]
  refine ⟨a',d,(initF (V.str word) [] []).map (·.2),oe,isO a' oe,od,rfl,?_,by rw [hc,gk],hd,hq,?_,f2⟩
  ·unfold H9;rw [upd_ne ad,upd_same]
  ·unfold H9;rw [upd_same,f1,A3R]
end
theorem A29 {K:PySem.W.Frag} {H:Hp} {n:Str} {w:W}:∀{ns:List Str} {ws:List W} {vs:List V},waa K H ws vs->(ns.zip ws).lookup n=some w->∃v,(ns.zip vs).lookup n=some v/\Rep K H w v
 | [],_,_,_,e=> by cases e
 | _::_,[],_,_,e=> by cases e
 | m::ns,x::ws,vs,r,e=> by
  obtain ⟨v,t,rfl,a,b⟩:=r.of_cons
  rw [List.zip_cons_cons,lookup_cons] at e
  rw [List.zip_cons_cons,lookup_cons]
  cases q:(n==m) with
  | true=> rw [q] at e;cases e;exact ⟨v,rfl,a⟩
  | false=> rw [q] at e;exact A29 b e
def T1 (ks:List Str) (n:Str) (to:AT):AT:=λenv h Q=> to env h λr env1 h1=> ∃C ns ws w,view env1 h1 r= .wv (.exc C ns ws)/\(ns.zip ws).lookup n=some w/\C∈ks/\Q (.val w) env1 h1
def M9 (ks:List Str) (f:Str->Bool) (to:AT):AT:=λenv h Q=> to env h λr env1 h1=> ∃C ns ws,view env1 h1 r= .wv (.exc C ns ws)/\C∈ks/\Q (.val (.bl (f C))) env1 h1
section
variable {X:Cx} {G:Gx} {ks:List Str} {n D:Str} {o:Expr} {to:AT} {p p2 pos:Pos} {f:Str->Bool}
theorem Y5 (gk:G.K=X.K) (T:∀c∈ks,XfC X.K (He.ga X.K c)/\PySem.W.findIn X.K (.ref (He.ga X.K c)) n=some none) (ho:AE X G o to) (hb:attributeBase o n X.env (eval o X.env)=eval o X.env:=by rfl):AE X G (.Attribute o n pos) (T1 ks n to):=by
 refine ⟨λenv h Q Q' k q=> ho.mono env h _ _ (λr e g ⟨C,ns,ws,w,z1,z2,z3,z⟩=> ⟨C,ns,ws,w,z1,z2,z3,k _ _ _ z⟩) q,PE.imp (A83 ho.pe hb) λσ H Q ⟨env,h,S,q⟩=> ?_⟩
 refine ⟨env,h,S,ho.mono env h _ _ (λr env1 h1 ⟨C,ns,ws,w,e,l,hC,z⟩ x H1 S1 x1 r1 _=> ?_) q⟩
 have r2:=r1.vr S1
 rw [e] at r2
 obtain ⟨a,dx,vs,oe,u,od,ex,ea,hc,hd,⟨q',hq⟩,ed,rl⟩:=Rep.of_exc (K:=G.K) (H:=H1) r2
 obtain ⟨v,lv,rv⟩:=A29 rl l
 exact ⟨a,_,dx,oe,od,u,q',_,v,ex,ea,gk▸hc,(T C hC).1,(T C hC).2,hd,hq,ed,lv,z v H1 S1 x1 rv trivial⟩
theorem W8 (gk:G.K=X.K) (T:∀c∈ks,XiC X.K (He.ga X.K c)/\PySem.W.kitOne X.K (.ref (He.ga X.K c)) (.ref (He.ga X.K D))=some (f c)) (gD:X.mg D=some (.ref (He.ga X.K D))) (hg:Gl X "isinstance") (hm:X.mg "isinstance"=none) (hgD:Gl X D) (ho:AE X G o to) (hdb:(D==("__debug__":Str))=false:=by decide)
  (hs:starEach [o,.Name D p2] X.env=(false,eval o X.env)::starEach [.Name D p2] X.env:=by rfl) (hs2:starEach [.Name D p2] X.env=(false,eval (.Name D p2) X.env)::starEach [] X.env:=by rfl):
  AE X G (.Call (.Name "isinstance" p) [o,.Name D p2] [] pos) (M9 ks f to):=by
 refine ⟨λenv h Q Q' k q=> ho.mono env h _ _ (λr e g ⟨C,ns,ws,z1,z2,z⟩=> ⟨C,ns,ws,z1,z2,k _ _ _ z⟩) q,PE.imp (pe_callB A26 hg hm N2 (pa_cons ho.pe (pa_cons (pe_glob (v:= .ref (He.ga X.K D)) hgD gD rfl hdb) pa_nil hs2) hs) (by decide) (by decide) hs (by rw [hs2,show starEach [] X.env=[] from rfl];rfl)) λσ H Q ⟨env,h,S,q⟩=> ?_⟩
 refine ⟨env,h,S,ho.mono env h _ _ (λr env1 h1 ⟨C,ns,ws,e,hC,z⟩ x H1 S1 x1 r1 _=> ?_) q⟩
 have r2:=r1.vr S1
 rw [e] at r2
 obtain ⟨a,dx,vs,oe,u,od,ex,ea,hc,hd,⟨q',hq⟩,ed,rl⟩:=Rep.of_exc (K:=G.K) (H:=H1) r2
 subst ex
 exact ⟨a,_,dx,oe,od,u,q',_,.ref (He.ga X.K D),_,_,rfl,ea,gk▸hc,(T C hC).1,hd,hq,ed,λz rz=> rz,(T C hC).2,z (.bl (f C)) H1 S1 x1 (show Rep G.K H1 (.bl _) _ from .bl) trivial⟩
end
theorem A6t {n:String} {bm:List Value} (h:A13 n bm=true):∃B ii bmB,ExcBaseFacts B n ii bmB/\MroG bm bmB:=by
 unfold A13 at h
 rcases Bool.or_eq_true_iff.mp h with h | h
 ·obtain ⟨a,b⟩:=Bool.and_eq_true_iff.mp h
  obtain rfl:=of_decide_eq_true a
  exact ⟨_,_,_,F.excBase_ValueError,A1H A9v _ b⟩
 rcases Bool.or_eq_true_iff.mp h with h | h
 ·obtain ⟨a,b⟩:=Bool.and_eq_true_iff.mp h
  obtain rfl:=of_decide_eq_true a
  exact ⟨_,_,_,F.excBase_LookupError,A1H A9O _ b⟩
 ·obtain ⟨a,b⟩:=Bool.and_eq_true_iff.mp h
  obtain rfl:=of_decide_eq_true a
  exact ⟨_,_,_,F.excBase_IndexError,A1H A9g _ b⟩
theorem A7M {K:PySem.W.Frag} {C:Addr} (h:A2L K C=true):∃nm q N bs bm bmB B newId initId sn sub ab col dd k0 k1 k2 k3 k5,K.lookup C=some (excClassObj nm q C N bs bm true sn sub ab col dd k0 k1 k2 k3 k5 newId)/\ExcBaseFacts B newId initId bmB/\MroG bm bmB:=by
 unfold A2L at h
 split at h
 ·rename_i t dd cd sl e
  obtain ⟨h1,h⟩:=Bool.and_eq_true_iff.mp h
  split at h
  ·rename_i C' bm k0 k1 k2 k3 n k5 hm hs
   obtain ⟨h2,h⟩:=Bool.and_eq_true_iff.mp h
   obtain ⟨h3,h⟩:=Bool.and_eq_true_iff.mp h
   obtain ⟨h4,h5⟩:=Bool.and_eq_true_iff.mp h
   have h1:=of_decide_eq_true h1
   have h2:=of_decide_eq_true h2
   obtain ⟨B,ii,bmB,FB,M⟩:=A6t h3
   obtain ⟨nm,bs,mro,ns,qn,hd,sn,sub,ab,col,del⟩:=cd
   dsimp only at hm h4 h5
   have h4:del=false:=by simpa using h4
   subst h1 h2 hm h4 h5
   have es:sl=#[k0,k1,k2,k3,some (.builtin n),k5]:=by
    obtain ⟨l⟩:=sl
    simp only at hs
    rw [hs]
   subst es
   exact ⟨nm,qn,ns,bs,bm,bmB,B,n,ii,sn,sub,ab,col,dd,k0,k1,k2,k3,k5,e,FB,M⟩
  ·cases h
 ·cases h
structure XkF (K:PySem.W.Frag) (x:Str) (fs:List Str):Prop where
 cls:OexG K (He.ga K x)
 ini:PySem.W.findIn K (.ref (He.ga K x)) "__init__"=some (some (.ref (He.ma K (He.ga K x) "__init__")))
 fn:PySem.W.typeIn K (.ref (He.ma K (He.ga K x) "__init__"))=some (.type "function")
 xf:XfC K (He.ga K x)
 no:∀f∈("word":Str)::fs,PySem.W.findIn K (.ref (He.ga K x)) f=some none
theorem Y8 {K:PySem.W.Frag} {x:Str} {fs:List Str} (h:T0 K x fs=true):XkF K x fs:=by
 unfold T0 at h
 obtain ⟨h1,h⟩:=Bool.and_eq_true_iff.mp h
 obtain ⟨h2,h⟩:=Bool.and_eq_true_iff.mp h
 obtain ⟨h3,h⟩:=Bool.and_eq_true_iff.mp h
 obtain ⟨h4,h⟩:=Bool.and_eq_true_iff.mp h
 obtain ⟨h5,h⟩:=Bool.and_eq_true_iff.mp h
 obtain ⟨h6,h⟩:=Bool.and_eq_true_iff.mp h
 obtain ⟨h7,h⟩:=Bool.and_eq_true_iff.mp h
 obtain ⟨h8,h9⟩:=Bool.and_eq_true_iff.mp h
 exact ⟨⟨A7M h1,of_decide_eq_true h2,of_decide_eq_true h3,of_decide_eq_true h4,h5⟩,of_decide_eq_true h6,of_decide_eq_true h7,xfB_ok h8,λf m=> of_decide_eq_true (all_eq_true.mp h9 f m)⟩
theorem j2 {K:PySem.W.Frag} {ks:List Str} {f:Str} (h:f5 K ks f=true):∀c∈ks,XfC K (He.ga K c)/\PySem.W.findIn K (.ref (He.ga K c)) f=some none:=λc m=> by
 obtain ⟨a,b⟩:=Bool.and_eq_true_iff.mp (all_eq_true.mp h c m)
 exact ⟨xfB_ok a,of_decide_eq_true b⟩
theorem xk0 {P:Program} {w:World} {K:PySem.W.Frag} {mg:Str->Option Value} {base:Heap} {x qual word:Str} {params:Arguments} {scope:Scope} {fd:FuncData} {q1 q2 q3 q4:Pos} {j:Nat} (X:XkF K x []) (gl:mg x=some (.ref (He.ga K x)))
  (F:FunD K "__init__" qual params [.Assign [.Attribute (.Name "self" q1) "word" q2] (.Constant (.str word) j q3) q4] scope [] [] (He.ma K (He.ga K x) "__init__") fd) (S:FnScope ["self"] ["self"] scope)
  (bd:∀(kV doc pm:Value) (an:Option Addr) (cdv ct:Value) (us:List Value),us.length=1->bindArgs (PySem.W.fnOf "__init__" qual params [.Assign [.Attribute (.Name "self" q1) "word" q2] (.Constant (.str word) j q3) q4] scope .none kV doc pm an cdv ct) ⟨us,[]⟩=pure ((["self"]:List Str).zip us)):XkOk P w K mg base x word []:=
 ⟨gl,X.cls,_,fd,["self"],X.ini,X.fn,F.bindsN bd,A9i F S X.cls (X.no _ (by simp))⟩
theorem b7 {P:Program} {w:World} {K:PySem.W.Frag} {mg:Str->Option Value} {base:Heap} {x qual word f:Str} {params:Arguments} {scope:Scope} {fd:FuncData} {q1 q2 q3 q4 q5 q6 q7 q8:Pos} {j:Nat} (X:XkF K x [f]) (gl:mg x=some (.ref (He.ga K x)))
  (F:FunD K "__init__" qual params [.Assign [.Attribute (.Name "self" q1) "word" q2] (.Constant (.str word) j q3) q4,.Assign [.Attribute (.Name "self" q5) f q6] (.Name f q7) q8] scope [] [] (He.ma K (He.ga K x) "__init__") fd) (S:FnScope ["self",f] ["self",f] scope)
  (bd:∀(kV doc pm:Value) (an:Option Addr) (cdv ct:Value) (us:List Value),us.length=2->bindArgs (PySem.W.fnOf "__init__" qual params [.Assign [.Attribute (.Name "self" q1) "word" q2] (.Constant (.str word) j q3) q4,.Assign [.Attribute (.Name "self" q5) f q6] (.Name f q7) q8] scope .none kV doc pm an cdv ct) ⟨us,[]⟩=pure ((["self",f]:List Str).zip us))
  (hd:(f==("__debug__":Str))=false:=by decide) (hcd:(f==("__classdict__":Str))=false:=by decide):XkOk P w K mg base x word [f]:=
 ⟨gl,X.cls,_,fd,["self",f],X.ini,X.fn,F.bindsN bd,A92 F S X.cls (X.no _ (by simp)) (X.no _ (by simp)) hd hcd⟩
theorem A5t:bootBuiltins "LookupError"=some (.type "LookupError"):=by decide+kernel
section
variable {X:Cx} {G:Gx} {ks:List Str} {D:Str} {o:Expr} {to:AT} {p p2 pos:Pos} {f:Str->Bool}
theorem A7S {T:String} (gk:G.K=X.K) (Tc:∀c∈ks,XiC X.K (He.ga X.K c)/\PySem.W.kitOne X.K (.ref (He.ga X.K c)) (.type T)=some (f c)) (hg:Gl X "isinstance") (hm:X.mg "isinstance"=none) (hgD:Gl X D) (hmD:X.mg D=none) (hv:bootBuiltins D=some (.type T)) (ho:AE X G o to) (hn:D≠"__name__":=by decide) (hdb:(D==("__debug__":Str))=false:=by decide)
  (hs:starEach [o,.Name D p2] X.env=(false,eval o X.env)::starEach [.Name D p2] X.env:=by rfl) (hs2:starEach [.Name D p2] X.env=(false,eval (.Name D p2) X.env)::starEach [] X.env:=by rfl):
  AE X G (.Call (.Name "isinstance" p) [o,.Name D p2] [] pos) (M9 ks f to):=by
 refine ⟨λenv h Q Q' k q=> ho.mono env h _ _ (λr e g ⟨C,ns,ws,z1,z2,z⟩=> ⟨C,ns,ws,z1,z2,k _ _ _ z⟩) q,PE.imp (pe_callB A26 hg hm N2 (pa_cons ho.pe (pa_cons (pe_bltn (v:=V.ty T) hgD hmD hv (show _=_ from rfl) hn hdb) pa_nil hs2) hs) (by decide) (by decide) hs (by rw [hs2,show starEach [] X.env=[] from rfl];rfl)) λσ H Q ⟨env,h,S,q⟩=> ?_⟩
 refine ⟨env,h,S,ho.mono env h _ _ (λr env1 h1 ⟨C,ns,ws,e,hC,z⟩ x H1 S1 x1 r1 _=> ?_) q⟩
 have r2:=r1.vr S1
 rw [e] at r2
 obtain ⟨a,dx,vs,oe,u,od,ex,ea,hc,hd,⟨q',hq⟩,ed,rl⟩:=Rep.of_exc (K:=G.K) (H:=H1) r2
 subst ex
 exact ⟨a,_,dx,oe,od,u,q',_,.ty T,.type T,_,rfl,ea,gk▸hc,(Tc C hC).1,hd,hq,ed,λz rz=> rz,(Tc C hC).2,z (.bl (f C)) H1 S1 x1 (show Rep G.K H1 (.bl _) _ from .bl) trivial⟩
end
theorem A93 {K:PySem.W.Frag} {C:Addr} (h:xiB K C=true):XiC K C:=by
 unfold xiB at h
 obtain ⟨h1,h⟩:=Bool.and_eq_true_iff.mp h
 obtain ⟨h2,h⟩:=Bool.and_eq_true_iff.mp h
 obtain ⟨h3,h⟩:=Bool.and_eq_true_iff.mp h
 obtain ⟨h4,h⟩:=Bool.and_eq_true_iff.mp h
 obtain ⟨h5,h⟩:=Bool.and_eq_true_iff.mp h
 obtain ⟨h6,h⟩:=Bool.and_eq_true_iff.mp h
 obtain ⟨h7,h8⟩:=Bool.and_eq_true_iff.mp h
 exact ⟨h1,of_decide_eq_true h2,Option.isSome_iff_exists.mp h3,of_decide_eq_true h4,of_decide_eq_true h5,of_decide_eq_true h6,of_decide_eq_true h7,of_decide_eq_true h8⟩
theorem A8W {K:PySem.W.Frag} {ks:List Str} (h:A5J K ks=true):∀c∈ks,XiC K (He.ga K c):=λc m=> A93 (all_eq_true.mp h c m)
theorem Q7 {K:PySem.W.Frag} {ks l:List Str} {D:Value} (h:P6 K ks l D=true):∀c∈ks,PySem.W.kitOne K (.ref (He.ga K c)) D=some (l.contains c):=λc m=> of_decide_eq_true (all_eq_true.mp h c m)
end Ab
namespace Ab
open PySem PySem.Spec PySem.W PySem.Calls PyProof.Rows L2 HandSHeadRun
end Ab
namespace Ab
open PySem PySem.Spec PyProof.Rows L2 RZ
abbrev MC:=AH->(RR->AH->Prop)->(AExc->AH->Prop)->Prop
abbrev CE:=(SV->MC)->MC
abbrev CW:=(W->MC)->MC
abbrev CB:=(Bool->MC)->MC
abbrev CS:=(List SV->MC)->MC
abbrev A7:=(List W->MC)->MC
abbrev CO:=(Option Int->MC)->MC
def SV.fz:SV->W
 | .val w=> w
 | .own c=> c.fz
def SV.rr:SV->RR
 | .val w=> .val w
 | .own c=> .own c
def SV.rv:SV->RV
 | .val w=> .val w
 | .own c=> .own c
def RR.sv:RR->SV
 | .val w=> .val w
 | .own c=> .own c
def C6 (h:AH):SV->Vw
 | .val w=> viewW h w
 | .own c=> .cv c
def bad:MC:=λ_ _ _=> False
def C0 (p:Prop) (m:MC):MC:=λh Q E=> p/\m h Q E
def ret (x:SV):MC:=λh Q _=> Q x.rr h
def O2 (k:SV->MC):RV->MC
 | .val w=> k (.val w)
 | .own c=> k (.own c)
 | .slot _=> bad
def B09:C9:=oII (λ_ _=> True) λi j=> .int (i - j)
def F3:C9:=oII A5Q λi j=> .int (i % j)
def a9:C9:=oII CDivW λi j=> .int (i / j)
def l7:C9:=oII CPow λi j=> .int (i ^ j.toNat)
def m9:C9:=oII (λ_ _=> True) λi j=> .bl (decide (i < j))
def oLe:C9:=oII (λ_ _=> True) λi j=> .bl (decide (i<=j))
def oGt:C9:=oII (λ_ _=> True) λi j=> .bl (decide (j < i))
def g9:C9:=oII (λ_ _=> True) λi j=> .bl (decide (j<=i))
def B0O:C7:=oBls λbs=> bs.any id
def v9:C7:=oBls λbs=> bs.all id
def B0k:C7:=o1I λi=> if i < 0 then -i else i
def A98:C7:=o2I λi j=> if j < i then j else i
def A9q:C7:=o2I λi j=> if j > i then j else i
def eV (x:SV):CE:=λk=> k x
def eC (w:W):CE:=λk=> k (.val w)
def B7 (o:C9) (x y:SV) (k:SV->MC):MC:=λh Q E=> o (C6 h x) (C6 h y) λr=> O2 k r h Q E
def A3 (o:C9) (a b:CE):CE:=λk=> a λx=> b λy=> B7 o x y k
def A2 (a:CE):CW:=λk=> a λx=> k x.fz
def D5:A7:=λk=> k []
def A9 (a:CW) (b:A7):A7:=λk=> a λw=> b λws=> k (w::ws)
def A4k (ws:List W) (k:SV->MC):MC:=λh Q E=> ∃(kvs:List (W×W)) (ks:List Key),ws=A1t kvs/\kvs.map (λp=> Y0 p.1)=ks.map some/\ks.Nodup/\kvs.length<=15/\k (.own (.map kvs)) h Q E
def A9h (a:A7):CE:=λk=> a λws=> A4k ws k
def A4y (x:SV) (w d:W) (k:SV->MC):MC:=λh Q E=> ∃kvs key,x= .own (.map kvs)/\A4m kvs/\Y0 w=some key/\k (.val (A4X kvs key d)) h Q E
def A9T (x:SV) (mk md:CW):CE:=λk=> λh Q E=> (∃kvs,x= .own (.map kvs))/\(mk λw=> md λd=> A4y x w d k) h Q E
def B0c (a:A7):CE:=λk=> a λws=> C0 (ws.length<=sizeLine) (k (.val (.tup ws)))
def K8 (a:A7):CE:=λk=> a λws=> C0 (ws.length<=sizeLine) (k (.own (.seq ws)))
def F6 (x:SV) (k:Int->MC):MC:=λh Q E=> match C6 h x with
 | .wv (.int i)=> k i h Q E
 | _=> False
def O4 (x:SV) (k:Bool->MC):MC:=λh Q E=> match C6 h x with
 | .wv (.bl i)=> k i h Q E
 | _=> False
def oNo:CO:=λk=> k none
def A10 (a:CE):CO:=λk=> a λx=> F6 x λi=> k (some i)
def y7 (x:SV) (l u:Option Int) (k:SV->MC):MC:=λh Q E=> oSl (C6 h x) l u λr=> O2 k r h Q E
def eSl (a:CE) (lo hi:CO):CE:=λk=> a λx=> lo λl=> hi λu=> y7 x l u k
def F8:CS:=λk=> k []
def D3 (a:CE) (b:CS):CS:=λk=> a λx=> b λxs=> k (x::xs)
def cb (o:C7) (xs:List SV) (k:SV->MC):MC:=λh Q E=> o (xs.map (C6 h)) λr=> O2 k r h Q E
def I4 (o:C7) (a:CS):CE:=λk=> a λxs=> cb o xs k
def w8:CB:=λk=> k true
def K9 (a:CE):CB:=λk=> a λx=> O4 x k
def tAnd (a b:CB):CB:=λk=> a λx=> if x=true then b k else k false
def tOr (a b:CB):CB:=λk=> a λx=> if x=true then k true else b k
def A0s (a:CB):CB:=λk=> a λx=> k (!x)
def eIf (c:CB) (a b:CE):CE:=λk=> c λx=> if x=true then a k else b k
def l9 (a b:CE):CE:=λk=> a λx=> O4 x λc=> if c=true then b k else k (.val (.bl false))
def eOr (a b:CE):CE:=λk=> a λx=> O4 x λc=> if c=true then k (.val (.bl true)) else b k
def A2W (a:CE):CE:=λk=> a λx=> O4 x λc=> k (.val (.bl (!c)))
def B0e (a:CE):CE:=λk=> a λx=> F6 x λi=> k (.val (.int (-i)))
def B0o (P P':Int->Int->Bool) (a b c:CE):CE:=λk=> a λx=> b λy=> F6 x λi=> F6 y λj=>
 if P i j=true then c λz=> F6 z λl=> k (.val (.bl (P' j l))) else k (.val (.bl false))
def call (m:MC) (k:SV->MC):MC:=λh Q E=> m h (λr h'=> k r.sv h' Q E) E
def Y6 (f:List W->MC) (a:A7):CE:=λk=> a λws=> call (f ws) k
def call0 (m:MC) (k:SV->MC):MC:=λh Q E=> m h (λr h'=> k r.sv h' Q E) λ_ _=> False
def A1e (f:List W->MC) (a:A7):CE:=λk=> a λws=> call0 (f ws) k
def u4 (x:AExc):MC:=λh _ E=> E x h
def perm (p:List Nat) (ws:List W) (k:List W->MC):MC:=C0 (ws.length=p.length) (k (p.map λi=> ws.getD i .non))
def A9G (p:List Nat) (a:A7):A7:=λk=> a λws=> perm p ws k
def items (w:W) (k:List W->MC):MC:=match w with
 | .tup ws=> k ws
 | .lst ws=> k ws
 | _=> bad
def t6 (w:W) (k:List W->MC):MC:=match w with
 | .emp=> k []
 | w=> items w k
def A1b (a:CW):A7:=λk=> a λw=> items w k
def A0q (xs:List SV) (k:List W->MC):MC:=match xs with
 | [x]=> F6 x λj=> C0 (-(2 ^ 62)<=j/\j < 2 ^ 62) (k (I8 0 j.toNat))
 | _=> bad
def A2E (xs:List SV) (k:List W->MC):MC:=match xs with
 | [x,y]=> F6 x λi=> F6 y λj=> C0 (-(2 ^ 62)<=i/\i < 2 ^ 62/\ -(2 ^ 62)<=j/\j < 2 ^ 62) (k (I8 i (j - i).toNat))
 | _=> bad
def u3 (a:CS):A7:=λk=> a λxs=> A0q xs k
def A9M (a:CS):A7:=λk=> a λxs=> A2E xs k
def A0t (ws:List W) (k:List W->MC):MC:=match ws with
 | [.tup xs,.tup ys]=> k (List.zipWith (λa b=> W.tup [a,b]) xs ys)
 | [.lst xs,.lst ys]=> k (List.zipWith (λa b=> W.tup [a,b]) xs ys)
 | _=> bad
def B0s (a:A7):A7:=λk=> a λws=> A0t ws k
def B0C (a:CW):A7:=λk=> a λw=> t6 w λws=> k (b8 ws)
def enz (ws:List W) (k:List W->MC):MC:=match ws with
 | [a,b]=> items a λxs=> items b λys=> k (ezW xs ys)
 | _=> bad
def B0X (a:A7):A7:=λk=> a λws=> enz ws k
def un2 (w:W) (k:W->W->MC):MC:=match w with
 | .tup [a,b]=> k a b
 | _=> bad
def un3 (w:W) (k:W->W->W->MC):MC:=match w with
 | .tup [a,b,c]=> k a b c
 | _=> bad
def un5 (w:W) (k:W->W->W->W->W->MC):MC:=match w with
 | .tup [a,b,c,d,e]=> k a b c d e
 | _=> bad
def uq2 (w:W) (k:W->W->MC):MC:=items w λws=> match ws with
 | [a,b]=> k a b
 | _=> bad
def uq3 (w:W) (k:W->W->W->MC):MC:=items w λws=> match ws with
 | [a,b,c]=> k a b c
 | _=> bad
def uq4 (w:W) (k:W->W->W->W->MC):MC:=items w λws=> match ws with
 | [a,b,c,d]=> k a b c d
 | _=> bad
def uq5 (w:W) (k:W->W->W->W->W->MC):MC:=items w λws=> match ws with
 | [a,b,c,d,e]=> k a b c d e
 | _=> bad
def A0r (w:W) (k:W->SV->MC):MC:=items w λws=> match ws with
 | x::r=> k x (.own (.seq r))
 | _=> bad
def T3 (body:W->(Option W->MC)->MC) (k:List W->MC):List W->List W->MC
 | [],acc=> k acc
 | w::ws,acc=> body w λo=> match o with
  | some y=> C0 (acc.length < sizeLine) (T3 body k ws (acc++[y]))
  | none=> T3 body k ws acc
def x9 (it:A7) (body:W->(Option W->MC)->MC):CE:=λk=> it λws=> T3 body (λacc=> k (.own (.seq acc))) ws []
def f8 {σ:Type} (body:W->σ->(σ->MC)->(σ->MC)->MC) (k:σ->MC):List W->σ->MC
 | [],s=> k s
 | w::ws,s=> body w s (f8 body k ws) k
def join {σ:Type} (k:σ->MC) (f:(σ->MC)->MC):MC:=f k
def SV.isSq (h:AH):SV->Prop
 | .own (.seq _)=> True
 | .val (.ref a)=> ∃xs,h a=some (.cont (.seq xs))
 | _=> False
def isq (x:SV) (m:MC):MC:=λh Q E=> x.isSq h/\m h Q E
def lm (f:K4) (x:SV) (ws:List W) (k:SV->W->MC):MC:=λh Q E=> match x with
 | .own (.seq xs)=> f xs ws λxs' w=> k (.own (.seq xs')) w h Q E
 | .val (.ref a)=> (match h a with
  | some (.cont (.seq xs))=> f xs ws λxs' w=> k (.val (.ref a)) w (C4 h a (.cont (.seq xs'))) Q E
  | _=> False)
 | _=> False
def ext (x y:SV) (k:SV->MC):MC:=λh Q E=> match C6 h y with
 | .cv (.seq ys)=> (match x with
  | .own (.seq xs)=> xs.length+ys.length<=sizeLine/\k (.own (.seq (xs++ys))) h Q E
  | .val (.ref a)=> (match h a with
   | some (.cont (.seq xs))=> xs.length+ys.length<=sizeLine/\k (.val (.ref a)) (C4 h a (.cont (.seq (xs++ys)))) Q E
   | _=> False)
  | _=> False)
 | _=> False
def b4 (x y:SV) (w:W) (k:SV->MC):MC:=λh Q E=> match C6 h y with
 | .wv (.int i)=> (match x with
  | .own (.seq xs)=> ∃j,ixN xs.length i=some j/\k (.own (.seq (xs.set j w))) h Q E
  | .val (.ref a)=> (match h a with
   | some (.cont (.seq xs))=> ∃j,ixN xs.length i=some j/\k (.val (.ref a)) (C4 h a (.cont (.seq (xs.set j w)))) Q E
   | _=> False)
  | _=> False)
 | _=> False
def A4d (f:Int->Int->Int) (x y:SV) (e:CE) (k:SV->MC):MC:=F6 y λi=> C0 (0<=i/\i < 2 ^ 62) λh Q E=> match x with
 | .own (.seq xs)=> (match xs[i.toNat]? with
  | some (.int a)=> e (λz=> F6 z λb=> k (.own (.seq (xs.set i.toNat (.int (f a b)))))) h Q E
  | _=> False)
 | .val (.ref p)=> (match h p with
  | some (.cont (.seq xs))=> (match xs[i.toNat]? with
   | some (.int a)=> e (λz=> F6 z λb=> λh' Q E=> match h' p with
    | some (.cont (.seq ys))=> i.toNat < ys.length/\k (.val (.ref p)) (C4 h' p (.cont (.seq (ys.set i.toNat (.int (f a b)))))) Q E
    | _=> False) h Q E
   | _=> False)
  | _=> False)
 | _=> False
def A2O (x:SV) (k:SV->MC):MC:=F6 x λn=> C0 (0<=n/\n<=16777216) (k (.own (.seq (I8 0 n.toNat))))
def B0G (a:CE):CE:=λk=> a λx=> A2O x k
def N0 (mc:CB) (m1 m2:MC):MC:=mc λb=> if b=true then m1 else m2
def A2S {σ:Type} (mi:A7) (s0:σ) (body:W->σ->(σ->MC)->(σ->MC)->MC) (k:σ->MC):MC:=mi λws=> f8 body k ws s0
def lmC (f:K4) (x:SV) (ma:A7) (k:SV->W->MC):MC:=isq x (ma λws=> lm f x ws k)
def B0p (x:SV) (m:CE) (k:SV->MC):MC:=isq x (m λy=> ext x y k)
def P5 (mv:CW) (x:SV) (m:CE) (k:SV->MC):MC:=mv λw=> m λy=> b4 x y w k
def A91 (mv:CW) (x:SV) (m:CE) (m2:SV->CE) (k:SV->MC):MC:=mv λw=> un2 w λa b=> m λy=> b4 x y a λx1=> m2 x1 λy2=> b4 x1 y2 b k
def B0r (f:Int->Int->Int) (x:SV) (m m2:CE) (k:SV->MC):MC:=m λy=> A4d f x y m2 k
def pr2 (ws:List W) (k:W->W->MC):MC:=match ws with
 | [v,w]=> k v w
 | _=> bad
def B0Z (ma:A7) (k:W->W->MC):MC:=ma λws=> pr2 ws k
def B0A (mv:CW) (k:W->SV->MC):MC:=mv λw=> A0r w k
def w6 (x:SV) (k:W->MC):MC:=λh Q E=> match x with
 | .own c=> ∀p,h p=none->k (.ref p) (C4 h p (.cont c)) Q E
 | _=> False
def A5F (m:CE):CW:=λk=> m λx=> w6 x k
def lmR (f:K4) (x:SV) (ma:A7) (k:MC):MC:=λh Q E=> match x with
 | .val (.ref p)=> (∃xs,h p=some (.cont (.seq xs)))/\(ma λws=> λh2 Q E=> match h2 p with
  | some (.cont (.seq xs))=> f xs ws λxs' _=> k (C4 h2 p (.cont (.seq xs'))) Q E
  | _=> False) h Q E
 | _=> False
def lmE (f:K4) (m:CE) (ma:A7) (k:MC):MC:=m λx=> lmR f x ma k
def upc (f:List W->MC):A5:=λws h Q E=> ∃Q0 E0,(∀r k,Q0 r k->Q r k)/\(∀x k,E0 x k->E x k)/\f ws h Q0 E0
theorem upc.m {f:List W->MC}:D1 (upc f):=λws h Q Q' E E' k k' ⟨Q0,E0,a,b,z⟩=> ⟨Q0,E0,λr h q=> k _ _ (a r h q),λr h q=> k' _ _ (b r h q),z⟩
def Rl (env:A0):RV->SV->Prop
 | .val w,s=> s= .val w
 | .own c,s=> s= .own c
 | .slot i,s=> ∃c,s= .own c/\env[i]? =some (some (.own c))
theorem Q2 {env:A0} {h:AH} {r:RV} {s:SV} (a:Rl env r s):view env h r=C6 h s:=by
 cases r with
 | val w=> cases a;rfl
 | own c=> cases a;rfl
 | slot i=> obtain ⟨c,rfl,e⟩:=a;show A2C env[i]? =_;rw [e];rfl
section
variable {Q:RR->AH->Prop} {E:AExc->AH->Prop} {env:A0}
def SE (Q:RR->AH->Prop) (E:AExc->AH->Prop) (env:A0) (t:AT) (m:CE):Prop:=∀h (k:SV->MC) (K:RV->A0->AH->Prop),(∀r s h',Rl env r s->k s h' Q E->K r env h')->m k h Q E->t env h K
def SN (Q:RR->AH->Prop) (E:AExc->AH->Prop) (env:A0) (t:AT) (m:CE):Prop:=∀h (k:SV->MC) (K:RV->A0->AH->Prop),(∀s h',k s h' Q E->K s.rv env h')->m k h Q E->t env h K
def SA {α:Type} (Q:RR->AH->Prop) (E:AExc->AH->Prop) (env:A0) (t:A0->AH->(α->A0->AH->Prop)->Prop) (m:(α->MC)->MC):Prop:=∀h (k:α->MC) (K:α->A0->AH->Prop),(∀s h',k s h' Q E->K s env h')->m k h Q E->t env h K
inductive Rls (env:A0):List RV->List SV->Prop where
 | nil:Rls env [] []
 | cons {r:RV} {rs:List RV} {s:SV} {ss:List SV}:Rl env r s->Rls env rs ss->Rls env (r::rs) (s::ss)
theorem A3F {h:AH} {rs:List RV} {ss:List SV} (a:Rls env rs ss):rs.map (view env h)=ss.map (C6 h):=by
 induction a with
 | nil=> rfl
 | cons a _ ih=> rw [map_cons,map_cons,Q2 a,ih]
def SR (Q:RR->AH->Prop) (E:AExc->AH->Prop) (env:A0) (t:J0) (m:CS):Prop:=∀h (k:List SV->MC) (K:List RV->A0->AH->Prop),(∀r s h',Rls env r s->k s h' Q E->K r env h')->m k h Q E->t env h K
theorem A9K {s:SV}:Rl env s.rv s:=by cases s <;> rfl
variable {t t1 t2 t3:AT} {m m1 m2 m3:CE} {tv:A6} {mv:CW} {ta ta2:B8} {ma ma2:A7} {tb tb2:C2} {mb mb2:CB} {tr:J0} {mr:CS} {tl th:g8} {ml mh:CO} {ti:I5} {mi:A7}
theorem SN.se (a:SN Q E env t m):SE Q E env t m:=λh k K hk z=> a h k K (λs h' z=> hk _ _ _ A9K z) z
theorem Y4 {i:Nat} {x:SV} (e:env[i]? =some (some x)):SE Q E env (aVar i) (eV x):=λh k K hk z=> by
 unfold aVar
 rw [e]
 cases x with
 | val w=> exact hk (.val w) (.val w) h rfl z
 | own c=> exact hk (.slot i) (.own c) h ⟨c,rfl,e⟩ z
theorem A3z {i:Nat} {w:W} (e:env[i]? =some (some (.val w))):SN Q E env (aVar i) (eV (.val w)):=λh k K hk z=> by
 unfold aVar
 rw [e]
 exact hk (.val w) h z
theorem A5N {w:W}:SN Q E env (aC w) (eC w):=λh k K hk z=> hk _ _ z
def O3 (o:C9):Prop:=∀a b Q Q',(∀r,Q r->Q' r)->o a b Q->o a b Q'
def v3 (o:C7):Prop:=∀as Q Q',(∀r,Q r->Q' r)->o as Q->o as Q'
theorem A1r {k:SV->MC} {K:RV->A0->AH->Prop} {h:AH} (hk:∀s h',k s h' Q E->K s.rv env h') (r:RV) (z:O2 k r h Q E):K r env h:=by
 cases r with
 | val w=> exact hk (.val w) h z
 | own c=> exact hk (.own c) h z
 | slot i=> exact z.elim
theorem B1 {o:C9} (om:O3 o) (a:SE Q E env t1 m1) (b:SE Q E env t2 m2):SN Q E env (aOp2 o t1 t2) (A3 o m1 m2):=λh k K hk z=>
 a h _ _ (λrx x h1 r1 z=> b h1 _ _ (λry y h2 r2 z=> by rw [Q2 r1,Q2 r2];exact om _ _ _ _ (λr z=> A1r hk r z) z) z) z
theorem B4 (a:SN Q E env t m):SA Q E env (aFz t) (A2 m):=λh k K hk z=> a h _ _ (λs h' z=> by
 cases s with
 | val w=> exact hk _ _ z
 | own c=> exact hk _ _ z) z
theorem D8:SA Q E env aNil D5:=λh k K hk z=> hk _ _ z
theorem B0 (a:SA Q E env tv mv) (b:SA Q E env ta ma):SA Q E env (aCons tv ta) (A9 mv ma):=λh k K hk z=> a h _ _ (λw h1 z=> b h1 _ _ (λws h2 z=> hk _ _ z) z) z
theorem M5 (a:SA Q E env ta ma):SN Q E env (aLst ta) (K8 ma):=λh k K hk z=> a h _ _ (λws h1 z=> ⟨z.1,hk (.own _) _ z.2⟩) z
theorem A3j {x:SV} {k:Int->MC} {h:AH} (z:F6 x k h Q E):∃i,C6 h x= .wv (.int i)/\k i h Q E:=by
 unfold F6 at z
 split at z
 ·rename_i i e;exact ⟨i,e,z⟩
 ·exact z.elim
theorem A1o {x:SV} {k:Bool->MC} {h:AH} (z:O4 x k h Q E):∃i,C6 h x= .wv (.bl i)/\k i h Q E:=by
 unfold O4 at z
 split at z
 ·rename_i i e;exact ⟨i,e,z⟩
 ·exact z.elim
theorem A99:SA Q E env A1U oNo:=λh k K hk z=> hk _ _ z
theorem A7T (a:SE Q E env t m):SA Q E env (A1y t) (A10 m):=λh k K hk z=> a h _ _ (λr s h1 rl z=> by
 obtain ⟨i,e,z⟩:=A3j z
 rw [Q2 rl,e]
 exact hk _ _ z) z
theorem A9o (a:SE Q E env t m) (b:SA Q E env tl ml) (c:SA Q E env th mh):SN Q E env (aSl t tl th) (eSl m ml mh):=λh k K hk z=>
 a h _ _ (λr s h1 rl z=> b h1 _ _ (λl h2 z=> c h2 _ _ (λu h3 z=> by rw [Q2 rl];exact oSl.mono (λr z=> A1r hk r z) z) z) z) z
theorem G6:SR Q E env F9 F8:=λh k K hk z=> hk _ _ _ .nil z
theorem D6 (a:SE Q E env t m) (b:SR Q E env tr mr):SR Q E env (D4 t tr) (D3 m mr):=λh k K hk z=> a h _ _ (λr s h1 rl z=> b h1 _ _ (λrs ss h2 rls z=> hk _ _ _ (.cons rl rls) z) z) z
theorem J9 {o:C7} (om:v3 o) (a:SR Q E env tr mr):SN Q E env (aCB o tr) (I4 o mr):=λh k K hk z=> a h _ _ (λrs ss h1 rl z=> by
 rw [A3F rl]
 exact om _ _ _ (λr z=> A1r hk r z) z) z
theorem A1k:SA Q E env w4 w8:=λh k K hk z=> hk _ _ z
theorem N4 (a:SE Q E env t m):SA Q E env (aTst t) (K9 m):=λh k K hk z=> a h _ _ (λr s h1 rl z=> by
 obtain ⟨i,e,z⟩:=A1o z
 rw [Q2 rl,e]
 exact hk _ _ z) z
theorem t7 {b:Bool} {A B:MC} {P R:Prop} {h:AH} (x:A h Q E->P) (y:B h Q E->R) (z:(if b=true then A else B) h Q E):if b=true then P else R:=by
 cases b with
 | true=> rw [if_pos rfl] at z ⊢;exact x z
 | false=> rw [if_neg Bool.false_ne_true] at z ⊢;exact y z
theorem A8h (a:SA Q E env tb mb) (b:SA Q E env tb2 mb2):SA Q E env (aAndT tb tb2) (tAnd mb mb2):=λh k K hk z=> a h _ _ (λx h1 z=> t7 (λz=> b h1 _ _ hk z) (λz=> hk _ _ z) z) z
theorem A9p (a:SA Q E env tb mb) (b:SA Q E env tb2 mb2):SA Q E env (aOrT tb tb2) (tOr mb mb2):=λh k K hk z=> a h _ _ (λx h1 z=> t7 (λz=> hk _ _ z) (λz=> b h1 _ _ hk z) z) z
theorem A39 (a:SA Q E env tb mb):SA Q E env (aNotT tb) (A0s mb):=λh k K hk z=> a h _ _ (λx h1 z=> hk _ _ z) z
theorem A0V (a:SE Q E env t1 m1) (b:SN Q E env t2 m2):SN Q E env (k8 t1 t2) (l9 m1 m2):=λh k K hk z=> a h _ _ (λr s h1 rl z=> by
 obtain ⟨i,e,z⟩:=A1o z
 rw [Q2 rl,e]
 exact t7 (λz=> b h1 _ _ hk z) (λz=> hk (.val _) _ z) z) z
theorem A8F (a:SE Q E env t1 m1):SN Q E env (A1z t1) (A2W m1):=λh k K hk z=> a h _ _ (λr s h1 rl z=> by
 obtain ⟨i,e,z⟩:=A1o z
 rw [Q2 rl,e]
 exact hk (.val _) _ z) z
theorem A7h {E':AExc->A0->AH->Prop} {f:List W->MC} {ws:List W} {h:AH} {k:SV->MC} {K:RV->A0->AH->Prop} (hk:∀s h',k s h' Q E->K s.rv env h') (hE:∀x h,E x h->E' x env h) (z:call (f ws) k h Q E):
  upc f ws h (λr h2=> match r with
 | .val w=> K (.val w) env h2
 | .own c=> K (.own c) env h2) λx h2=> E' x env h2:=
 ⟨_,_,λr h' z=> by cases r <;> exact hk _ _ z,hE,z⟩
theorem i9 {E':AExc->A0->AH->Prop} {f:List W->MC} (hE:∀x h,E x h->E' x env h) (a:SA Q E env ta ma):SN Q E env (aCall E' (upc f) ta) (Y6 f ma):=λh k K hk z=> a h _ _ (λws h1 z=> A7h hk hE z) z
theorem A63 {f:List W->MC} (a:SA Q E env ta ma):SN Q E env (aCall E0 (upc f) ta) (A1e f ma):=λh k K hk z=> a h _ _ (λws h1 z=> ⟨_,_,λr h' z=> by cases r <;> exact hk _ _ z,λ_ _ z=> z,z⟩) z
theorem A6g {w:W} {k:List W->MC} {h:AH} (z:items w k h Q E):∃ws,(w= .tup ws\/w= .lst ws)/\k ws h Q E:=by
 unfold items at z
 split at z
 ·exact ⟨_,.inl rfl,z⟩
 ·exact ⟨_,.inr rfl,z⟩
 ·exact z.elim
theorem A7B (a:SA Q E env tv mv):SA Q E env (iSq tv) (A1b mv):=λh k K hk z=> a h _ _ (λw h1 z=> by
 obtain ⟨ws,e,z⟩:=A6g z
 rcases e with rfl | rfl <;> exact hk _ _ z) z
theorem A1V (a:SR Q E env tr mr):SA Q E env (w5 tr) (u3 mr):=λh k K hk z=> a h _ _ (λrs ss h1 rl z=> by
 rw [A3F rl]
 unfold A0q at z
 split at z
 ·obtain ⟨j,e,z⟩:=A3j z
  rw [map_cons,map_nil,e]
  exact ⟨z.1.1,z.1.2,hk _ _ z.2⟩
 ·exact z.elim) z
def Gd (g:C5) (w:W) (env e1:A0):Prop:=∀h (K:A0->AH->Prop),K e1 h->g w env h K
theorem A0e {i:Nat} {w:W}:Gd (H7 i) w env (env.set i (some (.val w))):=λh K k=> k
def z8 (mt:CB) (me:CW) (kk:Option W->MC):MC:=mt λb=> if b=true then me λy=> kk (some y) else kk none
theorem A1N {vs:List Nat} {g:C5} {w:W} {e1:A0} (gd:Gd g w (I7 env vs) e1) (tst:SA Q E e1 tb mb) (elt:SA Q E e1 tv mv) (hm:mend env e1 vs=env) {h:AH} {kk:Option W->MC} {K1:W->A0->AH->Prop} {K0:A0->AH->Prop}
  (h1:∀y h',kk (some y) h' Q E->K1 y env h') (h0:∀h',kk none h' Q E->K0 env h') (z:z8 mb mv kk h Q E):
  g w (I7 env vs) h λe1 h1=> tb e1 h1 λb e2 h2=> if b=true then tv e2 h2 λy e3 h3=> K1 y (mend env e3 vs) h3 else K0 (mend env e2 vs) h2:=
 gd h _ (tst h _ _ (λb h2 z=> t7 (λz=> elt h2 _ _ (λy h3 z=> by rw [hm];exact h1 y h3 z) z) (λz=> by rw [hm];exact h0 h2 z) z) z)
def LcB (Q:RR->AH->Prop) (E:AExc->AH->Prop) (env:A0) (vs:List Nat) (g:C5) (tt:C2) (te:A6) (mb:W->(Option W->MC)->MC):Prop:=
 ∀w h (kk:Option W->MC) (K1:W->A0->AH->Prop) (K0:A0->AH->Prop),(∀y h',kk (some y) h' Q E->K1 y env h')->(∀h',kk none h' Q E->K0 env h')->mb w kk h Q E->
  g w (I7 env vs) h λe1 h1=> tt e1 h1 λb e2 h2=> if b=true then te e2 h2 λy e3 h3=> K1 y (mend env e3 vs) h3 else K0 (mend env e2 vs) h2
theorem A14 {vs:List Nat} {g:C5} {body:W->(Option W->MC)->MC} {k:List W->MC} {K:List W->A0->AH->Prop} (hk:∀acc h',k acc h' Q E->K acc env h') (b:LcB Q E env vs g tb tv body):
  ∀(ws acc:List W) (h:AH),T3 body k ws acc h Q E->wag vs g tb tv K ws acc env h
 | [],acc,h,z=> hk acc h z
 | w::ws,acc,h,z=> b w h _ (λy e3 h3=> acc.length < sizeLine/\wag vs g tb tv K ws (acc++[y]) e3 h3) (λe2 h2=> wag vs g tb tv K ws acc e2 h2)
   (λy h' z=> ⟨z.1,A14 hk b ws (acc++[y]) h' z.2⟩) (λh' z=> A14 hk b ws acc h' z) z
theorem A1x {vs:List Nat} {g:C5} {body:W->(Option W->MC)->MC} (it:SA Q E env ti mi) (b:LcB Q E env vs g tb tv body):SN Q E env (g7 vs ti g tb tv) (x9 mi body):=λh k K hk z=>
 it h _ _ (λws h1 z=> A14 (k:=λacc=> k (.own (.seq acc))) (λacc h' z=> hk (.own (.seq acc)) h' z) b ws [] h1 z) z
variable {D:AEnds} {s u:B9} {i j:Nat}
theorem E3 {mc:MC} (a:∀h,mc h Q E->s { D with nx:=u D } env h):∀h,mc h Q E->aSeq s u D env h:=a
theorem E5 {mc:MC} (a:∀h,mc h Q E->u D env h):∀h,mc h Q E->({ D with nx:=u D }:AEnds).nx env h:=a
theorem M7 (hr:∀r s env h,Rl env r s->Q s.rr h->D.rt r env h) (a:SE Q E env t m):∀h,(m ret) h Q E->L0 t D env h:=λh z=> a h _ _ (λr s h' rl z=> hr _ _ _ _ rl z) z
theorem A8M {k:SV->MC} (e':SV->A0) (he:∀x,env.set i (some x)=e' x) (a:SN Q E env t m) (n:∀x h,k x h Q E->D.nx (e' x) h):∀h,(m k) h Q E->A2M i t D env h:=λh z=> a h _ _ (λs h' z=> by
 have q:=n s h' z
 rw [<-he] at q
 cases s <;> exact q) z
theorem O8 {k:W->MC} (e':W->A0) (he:∀x,env.set i (some (.val x))=e' x) (a:SA Q E env tv mv) (n:∀x h,k x h Q E->D.nx (e' x) h):∀h,(mv k) h Q E->G0 tv (H7 i) D env h:=λh z=> a h _ _ (λs h' z=> by
 have q:=n s h' z
 rw [<-he] at q
 exact q) z
theorem A9m {P R:AH->Prop} (h:AH) (z:P h) (f:∀h,P h->R h):R h:=f h z
theorem A8t {g:C5} {w:W} {e1:A0} (e2:A0) (gd:Gd g w env e1) (he:e1=e2):Gd g w env e2:=he▸gd
theorem R3 {c:C2} {mc:CB} {m1 m2:MC} (a:SA Q E env c mc) (x:∀h,m1 h Q E->s D env h) (y:∀h,m2 h Q E->u D env h):∀h,N0 mc m1 m2 h Q E->O5 c s u D env h:=λh z=>
 a h _ _ (λb h' z=> t7 (x h') (y h') z) z
theorem X3 {mc:MC} (n:∀h,mc h Q E->D.nx env h):∀h,mc h Q E->O9 D env h:=n
theorem A76 {x:SV} {k:W->MC} (e':W->A0) (he:∀p,env.set i (some (.val p))=e' p) (e:env[i]? =some (some x)) (a:∀p h,k p h Q E->s D (e' p) h):∀h,w6 x k h Q E->j8 i s D env h:=λh z=> by
 unfold j8
 rw [e]
 cases x with
 | val w=> exact z.elim
 | own c=>
  intro p n
  have q:=a _ _ (z p n)
  rw [<-he] at q
  exact q
theorem A7P {β J:Type} {kk:β->MC} {f:(β->MC)->MC} (envOf:β->J->A0) (r:∀b j h,kk b h Q E->u D (envOf b j) h)
  (b:(∀b j h,kk b h Q E->({ D with nx:=u D }:AEnds).nx (envOf b j) h)->∀h,f kk h Q E->s { D with nx:=u D } env h):∀h,join kk f h Q E->aSeq s u D env h:=b r
theorem A3c {σ J:Type} {g:C5} {tb:B9} {body:W->σ->(σ->MC)->(σ->MC)->MC} {k:σ->MC} (envOf:σ->J->A0) (r:∀s j h,k s h Q E->D.nx (envOf s j) h)
  (b:∀w s j (kn:σ->MC) (N:A0->AH->Prop),(∀s j h,kn s h Q E->N (envOf s j) h)->∀h,body w s kn k h Q E->g w (envOf s j) h λe1 h1=> tb { D with nx:=N,ct:=N,bk:=D.nx } e1 h1):
  ∀ws s j h,f8 body k ws s h Q E->aLoop g tb D ws (envOf s j) h
 | [],s,j,h,z=> r s j h z
 | w::ws,s,j,h,z=> b w s j (f8 body k ws) (aLoop g tb D ws) (λs j h z=> A3c envOf r b ws s j h z) h z
theorem A86 {σ J:Type} {g:C5} {tb:B9} {body:W->σ->(σ->MC)->(σ->MC)->MC} {k:σ->MC} (envOf:σ->J->A0) (s0:σ) (j0:J) (he:envOf s0 j0=env) (it:SA Q E env ti mi) (r:∀s j h,k s h Q E->D.nx (envOf s j) h)
  (b:(∀s j h,k s h Q E->D.nx (envOf s j) h)->∀w s j (kn:σ->MC) (N:A0->AH->Prop),(∀s j h,kn s h Q E->N (envOf s j) h)->∀h,body w s kn k h Q E->g w (envOf s j) h λe1 h1=> tb { D with nx:=N,ct:=N,bk:=D.nx } e1 h1):
  ∀h,A2S mi s0 body k h Q E->A2P ti g tb D env h:=λh z=> it h _ _ (λws h' z=> he▸A3c envOf r (b r) ws s0 j0 h' z) z
theorem A8K {x:SV} (e:env[i]? =some (some x)):env.set i (some x)=env:=by
 obtain ⟨hi,e'⟩:=List.getElem?_eq_some_iff.mp e
 conv=> rhs;rw [<-List.set_getElem_self (as:=env) hi]
 rw [e']
theorem A7k {x:SV} {h:AH} {K:RV->A0->AH->Prop} (e:env[i]? =some (some x)) (q:∀r,(∃c,x= .own c/\r= .slot i)\/(∃w,x= .val w/\r= .val w)->K r env h):aVar i env h K:=by
 unfold aVar
 rw [e]
 cases x with
 | val w=> exact q _ (.inr ⟨w,rfl,rfl⟩)
 | own c=> exact q _ (.inl ⟨c,rfl,rfl⟩)
theorem A6c {h:AH} {c:Cont} (e:env[i]? =some (some (.own c))):O1 env h (.slot i)=some c:=by
 show (match env[i]? with
  | some (some (.own c))=> some c
  | _=> none)=_
 rw [e]
theorem A7r {h:AH} {p:Addr} {c:Cont} (e:h p=some (.cont c)):O1 env h (.val (.ref p))=some c:=by
 show (match h p with
  | some (.cont c)=> some c
  | _=> none)=_
 rw [e]
theorem c8 {x:SV} {k:SV->MC} (e':SV->A0) (he:∀x,env.set i (some x)=e' x) (a:SA Q E env tv mv) (e:env[i]? =some (some x)) (b:SE Q E env t m) (n0:∀x' h,k x' h Q E->D.nx (e' x') h):∀h,P5 mv x m k h Q E->G0 tv (Z3 (aVar i) t) D env h:=λh z=> have n:∀x' h,k x' h Q E->D.nx (env.set i (some x')) h:=λx' h z=> by rw [he];exact n0 x' h z
 a h _ _ (λw h1 z=> by
 refine A7k (K:=λro env1 h1=> t env1 h1 λri env2 h2=> match view env2 h2 ri with
  | .wv (.int k)=> match O1 env2 h2 ro with
   | some (.seq xs)=> ∃j,ixN xs.length k=some j/\D.nx (f7 env2 ro (.seq (xs.set j w))) (f9 h2 ro (.seq (xs.set j w)))
   | _=> False
  | _=> False) e λr hr=> b h1 _ _ (λri y h2 rl z=> ?_) z
 rw [Q2 rl]
 unfold b4 at z
 split at z
 ·rename_i q e1
  try rw [e1]
  rcases hr with ⟨c,rfl,rfl⟩ | ⟨v,rfl,rfl⟩
  ·cases c with
   | map kvs=> exact z.elim
   | seq xs=>
    have pl:O1 env h2 (.slot i)=some (.seq xs):=A6c e
    rw [pl]
    obtain ⟨j,ej,z⟩:=z
    exact ⟨j,ej,n _ _ z⟩
  ·cases v with
   | ref p=>
    have z:(match h2 p with
     | some (.cont (.seq xs))=> ∃j,ixN xs.length q=some j/\k (.val (.ref p)) (C4 h2 p (.cont (.seq (xs.set j w)))) Q E
     | _=> False):=z
    split at z
    ·rename_i xs2 e2
     have pl:O1 env h2 (.val (.ref p))=some (.seq xs2):=A7r e2
     rw [pl]
     obtain ⟨j,ej,z⟩:=z
     have q:=n _ _ z
     rw [A8K e] at q
     exact ⟨j,ej,q⟩
    ·exact z.elim
   | _=> exact z.elim
 ·exact z.elim) z
theorem Z6:O3 F3:=λ_ _ _ _ k q=> oII.mono _ _ _ _ k q
theorem A3b:O3 a9:=λ_ _ _ _ k q=> oII.mono _ _ _ _ k q
theorem A3t:O3 l7:=λ_ _ _ _ k q=> oII.mono _ _ _ _ k q
theorem A4a:O3 m9:=λ_ _ _ _ k q=> oII.mono _ _ _ _ k q
theorem A4B:O3 g9:=λ_ _ _ _ k q=> oII.mono _ _ _ _ k q
theorem L5:O3 oAdd:=oAdd.mono
theorem E4:O3 oIx:=oIx.mono
theorem c9:O3 oMulT:=oMulT.mono
theorem e9 {neg:Bool}:O3 (E1 neg):=λa b Q Q' k q=> ⟨q.1,q.2.1,k _ q.2.2⟩
theorem A33 {neg:Bool}:O3 (F4 neg):=λa b Q Q' k q=> ⟨q.1,q.2.1,k _ q.2.2⟩
theorem A3s {neg:Bool}:O3 (R9 neg):=λa b Q Q' k ⟨xs,x,y,z,q⟩=> ⟨xs,x,y,z,k _ q⟩
theorem A0a:v3 E7:=λas Q Q' k q=> by
 unfold E7 at q ⊢
 split at q
 ·exact ⟨q.1,k _ q.2⟩
 ·exact k _ q
 ·obtain ⟨xs,e,q⟩:=q
  exact ⟨xs,e,k _ q⟩
 ·exact q
theorem A8c {g:List Bool->Bool}:v3 (oBls g):=oBls.mono
theorem Q6:v3 B6:=λas Q Q' k q=> by
 unfold B6 at q ⊢
 split at q
 ·obtain ⟨n,b,e,f,q⟩:=q
  exact ⟨n,b,e,f,k _ q⟩
 ·exact q
theorem A7V:v3 L9:=λas Q Q' k q=> by
 unfold L9 at q ⊢
 split at q
 ·obtain ⟨xs,e,q⟩:=q
  exact ⟨xs,e,k _ q⟩
 ·exact q
variable {Q':RR->AH->Prop} {E':AExc->AH->Prop}
theorem t8 (hQ:∀r h,Q r h->Q' r h):∀r s env h,Rl env r s->Q s.rr h->(E8 Q').rt r env h:=λr s env h rl q=> by
 refine ⟨h,λ_ _ e=> e,?_⟩
 cases r with
 | val w=> cases rl;exact hQ _ _ q
 | own w=> cases rl;exact hQ _ _ q
 | slot i=>
  obtain ⟨c,rfl,e⟩:=rl
  show (match env[i]? with
   | some (some (.val w))=> Q' (.val w) h
   | some (some (.own c))=> Q' (.own c) h
   | _=> False)
  rw [e]
  exact hQ _ _ q
theorem s8 (hE:∀x h,E x h->E' x h) (env:A0):∀x h,E x h->G3 E' x env h:=λx h q=> ⟨h,λ_ _ e=> e,hE _ _ q⟩
end
section
variable {Q:RR->AH->Prop} {E:AExc->AH->Prop} {h:AH}
@[simp] theorem F0 {x:SV} {k:SV->MC}:eV x k=k x:=rfl
@[simp] theorem G2 {x:W} {k:SV->MC}:eC x k=k (.val x):=rfl
@[simp] theorem F7 {o:C9} {a b:CE} {k:SV->MC}:A3 o a b k=a λx=> b λy=> B7 o x y k:=rfl
@[simp] theorem I0 {a:CE} {k:W->MC}:A2 a k=a λx=> k x.fz:=rfl
@[simp] theorem M3 {k:List W->MC}:D5 k=k []:=rfl
@[simp] theorem M1 {a:CW} {b:A7} {k:List W->MC}:A9 a b k=a λw=> b λws=> k (w::ws):=rfl
@[simp] theorem B5E {a:A7} {k:SV->MC}:B0c a k=a λws=> C0 (ws.length<=sizeLine) (k (.val (.tup ws))):=rfl
@[simp] theorem A12 {a:A7} {k:SV->MC}:K8 a k=a λws=> C0 (ws.length<=sizeLine) (k (.own (.seq ws))):=rfl
@[simp] theorem A9y {k:Option Int->MC}:oNo k=k none:=rfl
@[simp] theorem A74 {a:CE} {k:Option Int->MC}:A10 a k=a λx=> F6 x λi=> k (some i):=rfl
@[simp] theorem B0z {a:CE} {l u:CO} {k:SV->MC}:eSl a l u k=a λx=> l λl=> u λu=> y7 x l u k:=rfl
@[simp] theorem N5 {k:List SV->MC}:F8 k=k []:=rfl
@[simp] theorem N3 {a:CE} {b:CS} {k:List SV->MC}:D3 a b k=a λw=> b λws=> k (w::ws):=rfl
@[simp] theorem P7 {o:C7} {a:CS} {k:SV->MC}:I4 o a k=a λxs=> cb o xs k:=rfl
@[simp] theorem Q5 {k:Bool->MC}:w8 k=k true:=rfl
@[simp] theorem M2 {a:CE} {k:Bool->MC}:K9 a k=a λx=> O4 x k:=rfl
@[simp] theorem A8J {a b:CB} {k:Bool->MC}:tAnd a b k=a λx=> if x=true then b k else k false:=rfl
@[simp] theorem X8 {a b:CB} {k:Bool->MC}:tOr a b k=a λx=> if x=true then k true else b k:=rfl
@[simp] theorem A80 {a:CB} {k:Bool->MC}:A0s a k=a λx=> k (!x):=rfl
@[simp] theorem B5S {c:CB} {a b:CE} {k:SV->MC}:eIf c a b k=c λx=> if x=true then a k else b k:=rfl
@[simp] theorem X4 {a b:CE} {k:SV->MC}:l9 a b k=a λx=> O4 x λc=> if c=true then b k else k (.val (.bl false)):=rfl
@[simp] theorem B5U {a b:CE} {k:SV->MC}:eOr a b k=a λx=> O4 x λc=> if c=true then k (.val (.bl true)) else b k:=rfl
@[simp] theorem X6 {a:CE} {k:SV->MC}:A2W a k=a λx=> O4 x λc=> k (.val (.bl (!c))):=rfl
@[simp] theorem B4u {a:CE} {k:SV->MC}:B0e a k=a λx=> F6 x λi=> k (.val (.int (-i))):=rfl
@[simp] theorem B5H {P P':Int->Int->Bool} {a b c:CE} {k:SV->MC}:B0o P P' a b c k=a λx=> b λy=> F6 x λi=> F6 y λj=>
 if P i j=true then c λz=> F6 z λl=> k (.val (.bl (P' j l))) else k (.val (.bl false)):=rfl
@[simp] theorem A8H {f:List W->MC} {a:A7} {k:SV->MC}:Y6 f a k=a λws=> call (f ws) k:=rfl
@[simp] theorem W6 {f:List W->MC} {a:A7} {k:SV->MC}:A1e f a k=a λws=> call0 (f ws) k:=rfl
@[simp] theorem B3m {p:List Nat} {a:A7} {k:List W->MC}:A9G p a k=a λws=> perm p ws k:=rfl
@[simp] theorem A7D {a:CW} {k:List W->MC}:A1b a k=a λw=> items w k:=rfl
@[simp] theorem Q3 {a:CS} {k:List W->MC}:u3 a k=a λw=> A0q w k:=rfl
@[simp] theorem B3H {a:CS} {k:List W->MC}:A9M a k=a λw=> A2E w k:=rfl
@[simp] theorem B4F {a:A7} {k:List W->MC}:B0s a k=a λw=> A0t w k:=rfl
@[simp] theorem B21 {a:CW} {k:List W->MC}:B0C a k=a λw=> t6 w λws=> k (b8 ws):=rfl
@[simp] theorem B4i {a:A7} {k:List W->MC}:B0X a k=a λws=> enz ws k:=rfl
@[simp] theorem M8 {mc:CB} {m1 m2:MC}:N0 mc m1 m2=mc λb=> if b=true then m1 else m2:=rfl
@[simp] theorem B4R {a:CE} {k:SV->MC}:B0G a k=a λx=> A2O x k:=rfl
@[simp] theorem B4B {a:A7} {k:W->W->MC}:B0Z a k=a λws=> pr2 ws k:=rfl
@[simp] theorem B3f {a:CW} {k:W->SV->MC}:B0A a k=a λw=> A0r w k:=rfl
@[simp] theorem t4 {mv:CW} {x:SV} {m:CE} {k:SV->MC}:P5 mv x m k=mv λw=> m λy=> b4 x y w k:=rfl
@[simp] theorem B2a {mv:CW} {x:SV} {m:CE} {m2:SV->CE} {k:SV->MC}:A91 mv x m m2 k=mv λw=> un2 w λa b=> m λy=> b4 x y a λx1=> m2 x1 λy2=> b4 x1 y2 b k:=rfl
@[simp] theorem B4M {f:Int->Int->Int} {x:SV} {m m2:CE} {k:SV->MC}:B0r f x m m2 k=m λy=> A4d f x y m2 k:=rfl
@[simp] theorem R4 {mt:CB} {me:CW} {kk:Option W->MC}:z8 mt me kk=mt λb=> if b=true then me λy=> kk (some y) else kk none:=rfl
@[simp] theorem R8 {it:A7} {body:W->(Option W->MC)->MC} {k:SV->MC}:x9 it body k=it λws=> T3 body (λacc=> k (.own (.seq acc))) ws []:=rfl
@[simp] theorem A8s {σ:Type} {mi:A7} {s0:σ} {body:W->σ->(σ->MC)->(σ->MC)->MC} {k:σ->MC}:A2S mi s0 body k=mi λws=> f8 body k ws s0:=rfl
@[simp] theorem B35 {σ:Type} {k:σ->MC} {f:(σ->MC)->MC}:join k f=f k:=rfl
theorem A3I:∀{as bs:List Char},as.map Char.toNat=bs.map Char.toNat->as=bs
 | [],[],_=> rfl
 | [],_::_,h=> by cases h
 | _::_,[],h=> by cases h
 | a::as,b::bs,h=> by
  rw [map_cons,map_cons] at h
  injection h with h1 h2
  rw [Char.toNat_inj.mp h1,A3I h2]
@[simp] theorem B3A {a b:String}:(Str.ofString a=Str.ofString b)=(a=b):=by
 refine propext ⟨λe=> ?_,λe=> by rw [e]⟩
 rw [Str.ofString_eq_toList,Str.ofString_eq_toList] at e
 injection e with e
 have z:=A3I (congrArg Array.toList e)
 exact String.toList_inj.mp z
@[simp] theorem J8 {w:W}:SV.fz (.val w)=w:=rfl
@[simp] theorem A1l {ws:List W}:SV.fz (.own (.seq ws))= .lst ws:=rfl
@[simp] theorem B4V {w:W}:SV.rr (.val w)= .val w:=rfl
@[simp] theorem B4K {c:Cont}:SV.rr (.own c)= .own c:=rfl
@[simp] theorem A8a {w:W}:RR.sv (.val w)= .val w:=rfl
@[simp] theorem B4b {c:Cont}:RR.sv (.own c)= .own c:=rfl
theorem k9:sizeLine=16777216:=rfl
@[simp] theorem A7u {i:Int} {k:Int->MC}:F6 (.val (.int i)) k=k i:=rfl
@[simp] theorem K6 {i:Bool} {k:Bool->MC}:O4 (.val (.bl i)) k=k i:=rfl
@[simp] theorem B11 {ws:List W} {k:List W->MC}:items (.tup ws) k=k ws:=rfl
@[simp] theorem B1r {ws:List W} {k:List W->MC}:t6 (.tup ws) k=k ws:=rfl
@[simp] theorem B1s {ws:List W} {k:List W->MC}:t6 (.lst ws) k=k ws:=rfl
@[simp] theorem B1t {k:List W->MC}:t6 .emp k=k []:=rfl
@[simp] theorem A6N {ws:List W} {k:List W->MC}:items (.lst ws) k=k ws:=rfl
@[simp] theorem B3W {a b:W} {k:W->W->MC}:un2 (.tup [a,b]) k=k a b:=rfl
@[simp] theorem B28 {a b c:W} {k:W->W->W->MC}:un3 (.tup [a,b,c]) k=k a b c:=rfl
@[simp] theorem B3d {a b c d e:W} {k:W->W->W->W->W->MC}:un5 (.tup [a,b,c,d,e]) k=k a b c d e:=rfl
@[simp] theorem B2i {a b:W} {k:W->W->MC}:uq2 (.tup [a,b]) k=k a b:=rfl
@[simp] theorem B2p {a b c:W} {k:W->W->W->MC}:uq3 (.tup [a,b,c]) k=k a b c:=rfl
@[simp] theorem B3R {a b:W} {k:W->W->MC}:uq2 (.lst [a,b]) k=k a b:=rfl
@[simp] theorem B2j {a b c:W} {k:W->W->W->MC}:uq3 (.lst [a,b,c]) k=k a b c:=rfl
@[simp] theorem B25 {a b c d:W} {k:W->W->W->W->MC}:uq4 (.tup [a,b,c,d]) k=k a b c d:=rfl
@[simp] theorem B3j {a b c d e:W} {k:W->W->W->W->W->MC}:uq5 (.tup [a,b,c,d,e]) k=k a b c d e:=rfl
@[simp] theorem B2M {x:W} {r:List W} {k:W->SV->MC}:A0r (.tup (x::r)) k=k x (.own (.seq r)):=rfl
@[simp] theorem B2T {x:W} {r:List W} {k:W->SV->MC}:A0r (.lst (x::r)) k=k x (.own (.seq r)):=rfl
@[simp] theorem B5L {x y:W} {k:W->W->MC}:pr2 [x,y] k=k x y:=rfl
@[simp] theorem B2E {xs ys:List W} {k:List W->MC}:A0t [.tup xs,.tup ys] k=k (List.zipWith (λa b=> W.tup [a,b]) xs ys):=rfl
@[simp] theorem B2J {xs ys:List W} {k:List W->MC}:A0t [.lst xs,.lst ys] k=k (List.zipWith (λa b=> W.tup [a,b]) xs ys):=rfl
@[simp] theorem B5F {a b:W} {k:List W->MC}:enz [a,b] k=items a λxs=> items b λys=> k (ezW xs ys):=rfl
@[simp] theorem p9 {j:Int} {k:List W->MC}:A0q [.val (.int j)] k=C0 (-(2 ^ 62)<=j/\j < 2 ^ 62) (k (I8 0 j.toNat)):=rfl
@[simp] theorem B2Z {i j:Int} {k:List W->MC}:A2E [.val (.int i),.val (.int j)] k=C0 (-(2 ^ 62)<=i/\i < 2 ^ 62/\ -(2 ^ 62)<=j/\j < 2 ^ 62) (k (I8 i (j - i).toNat)):=rfl
@[simp] theorem B2O {n:Int} {k:SV->MC}:A2O (.val (.int n)) k=C0 (0<=n/\n<=16777216) (k (.own (.seq (I8 0 n.toNat)))):=rfl
theorem C3 {p:Prop} {m:MC} (hp:p):C0 p m=m:=by funext h Q E;exact propext ⟨λz=> z.2,λz=> ⟨hp,z⟩⟩
@[simp] theorem A4N {m:MC}:C0 True m=m:=C3 trivial
theorem s4 {p:Prop} {m:MC}:C0 p m h Q E=(p/\m h Q E):=rfl
@[simp] theorem B39 {x:SV}:ret x h Q E=Q x.rr h:=rfl
@[simp] theorem B2V {x:AExc}:u4 x h Q E=E x h:=rfl
@[simp] theorem o9 {x:SV} {k:SV->MC}:call (ret x) k=k x:=by cases x <;> rfl
@[simp] theorem A6S {x:SV} {k:SV->MC}:call0 (ret x) k=k x:=by cases x <;> rfl
@[simp] theorem B1q {x:AExc} {k:SV->MC}:call (u4 x) k=u4 x:=rfl
theorem u6 {p:Prop}:(True/\p)=p:=by simp
@[simp] theorem B5Q {a:W} {k:List W->MC}:perm [0] [a] k=k [a]:=C3 rfl
@[simp] theorem B46 {a b:W} {k:List W->MC}:perm [0,1] [a,b] k=k [a,b]:=C3 rfl
@[simp] theorem B5D {a b:W} {k:List W->MC}:perm [1,0] [a,b] k=k [b,a]:=C3 rfl
@[simp] theorem B4k {a b c:W} {k:List W->MC}:perm [0,1,2] [a,b,c] k=k [a,b,c]:=C3 rfl
@[simp] theorem B4D {a b c:W} {k:List W->MC}:perm [0,2,1] [a,b,c] k=k [a,c,b]:=C3 rfl
@[simp] theorem B4l {a b c:W} {k:List W->MC}:perm [1,0,2] [a,b,c] k=k [b,a,c]:=C3 rfl
@[simp] theorem B4C {a b c:W} {k:List W->MC}:perm [1,2,0] [a,b,c] k=k [b,c,a]:=C3 rfl
@[simp] theorem B4Q {a b c:W} {k:List W->MC}:perm [2,0,1] [a,b,c] k=k [c,a,b]:=C3 rfl
@[simp] theorem B4h {a b c:W} {k:List W->MC}:perm [2,1,0] [a,b,c] k=k [c,b,a]:=C3 rfl
@[simp] theorem B3b {a b c d:W} {k:List W->MC}:perm [0,1,2,3] [a,b,c,d] k=k [a,b,c,d]:=C3 rfl
@[simp] theorem B3a {a b c d:W} {k:List W->MC}:perm [0,1,3,2] [a,b,c,d] k=k [a,b,d,c]:=C3 rfl
@[simp] theorem B3N {a b c d:W} {k:List W->MC}:perm [0,2,1,3] [a,b,c,d] k=k [a,c,b,d]:=C3 rfl
@[simp] theorem B3V {a b c d:W} {k:List W->MC}:perm [0,2,3,1] [a,b,c,d] k=k [a,c,d,b]:=C3 rfl
@[simp] theorem B2d {a b c d:W} {k:List W->MC}:perm [0,3,1,2] [a,b,c,d] k=k [a,d,b,c]:=C3 rfl
@[simp] theorem B3M {a b c d:W} {k:List W->MC}:perm [0,3,2,1] [a,b,c,d] k=k [a,d,c,b]:=C3 rfl
@[simp] theorem B2w {a b c d:W} {k:List W->MC}:perm [1,0,2,3] [a,b,c,d] k=k [b,a,c,d]:=C3 rfl
@[simp] theorem B22 {a b c d:W} {k:List W->MC}:perm [1,0,3,2] [a,b,c,d] k=k [b,a,d,c]:=C3 rfl
@[simp] theorem B2r {a b c d:W} {k:List W->MC}:perm [1,2,0,3] [a,b,c,d] k=k [b,c,a,d]:=C3 rfl
@[simp] theorem B3C {a b c d:W} {k:List W->MC}:perm [1,2,3,0] [a,b,c,d] k=k [b,c,d,a]:=C3 rfl
@[simp] theorem B3P {a b c d:W} {k:List W->MC}:perm [1,3,0,2] [a,b,c,d] k=k [b,d,a,c]:=C3 rfl
@[simp] theorem B3g {a b c d:W} {k:List W->MC}:perm [1,3,2,0] [a,b,c,d] k=k [b,d,c,a]:=C3 rfl
@[simp] theorem B2h {a b c d:W} {k:List W->MC}:perm [2,0,1,3] [a,b,c,d] k=k [c,a,b,d]:=C3 rfl
@[simp] theorem B3E {a b c d:W} {k:List W->MC}:perm [2,0,3,1] [a,b,c,d] k=k [c,a,d,b]:=C3 rfl
@[simp] theorem B3G {a b c d:W} {k:List W->MC}:perm [2,1,0,3] [a,b,c,d] k=k [c,b,a,d]:=C3 rfl
@[simp] theorem B2f {a b c d:W} {k:List W->MC}:perm [2,1,3,0] [a,b,c,d] k=k [c,b,d,a]:=C3 rfl
@[simp] theorem B3Q {a b c d:W} {k:List W->MC}:perm [2,3,0,1] [a,b,c,d] k=k [c,d,a,b]:=C3 rfl
@[simp] theorem B2k {a b c d:W} {k:List W->MC}:perm [2,3,1,0] [a,b,c,d] k=k [c,d,b,a]:=C3 rfl
@[simp] theorem B3c {a b c d:W} {k:List W->MC}:perm [3,0,1,2] [a,b,c,d] k=k [d,a,b,c]:=C3 rfl
@[simp] theorem B2q {a b c d:W} {k:List W->MC}:perm [3,0,2,1] [a,b,c,d] k=k [d,a,c,b]:=C3 rfl
@[simp] theorem B2y {a b c d:W} {k:List W->MC}:perm [3,1,0,2] [a,b,c,d] k=k [d,b,a,c]:=C3 rfl
@[simp] theorem B3J {a b c d:W} {k:List W->MC}:perm [3,1,2,0] [a,b,c,d] k=k [d,b,c,a]:=C3 rfl
@[simp] theorem B3k {a b c d:W} {k:List W->MC}:perm [3,2,0,1] [a,b,c,d] k=k [d,c,a,b]:=C3 rfl
@[simp] theorem B2v {a b c d:W} {k:List W->MC}:perm [3,2,1,0] [a,b,c,d] k=k [d,c,b,a]:=C3 rfl
section
variable {i j:Int} {k:SV->MC} {xs ys:List W}
@[simp] theorem B4o:B7 B09 (.val (.int i)) (.val (.int j)) k=k (.val (.int (i - j))):=by funext h Q E;exact u6
@[simp] theorem A5G:B7 m9 (.val (.int i)) (.val (.int j)) k=k (.val (.bl (decide (i < j)))):=by funext h Q E;exact u6
@[simp] theorem B5O:B7 oLe (.val (.int i)) (.val (.int j)) k=k (.val (.bl (decide (i<=j)))):=by funext h Q E;exact u6
@[simp] theorem B5P:B7 oGt (.val (.int i)) (.val (.int j)) k=k (.val (.bl (decide (j < i)))):=by funext h Q E;exact u6
@[simp] theorem A4s:B7 g9 (.val (.int i)) (.val (.int j)) k=k (.val (.bl (decide (j<=i)))):=by funext h Q E;exact u6
@[simp] theorem u0:B7 F3 (.val (.int i)) (.val (.int j)) k=C0 (0 < j) (k (.val (.int (i % j)))):=rfl
@[simp] theorem A35:B7 a9 (.val (.int i)) (.val (.int j)) k=C0 (CDivW i j) (k (.val (.int (i / j)))):=rfl
@[simp] theorem A4F:B7 l7 (.val (.int i)) (.val (.int j)) k=C0 (CPow i j) (k (.val (.int (i ^ j.toNat)))):=rfl
@[simp] theorem A16:B7 oMulT (.val (.int i)) (.val (.int j)) k=C0 (CMulW i j) (k (.val (.int (i*j)))):=rfl
@[simp] theorem B4v:B7 oMulT (.own (.seq xs)) (.val (.int j)) k=C0 (-(2 ^ 63)<=j/\j < 2 ^ 63/\xs.length*j.toNat<=sizeLine) (k (.own (.seq (List.replicate j.toNat xs).flatten))):=rfl
@[simp] theorem B3t:B7 oMulT (.val (.tup xs)) (.val (.int j)) k=C0 (-(2 ^ 63)<=j/\j<=1000/\1<=xs.length/\xs.length<=1000) (k (.val (.tup (List.replicate j.toNat xs).flatten))):=rfl
@[simp] theorem j7:B7 oAdd (.val (.int i)) (.val (.int j)) k=k (.val (.int (i+j))):=rfl
@[simp] theorem B3q {x y:Str}:B7 oAdd (.val (.str x)) (.val (.str y)) k=C0 (x.length+y.length<=sizeLine) (k (.val (.str (x++y)))):=rfl
@[simp] theorem B4W:B7 oAdd (.val (.tup xs)) (.val (.tup ys)) k=C0 (xs.length+ys.length<=sizeLine) (k (.val (.tup (xs++ys)))):=rfl
@[simp] theorem B3Z:B7 oAdd (.val (.lst xs)) (.val (.lst ys)) k=C0 (xs.length+ys.length<=sizeLine) (k (.own (.seq (xs++ys)))):=rfl
@[simp] theorem A3V:B7 oAdd (.val (.lst xs)) (.own (.seq ys)) k=C0 (xs.length+ys.length<=sizeLine) (k (.own (.seq (xs++ys)))):=rfl
@[simp] theorem A73:B7 oAdd (.own (.seq xs)) (.val (.lst ys)) k=C0 (xs.length+ys.length<=sizeLine) (k (.own (.seq (xs++ys)))):=rfl
@[simp] theorem B3K:B7 oAdd (.own (.seq xs)) (.own (.seq ys)) k=C0 (xs.length+ys.length<=sizeLine) (k (.own (.seq (xs++ys)))):=rfl
def E9 (xs:List W) (i:Int) (k:W->MC):MC:=match L2.atI xs i with
 | some w=> k w
 | none=> bad
theorem A3M {v:Vw} {i:Int} {Q:RV->Prop} (hv:v.items=some xs) (hs:∀x,v≠ .wv (.str x)):oIx v (.wv (.int i)) Q=match L2.atI xs i with
 | some w=> Q (.val w)
 | none=> False:=by
 rw [B0h]
 have z:x8 v i Q=match L2.atI xs i with
  | some w=> Q (.val w)
  | none=> False:=by
  unfold x8
  rw [hv]
  rfl
 cases v with
 | wv w=> cases w with
  | str x=> exact absurd rfl (hs x)
  | _=> exact z
 | _=> exact z
theorem A1m {x:SV} {v:Vw} (e:∀h,C6 h x=v) (hv:v.items=some xs) (hs:∀x,v≠ .wv (.str x)):B7 oIx x (.val (.int i)) k=E9 xs i λw=> k (.val w):=by
 funext h Q E
 show oIx (C6 h x) (.wv (.int i)) _=_
 rw [e,A3M hv hs]
 unfold E9
 cases L2.atI xs i <;> rfl
@[simp] theorem A9F:B7 oIx (.val (.tup xs)) (.val (.int i)) k=E9 xs i λw=> k (.val w):=A1m (v:= .wv (.tup xs)) (λ_=> rfl) rfl (λ_ z=> by cases z)
@[simp] theorem A0m:B7 oIx (.val (.lst xs)) (.val (.int i)) k=E9 xs i λw=> k (.val w):=A1m (v:= .wv (.lst xs)) (λ_=> rfl) rfl (λ_ z=> by cases z)
@[simp] theorem B5M:B7 oIx (.own (.seq xs)) (.val (.int i)) k=E9 xs i λw=> k (.val w):=A1m (v:= .cv (.seq xs)) (λ_=> rfl) rfl (λ_ z=> by cases z)
theorem L4 {k:W->MC} {w:W} (e:L2.atI xs i=some w):E9 xs i k=k w:=by unfold E9;rw [e]
@[simp] theorem A4U {k:W->MC} {w:W}:E9 (w::xs) 0 k=k w:=L4 B02
@[simp] theorem A4l {k:W->MC} {w v:W}:E9 (w::v::xs) 1 k=k v:=L4 B0n
@[simp] theorem A1v {k:W->MC} {w v u:W}:E9 (w::v::u::xs) 2 k=k u:=L4 B0w
@[simp] theorem A2A {k:W->MC} {w v u t:W}:E9 (w::v::u::t::xs) 3 k=k t:=L4 (atI_nat (j:=3) rfl)
@[simp] theorem A4I {k:W->MC} {w v u t s:W}:E9 (w::v::u::t::s::xs) 4 k=k s:=L4 (atI_nat (j:=4) rfl)
theorem A1Z {k:W->MC} {n:Nat} (hn:n < xs.length):E9 xs (n:Int) k=k xs[n]:=L4 (atI_nat (List.getElem?_eq_getElem hn))
theorem A7H {α:Type} {e:α->W} {l:List α} {k:W->MC} {n:Nat} (hn:n < l.length):E9 (l.map e) (n:Int) k=k (e l[n]):=by
 rw [A1Z (by rw [length_map];exact hn),List.getElem_map]
@[simp] theorem B41 {l u:Option Int}:y7 (.val (.tup xs)) l u k=k (.val (.tup (O0 xs l u))):=rfl
@[simp] theorem A9V {l u:Option Int}:y7 (.val (.lst xs)) l u k=k (.own (.seq (O0 xs l u))):=rfl
@[simp] theorem B5K {l u:Option Int}:y7 (.own (.seq xs)) l u k=k (.own (.seq (O0 xs l u))):=rfl
section
variable {w:W} {k1:SV->W->MC}
theorem A3e {m:MC}:isq (.own (.seq xs)) m=m:=C3 trivial
@[simp] theorem B3I {m:CE}:B0p (.own (.seq xs)) m k=m λy=> ext (.own (.seq xs)) y k:=A3e
@[simp] theorem B3p:ext (.own (.seq xs)) (.own (.seq ys)) k=C0 (xs.length+ys.length<=sizeLine) (k (.own (.seq (xs++ys)))):=rfl
@[simp] theorem B4E {f:K4} {ma:A7}:lmC f (.own (.seq xs)) ma k1=ma λws=> lm f (.own (.seq xs)) ws k1:=A3e
@[simp] theorem B1u:lm A7y (.own (.seq xs)) [w] k1=C0 (xs.length < sizeLine) (k1 (.own (.seq (xs++[w]))) .non):=rfl
end
@[simp] theorem A8Y:cb E7 [.val (.tup xs)] k=k (.val (.int xs.length)):=by
 funext h Q E;show E7 [.wv (.tup xs)] _=_;rw [A0o];rfl
@[simp] theorem B2l:cb E7 [.val .emp] k=k (.val (.int 0)):=rfl
@[simp] theorem A3r:cb E7 [.val (.lst xs)] k=k (.val (.int xs.length)):=by
 funext h Q E;show E7 [.wv (.lst xs)] _=_;rw [A0o];rfl
@[simp] theorem B3u:cb E7 [.own (.seq xs)] k=k (.val (.int xs.length)):=by
 funext h Q E;show E7 [.cv (.seq xs)] _=_;rw [A0o];rfl
@[simp] theorem A3i {x:Str}:cb E7 [.val (.str x)] k=C0 (x.length<=sizeLine) (k (.val (.int x.length))):=by
 funext h Q E;show E7 [.wv (.str x)] _=_;rw [A0o];rfl
@[simp] theorem B4a {a:A7} {k:SV->MC}:A9h a k=a λws=> A4k ws k:=rfl
@[simp] theorem B34 {kvs:List (W×W)} {a b:CW} {k:SV->MC}:A9T (.own (.map kvs)) a b k=a λw=> b λd=> A4y (.own (.map kvs)) w d k:=by
 funext h Q E
 exact propext ⟨λz=> z.2,λz=> ⟨⟨kvs,rfl⟩,z⟩⟩
@[simp] theorem B4x {m:CE} {k:W->MC}:A5F m k=m λx=> w6 x k:=rfl
@[simp] theorem B4m {f:K4} {m:CE} {ma:A7} {k:MC}:lmE f m ma k=m λx=> lmR f x ma k:=rfl
@[simp] theorem B3o:cb oBack [.val (.tup xs),.val (.int i)] k=C0 (i= -1) (k (.val (.tup xs.reverse))):=rfl
@[simp] theorem B31:cb Z9 [.val (.tup xs)] k=k (.val (.tup xs)):=by
 funext h Q E;show Z9 [.wv (.tup xs)] _=_;rw [A1c];rfl
@[simp] theorem B4I:cb Z9 [.val (.lst xs)] k=k (.val (.tup xs)):=by
 funext h Q E;show Z9 [.wv (.lst xs)] _=_;rw [A1c];rfl
@[simp] theorem B4O:cb Z9 [.own (.seq xs)] k=k (.val (.tup xs)):=by
 funext h Q E;show Z9 [.cv (.seq xs)] _=_;rw [A1c];rfl
@[simp] theorem B4L:cb L9 [.val (.tup xs)] k=k (.own (.seq xs)):=by
 funext h Q E;show L9 [.wv (.tup xs)] _=_;rw [A1h];rfl
@[simp] theorem B4J:cb L9 [.val (.lst xs)] k=k (.own (.seq xs)):=by
 funext h Q E;show L9 [.wv (.lst xs)] _=_;rw [A1h];rfl
@[simp] theorem A8x:cb L9 [.own (.seq xs)] k=k (.own (.seq xs)):=by
 funext h Q E;show L9 [.cv (.seq xs)] _=_;rw [A1h];rfl
theorem A8R {a b:Int}:(if b < a then b else a)=min a b:=by rw [Int.min_def];split <;> split <;> omega
theorem A79 {a b:Int}:(if b > a then b else a)=max a b:=by rw [Int.max_def];split <;> split <;> omega
theorem A8o {a:Int}:(if a < 0 then -a else a)=(a.natAbs:Int):=by split <;> omega
@[simp] theorem B38:cb A98 [.val (.int i),.val (.int j)] k=k (.val (.int (min i j))):=by
 rw [<-A8R];rfl
@[simp] theorem B3w:cb A9q [.val (.int i),.val (.int j)] k=k (.val (.int (max i j))):=by
 rw [<-A79];rfl
@[simp] theorem B44:cb B0k [.val (.int i)] k=k (.val (.int (i.natAbs:Int))):=by
 rw [<-A8o];rfl
theorem A1S {as bs:List Int} (e:as.map W.int=bs.map W.int):as=bs:=by
 induction as generalizing bs with
 | nil=> cases bs with
  | nil=> rfl
  | cons _ _=> cases e
 | cons a as ih=> cases bs with
  | nil=> cases e
  | cons b bs=>
   rw [map_cons,map_cons] at e
   injection e with e1 e2
   injection e1 with e1
   rw [e1,ih e2]
theorem A8T {as bs:List Bool} (e:as.map W.bl=bs.map W.bl):as=bs:=by
 induction as generalizing bs with
 | nil=> cases bs with
  | nil=> rfl
  | cons _ _=> cases e
 | cons a as ih=> cases bs with
  | nil=> cases e
  | cons b bs=>
   rw [map_cons,map_cons] at e
   injection e with e1 e2
   injection e1 with e1
   rw [e1,ih e2]
theorem A6y {g:List Int->(RV->Prop)->Prop} {ns:List Int} {v:Vw} {Q:RV->Prop} (e:v.seq=some (ns.map W.int)):oInts g [v] Q=g ns Q:=by
 refine propext ⟨λ⟨ms,e2,q⟩=> ?_,λq=> ⟨ns,e,q⟩⟩
 rw [e] at e2
 rw [A1S (Option.some.inj e2)]
 exact q
theorem A7a {g:List Bool->Bool} {ns:List Bool} {v:Vw} {Q:RV->Prop} (e:v.seq=some (ns.map W.bl)):oBls g [v] Q=Q (.val (.bl (g ns))):=by
 refine propext ⟨λ⟨ms,e2,q⟩=> ?_,λq=> ⟨ns,e,q⟩⟩
 rw [e] at e2
 rw [A8T (Option.some.inj e2)]
 exact q
theorem A3m {g:List Bool->Bool} {ns:List Bool} {x:SV} {v:Vw} (e:∀h,C6 h x=v) (es:v.seq=some (ns.map W.bl)):cb (oBls g) [x] k=k (.val (.bl (g ns))):=by
 funext h Q E
 unfold cb
 rw [map_cons,map_nil,e,A7a es]
 rfl
theorem A3T {g:List Int->(RV->Prop)->Prop} {ns:List Int} {x:SV} {v:Vw} (e:∀h,C6 h x=v) (es:v.seq=some (ns.map W.int)):cb (oInts g) [x] k=λh Q E=> g ns λr=> O2 k r h Q E:=by
 funext h Q E
 unfold cb
 rw [map_cons,map_nil,e,A6y es]
theorem A1s {ns:List Int} {x:SV} {v:Vw} (e:∀h,C6 h x=v) (es:v.items=some (ns.map W.int)):cb A0b [x] k=k (.val (.int ns.sum)):=by
 funext h Q E
 unfold cb
 rw [map_cons,map_nil,e]
 refine propext ⟨λ⟨ms,e2,q⟩=> ?_,λq=> ⟨ns,es,q⟩⟩
 rw [es] at e2
 rw [A1S (Option.some.inj e2)]
 exact q
@[simp] theorem B2A {ns:List Int}:cb A3W [.own (.seq (ns.map W.int))] k=k (.own (.seq ((srt ns).map W.int))):=A3T (v:= .cv (.seq _)) (λ_=> rfl) rfl
@[simp] theorem B12 {ns:List Int}:cb A3W [.val (.lst (ns.map W.int))] k=k (.own (.seq ((srt ns).map W.int))):=A3T (v:= .wv (.lst _)) (λ_=> rfl) rfl
@[simp] theorem B4j {ns:List Int}:cb A0b [.own (.seq (ns.map W.int))] k=k (.val (.int ns.sum)):=A1s (v:= .cv (.seq _)) (λ_=> rfl) rfl
@[simp] theorem B37 {ns:List Int}:cb A0b [.val (.lst (ns.map W.int))] k=k (.val (.int ns.sum)):=A1s (v:= .wv (.lst _)) (λ_=> rfl) rfl
@[simp] theorem B4Y {ns:List Int}:cb A0b [.val (.tup (ns.map W.int))] k=k (.val (.int ns.sum)):=A1s (v:= .wv (.tup _)) (λ_=> rfl) rfl
@[simp] theorem B4U {ns:List Bool}:cb B0O [.own (.seq (ns.map W.bl))] k=k (.val (.bl (ns.any id))):=A3m (v:= .cv (.seq _)) (λ_=> rfl) rfl
@[simp] theorem A38 {ns:List Bool}:cb v9 [.own (.seq (ns.map W.bl))] k=k (.val (.bl (ns.all id))):=A3m (v:= .cv (.seq _)) (λ_=> rfl) rfl
end
end
section
variable {Q:RR->AH->Prop} {E:AExc->AH->Prop} {h:AH} {α β σ:Type}
theorem A7i {n:Nat}:I8 0 n=(List.range n).map λ(i:Nat)=> W.int i:=by
 unfold I8
 simp
section
variable {body:W->(Option W->MC)->MC} {k:List W->MC}
theorem A1n (e:α->W) (f:α->Option W):∀(l:List α) (acc:List W),(∀a∈l,∀kk,body (e a) kk=kk (f a))->acc.length+l.length<=sizeLine->T3 body k (l.map e) acc=k (acc++l.filterMap f)
 | [],acc,_,_=> by simp [T3]
 | a::l,acc,hb,hl=> by
  rw [length_cons] at hl
  show body (e a) _=_
  rw [hb a (by simp)]
  cases q:f a with
  | none=>
   show T3 body k (l.map e) acc=_
   rw [A1n e f l acc (λb hb'=> hb b (by simp [hb'])) (by omega),List.filterMap_cons_none q]
  | some y=>
   show C0 _ _=_
   rw [C3 (by omega),A1n e f l (acc++[y]) (λb hb'=> hb b (by simp [hb'])) (by rw [length_append,List.length_singleton];omega),List.filterMap_cons_some q]
   simp
theorem A1f (e:α->W) (g:α->W) (l:List α) (hb:∀a∈l,∀kk,body (e a) kk=kk (some (g a))) (hl:l.length<=sizeLine):T3 body k (l.map e) []=k (l.map g):=by
 rw [A1n e (λa=> some (g a)) l [] hb (by simpa using hl)]
 congr 1
 rw [List.nil_append,List.filterMap_eq_map']
end
section
variable {body:W->σ->(σ->MC)->(σ->MC)->MC} {k:σ->MC}
inductive Stp (σ:Type) where
 | go (s:σ) | out (m:MC)
theorem A6z {body:W->Unit->(Unit->MC)->(Unit->MC)->MC} {k:Unit->MC} (ws:List W) (hb:∀w∈ws,∀kn,body w () kn k=kn ()):f8 body k ws ()=k ():=by
 induction ws with
 | nil=> rfl
 | cons w ws ih=>
  show body w () _ k=_
  rw [hb w (by simp)]
  exact ih λv hv=> hb v (by simp [hv])
end
end
mutual
def W.nb:Nat->W->Bool
 | _,.non=> true
 | _,.int _=> true
 | _,.str _=> true
 | n+1,.tup xs=> W.nbs n xs
 | n+1,.lst xs=> W.nbs n xs
 | _,_=> false
def W.nbs:Nat->List W->Bool
 | _,[]=> true
 | n,x::xs=> W.nb n x && W.nbs n xs
end
theorem W.nbs_of {n:Nat}:∀{xs:List W},(∀x∈xs,x.nb n=true)->W.nbs n xs=true
 | [],_=> rfl
 | x::xs,h=> by
  simp only [W.nbs,Bool.and_eq_true]
  exact ⟨h x (by simp),W.nbs_of λy hy=> h y (by simp [hy])⟩
theorem W.nbs_mem {n:Nat}:∀{xs:List W},W.nbs n xs=true->∀x∈xs,x.nb n=true
 | [],_,x,h=> by cases h
 | y::ys,e,x,h=> by
  simp only [W.nbs,Bool.and_eq_true] at e
  rcases List.mem_cons.mp h with rfl | h
  ·exact e.1
  ·exact W.nbs_mem e.2 x h
theorem A8A {n:Nat} {i:Int}:(W.int i).nb n=true:=by cases n <;> rfl
theorem A78 {n:Nat} {xs:List W} (h:∀x∈xs,x.nb n=true):(W.tup xs).nb (n+1)=true:=W.nbs_of h
theorem A8e {n:Nat} {xs:List W} (h:∀x∈xs,x.nb n=true):(W.lst xs).nb (n+1)=true:=W.nbs_of h
theorem A1P {n:Nat} {xs:List Int}:∀x∈xs.map W.int,x.nb n=true:=λx hx=> by
 obtain ⟨i,_,rfl⟩:=List.mem_map.mp hx
 exact A8A
theorem A0Z:∀{n:Nat} {w:W},w.nb n=true->w.dat n=true
 | 0,.non,_=> rfl
 | 0,.int _,_=> rfl
 | 0,.str _,_=> rfl
 | _+1,.non,_=> rfl
 | _+1,.int _,_=> rfl
 | _+1,.str _,_=> rfl
 | n+1,.tup xs,h=> by
  show xs.all (W.dat n)=true
  rw [all_eq_true]
  exact λx hx=> A0Z (W.nbs_mem h x hx)
 | n+1,.lst xs,h=> by
  show xs.all (W.dat n)=true
  rw [all_eq_true]
  exact λx hx=> A0Z (W.nbs_mem h x hx)
 | 0,.tup _,h=> by simp [W.nb] at h
 | 0,.lst _,h=> by simp [W.nb] at h
 | _,.bl _,h=> by simp [W.nb] at h
 | _,.dct _ _,h=> by simp [W.nb] at h
 | _,.ref _,h=> by simp [W.nb] at h
 | _,.ty _,h=> by simp [W.nb] at h
 | _,.emp,h=> by simp [W.nb] at h
 | _,.exc _ _ _,h=> by simp [W.nb] at h
theorem A0W:∀{n m:Nat} {w:W},n<=m->w.dat n=true->w.dat m=true
 | _,0,.non,_,_=> rfl
 | _,0,.int _,_,_=> rfl
 | _,0,.str _,_,_=> rfl
 | _,0,.bl _,_,_=> rfl
 | _,_+1,.non,_,_=> rfl
 | _,_+1,.int _,_,_=> rfl
 | _,_+1,.str _,_,_=> rfl
 | _,_+1,.bl _,_,_=> rfl
 | 0,_,.emp,_,h=> by simp [W.dat] at h
 | _,_,.exc _ _ _,_,h=> by simp [W.dat] at h
 | _+1,_+1,.emp,_,_=> rfl
 | _+1,0,.emp,l,_=> by omega
 | 0,_,.tup _,_,h=> by simp [W.dat] at h
 | 0,_,.lst _,_,h=> by simp [W.dat] at h
 | n+1,m+1,.tup xs,l,h=> by
  have h:xs.all (W.dat n)=true:=h
  show xs.all (W.dat m)=true
  rw [all_eq_true] at h ⊢
  exact λx hx=> A0W (by omega) (h x hx)
 | n+1,m+1,.lst xs,l,h=> by
  have h:xs.all (W.dat n)=true:=h
  show xs.all (W.dat m)=true
  rw [all_eq_true] at h ⊢
  exact λx hx=> A0W (by omega) (h x hx)
 | _+1,0,.tup _,l,_=> by omega
 | _+1,0,.lst _,l,_=> by omega
 | _,_,.dct _ _,_,h=> by simp [W.dat] at h
 | _,_,.ref _,_,h=> by simp [W.dat] at h
 | _,_,.ty _,_,h=> by simp [W.dat] at h
def W.plain (w:W):Prop:=∃n,n<=60/\w.nb n=true
@[simp] theorem d7 {i:Int}:(W.int i).plain:=⟨0,by omega,rfl⟩
@[simp] theorem A0X {i:Str}:(W.str i).plain:=⟨0,by omega,rfl⟩
@[simp] theorem B3y:W.non.plain:=⟨0,by omega,rfl⟩
theorem A88 (n:Nat) (hn:n < 60) {xs:List W} (h:∀x∈xs,x.nb n=true):(W.tup xs).plain:=⟨n+1,hn,A78 h⟩
theorem A8l (n:Nat) (hn:n < 60) {xs:List W} (h:∀x∈xs,x.nb n=true):(W.lst xs).plain:=⟨n+1,hn,A8e h⟩
@[simp] theorem A0O {xs:List Int}:(W.tup (xs.map W.int)).plain:=A88 0 (by omega) A1P
@[simp] theorem B2D {xs:List Int}:(W.lst (xs.map W.int)).plain:=A8l 0 (by omega) A1P
mutual
theorem eqw_nb:∀(n:Nat) (a b:W) (m:Nat),a.nb n=true->b.nb m=true->(D2 a b=true↔a=b)
 | _,.non,.non,_,_,_=> by simp [D2,W.pd,PyData.eqv]
 | _,.non,.int _,_,_,_=> by simp [D2,W.pd,PyData.eqv]
 | _,.non,.str _,_,_,_=> by simp [D2,W.pd,PyData.eqv]
 | _,.non,.tup _,_,_,_=> by simp [D2,W.pd,PyData.eqv]
 | _,.non,.lst _,_,_,_=> by simp [D2,W.pd,PyData.eqv]
 | _,.int _,.non,_,_,_=> by simp [D2,W.pd,PyData.eqv]
 | _,.int _,.int _,_,_,_=> by simp [D2,W.pd,PyData.eqv]
 | _,.int _,.str _,_,_,_=> by simp [D2,W.pd,PyData.eqv]
 | _,.int _,.tup _,_,_,_=> by simp [D2,W.pd,PyData.eqv]
 | _,.int _,.lst _,_,_,_=> by simp [D2,W.pd,PyData.eqv]
 | _,.str _,.non,_,_,_=> by simp [D2,W.pd,PyData.eqv]
 | _,.str _,.int _,_,_,_=> by simp [D2,W.pd,PyData.eqv]
 | _,.str _,.str _,_,_,_=> by simp [D2,W.pd,PyData.eqv]
 | _,.str _,.tup _,_,_,_=> by simp [D2,W.pd,PyData.eqv]
 | _,.str _,.lst _,_,_,_=> by simp [D2,W.pd,PyData.eqv]
 | _,.tup _,.non,_,_,_=> by simp [D2,W.pd,PyData.eqv]
 | _,.tup _,.int _,_,_,_=> by simp [D2,W.pd,PyData.eqv]
 | _,.tup _,.str _,_,_,_=> by simp [D2,W.pd,PyData.eqv]
 | n+1,.tup xs,.tup ys,m+1,h,g=> by
  have z:=eqws_nb n xs ys m h g
  show PyData.eqvAll (W.pds xs) (W.pds ys)=true↔_
  rw [z]
  simp
 | _,.tup _,.lst _,_,_,_=> by simp [D2,W.pd,PyData.eqv]
 | _,.lst _,.non,_,_,_=> by simp [D2,W.pd,PyData.eqv]
 | _,.lst _,.int _,_,_,_=> by simp [D2,W.pd,PyData.eqv]
 | _,.lst _,.str _,_,_,_=> by simp [D2,W.pd,PyData.eqv]
 | _,.lst _,.tup _,_,_,_=> by simp [D2,W.pd,PyData.eqv]
 | n+1,.lst xs,.lst ys,m+1,h,g=> by
  have z:=eqws_nb n xs ys m h g
  show PyData.eqvAll (W.pds xs) (W.pds ys)=true↔_
  rw [z]
  simp
 | 0,.tup _,.tup _,_,h,_=> by simp [W.nb] at h
 | _,.tup _,.tup _,0,_,h=> by simp [W.nb] at h
 | 0,.lst _,.lst _,_,h,_=> by simp [W.nb] at h
 | _,.lst _,.lst _,0,_,h=> by simp [W.nb] at h
 | _,.bl _,_,_,h,_=> by simp [W.nb] at h
 | _,.dct _ _,_,_,h,_=> by simp [W.nb] at h
 | _,.ref _,_,_,h,_=> by simp [W.nb] at h
 | _,.ty _,_,_,h,_=> by simp [W.nb] at h
 | _,.emp,_,_,h,_=> by simp [W.nb] at h
 | _,.exc _ _ _,_,_,h,_=> by simp [W.nb] at h
 | _,_,.bl _,_,_,h=> by simp [W.nb] at h
 | _,_,.dct _ _,_,_,h=> by simp [W.nb] at h
 | _,_,.ref _,_,_,h=> by simp [W.nb] at h
 | _,_,.ty _,_,_,h=> by simp [W.nb] at h
 | _,_,.emp,_,_,h=> by simp [W.nb] at h
 | _,_,.exc _ _ _,_,_,h=> by simp [W.nb] at h
theorem eqws_nb:∀(n:Nat) (xs ys:List W) (m:Nat),W.nbs n xs=true->W.nbs m ys=true->(PyData.eqvAll (W.pds xs) (W.pds ys)=true↔xs=ys)
 | _,[],[],_,_,_=> by simp [W.pds,PyData.eqvAll]
 | _,[],_::_,_,_,_=> by simp [W.pds,PyData.eqvAll]
 | _,_::_,[],_,_,_=> by simp [W.pds,PyData.eqvAll]
 | n,x::xs,y::ys,m,h,g=> by
  simp only [W.nbs,Bool.and_eq_true] at h g
  have z1:=eqw_nb n x y m h.1 g.1
  have z2:=eqws_nb n xs ys m h.2 g.2
  simp only [W.pds,PyData.eqvAll,Bool.and_eq_true]
  rw [z2,show PyData.eqv x.pd y.pd=D2 x y from rfl,z1]
  simp
end
def SV.pl (x:SV):Prop:=match x with
 | .val w=> w.plain
 | .own c=> c.fz.plain
theorem A21 {w:W} (h:w.plain) (k:AH):viewW k w= .wv w:=by
 obtain ⟨n,_,h⟩:=h
 cases w with
 | ref a=> simp [W.nb] at h
 | _=> rfl
theorem c5 {x:SV} (h:x.pl) (k:AH):(C6 k x).toW=x.fz/\C6 k x≠ .bad/\x.fz.plain:=by
 cases x with
 | val w=>
  have h:w.plain:=h
  refine ⟨by show (viewW k w).toW=w;rw [A21 h];rfl,by show viewW k w≠ .bad;rw [A21 h];exact (λz=> nomatch z),h⟩
 | own c=> exact ⟨rfl,(λz=> nomatch z),h⟩
theorem A6L {w:W} (h:w.plain):w.dat 60=true:=by
 obtain ⟨n,hn,h⟩:=h
 exact A0W hn (A0Z h)
theorem A1J {x:SV} (h:x.pl) (k:AH):(C6 k x).ok=true:=by
 obtain ⟨a,b,c⟩:=c5 h k
 have d:=A6L c
 cases e:C6 k x with
 | bad=> exact absurd e b
 | wv w=> rw [e] at a;show w.dat 60=true;rw [show w=x.fz from a];exact d
 | cv w=> rw [e] at a;show w.fz.dat 60=true;rw [show w.fz=x.fz from a];exact d
theorem A42 {x y:SV} {neg:Bool} {k:SV->MC} (hx:x.pl) (hy:y.pl):B7 (E1 neg) x y k=k (.val (.bl (if neg=true then !D2 x.fz y.fz else D2 x.fz y.fz))):=by
 funext h Q E
 unfold B7 E1
 rw [(c5 hx h).1,(c5 hy h).1]
 refine propext ⟨λz=> z.2.2,λz=> ⟨A1J hx h,A1J hy h,z⟩⟩
noncomputable instance:DecidableEq W:=λ_ _=> Classical.propDecidable _
theorem sp {w:W} (h:w.plain):SV.pl (.val w):=h
theorem so {c:Cont} (h:c.fz.plain):SV.pl (.own c):=h
theorem A3K {x:W} (hx:∃n,x.nb n=true):∀{xs:List W},(∀y∈xs,∃n,y.nb n=true)->R7 x xs=decide (x∈xs)
 | [],_=> by simp [R7]
 | y::ys,h=> by
  obtain ⟨n,hn⟩:=hx
  obtain ⟨m,hm⟩:=h y (by simp)
  have z:=eqw_nb m y x n hm hn
  rw [A6W,A3K ⟨n,hn⟩ λz hz=> h z (by simp [hz])]
  by_cases q:y=x
  ·rw [z.mpr q];simp [q]
  ·have q':D2 y x=false:=by simpa using mt z.mp q
   have q2:¬x=y:=λe=> q e.symm
   rw [q'];simp [q2]
theorem A64 {w:W} (h:w.plain):∃n,w.nb n=true:=let ⟨n,_,q⟩:=h;⟨n,q⟩
theorem u8 {x y:SV} {k:SV->MC} (hx:x.pl) (hy:y.pl):B7 (E1 false) x y k=k (.val (.bl (decide (x.fz=y.fz)))):=by
 rw [A42 hx hy]
 obtain ⟨_,_,n,_,hn⟩:=c5 hx (λ_=> none)
 obtain ⟨_,_,m,_,hm⟩:=c5 hy (λ_=> none)
 have z:=eqw_nb n x.fz y.fz m hn hm
 have:D2 x.fz y.fz=decide (x.fz=y.fz):=by
  by_cases q:x.fz=y.fz
  ·rw [z.mpr q,decide_eq_true q]
  ·have q':=mt z.mp q
   rw [decide_eq_false q]
   simpa using q'
 rw [this]
 rfl
theorem A17 {x y:SV} {k:SV->MC} (hx:x.pl) (hy:y.pl):B7 (E1 true) x y k=k (.val (.bl (!decide (x.fz=y.fz)))):=by
 have z:=u8 (k:=λr=> match r with
  | .val (.bl b)=> k (.val (.bl (!b)))
  | _=> bad) hx hy
 rw [A42 hx hy] at z ⊢
 exact z
theorem i8 {p q:Prop} [Decidable p] [Decidable q] (h:p↔q):decide p=decide q:=decide_eq_decide.mpr h
section
variable {k:SV->MC} {i j:Int} {a b:Str} {as bs:List Int} {xs:List W}
@[simp] theorem A4g:B7 (E1 false) (.val (.int i)) (.val (.int j)) k=k (.val (.bl (decide (i=j)))):=by
 rw [u8 (sp d7) (sp d7),i8 (q:=i=j) (by simp)]
@[simp] theorem A0f:B7 (E1 true) (.val (.int i)) (.val (.int j)) k=k (.val (.bl (!decide (i=j)))):=by
 rw [A17 (sp d7) (sp d7),i8 (q:=i=j) (by simp)]
@[simp] theorem A3k:B7 (E1 false) (.val (.str a)) (.val (.str b)) k=k (.val (.bl (decide (a=b)))):=by
 rw [u8 (sp A0X) (sp A0X),i8 (q:=a=b) (by simp)]
@[simp] theorem B4c:B7 (E1 true) (.val (.str a)) (.val (.str b)) k=k (.val (.bl (!decide (a=b)))):=by
 rw [A17 (sp A0X) (sp A0X),i8 (q:=a=b) (by simp)]
theorem tup_ints:W.tup (as.map W.int)=W.tup (bs.map W.int)↔as=bs:=⟨λe=> by injection e with e;exact A1S e,λe=> by rw [e]⟩
@[simp] theorem B43:B7 (E1 false) (.val (.tup (as.map W.int))) (.val (.tup (bs.map W.int))) k=k (.val (.bl (decide (as=bs)))):=by
 rw [u8 (sp A0O) (sp A0O),J8,J8,i8 (q:=as=bs) tup_ints]
@[simp] theorem B4y:B7 (E1 true) (.val (.tup (as.map W.int))) (.val (.tup (bs.map W.int))) k=k (.val (.bl (!decide (as=bs)))):=by
 rw [A17 (sp A0O) (sp A0O),J8,J8,i8 (q:=as=bs) tup_ints]
theorem Q8 {w:W} {neg:Bool} (hv:∀h,viewW h w= .wv w):B7 (F4 neg) (.val w) (.val .non) k=k (.val (.bl (if neg then !(Vw.wv w).isNon else (Vw.wv w).isNon))):=by
 funext h Q E
 show F4 neg (viewW h w) (.wv .non) _=_
 rw [hv,A90]
 refine propext ⟨λz=> z.2,λz=> ⟨(λe=> nomatch e),z⟩⟩
@[simp] theorem A3d:B7 (F4 false) (.val .non) (.val .non) k=k (.val (.bl true)):=Q8 (λ_=> rfl)
@[simp] theorem A3g:B7 (F4 false) (.val (.int i)) (.val .non) k=k (.val (.bl false)):=Q8 (λ_=> rfl)
@[simp] theorem A3f:B7 (F4 false) (.val (.str a)) (.val .non) k=k (.val (.bl false)):=Q8 (λ_=> rfl)
@[simp] theorem A7G:B7 (F4 false) (.val (.tup xs)) (.val .non) k=k (.val (.bl false)):=Q8 (λ_=> rfl)
@[simp] theorem A7w:B7 (F4 false) (.val (.lst xs)) (.val .non) k=k (.val (.bl false)):=Q8 (λ_=> rfl)
@[simp] theorem B2B:B7 (F4 true) (.val .non) (.val .non) k=k (.val (.bl false)):=Q8 (λ_=> rfl)
@[simp] theorem B19:B7 (F4 true) (.val (.int i)) (.val .non) k=k (.val (.bl true)):=Q8 (λ_=> rfl)
@[simp] theorem B2Q:B7 (F4 true) (.val (.str a)) (.val .non) k=k (.val (.bl true)):=Q8 (λ_=> rfl)
@[simp] theorem B2X:B7 (F4 true) (.val (.tup xs)) (.val .non) k=k (.val (.bl true)):=Q8 (λ_=> rfl)
@[simp] theorem B2H:B7 (F4 true) (.val (.lst xs)) (.val .non) k=k (.val (.bl true)):=Q8 (λ_=> rfl)
end
abbrev CL:=(Addr->List W->MC)->MC
def A97 (a:CW) (u:CL):CL:=λk=> a λw=> u λf ws=> k f (w::ws)
def B0y (b:CE):List W->MC
 | []=> b ret
 | _=> bad
def B0u (b:W->CE):List W->MC
 | [w]=> b w ret
 | _=> bad
def A62 (m:Addr->List W->MC) (l:CL):CE:=λk=> l λf ws=> call (m f ws) k
section
variable {Q:RR->AH->Prop} {E:AExc->AH->Prop} {env:A0} {h:AH} {k:SV->MC}
@[simp] theorem B1z {m:Addr->List W->MC} {l:CL}:A62 m l k=l λf ws=> call (m f ws) k:=rfl
@[simp] theorem B3B {a:CW} {u:CL} {k:Addr->List W->MC}:A97 a u k=a λw=> u λf ws=> k f (w::ws):=rfl
@[simp] theorem B16 {b:CE}:B0y b []=b ret:=rfl
@[simp] theorem B2I {b:W->CE} {w:W}:B0u b [w]=b w ret:=rfl
def A8C (x word:Str) (fs:List Str) (ma:A7):MC:=ma λws=> u4 ⟨x,initF (W.str word) fs ws⟩
@[simp] theorem B2P {x word:Str} {fs:List Str} {ma:A7}:A8C x word fs ma=ma λws=> u4 ⟨x,initF (W.str word) fs ws⟩:=rfl
inductive MonoL2:List (Str×XT)->Prop where
 | nil:MonoL2 []
 | cons {c:Str} {sv:XT} {l:List (Str×XT)} (m:A4n sv) (t:MonoL2 l):MonoL2 ((c,sv)::l)
end
section
variable {Q:RR->AH->Prop} {E:AExc->AH->Prop} {env:A0} {D:AEnds}
end
def getT (x:SV) (w:W) (k:SV->MC):MC:=λh Q E=> ∃(l:List (List Int×W)) (ns:List Int) (v:W),x= .own (.map (m4 l))/\w= .tup (ns.map .int)/\u5 l ns=some v/\k (.val v) h Q E
section
variable {Q:RR->AH->Prop} {E:AExc->AH->Prop} {env:A0} {D:AEnds} {k:SV->MC} {h:AH}
end
def A9Q:C9:=oII A4M λi j=> .int (i ^ j.toNat)
section
variable {i j:Int} {k:SV->MC}
@[simp] theorem B36:B7 A9Q (.val (.int i)) (.val (.int j)) k=C0 (A4M i j) (k (.val (.int (i ^ j.toNat)))):=rfl
end
def idx (x:SV) (ws:List W) (k:SV->MC):MC:=λh Q E=> wap (C6 h x) ws λr=> O2 k r h Q E
def A0y (x:SV) (m:MC):MC:=λh Q E=> (∃ns:List Int,(C6 h x).seq=some (ns.map W.int))/\m h Q E
def B0x (a:CE) (ma:A7):CE:=λk=> a λx=> A0y x (ma λws=> idx x ws k)
section
variable {Q:RR->AH->Prop} {E:AExc->AH->Prop} {env:A0} {t:AT} {m:CE} {ta:B8} {ma:A7} {k:SV->MC} {ns:List Int} {x:Int}
@[simp] theorem B4w {a:CE}:B0x a ma k=a λx=> A0y x (ma λws=> idx x ws k):=rfl
@[simp] theorem B2C {m:MC}:A0y (.own (.seq (ns.map W.int))) m=m:=by
 funext h Q E
 exact propext ⟨λz=> z.2,λz=> ⟨⟨ns,rfl⟩,z⟩⟩
@[simp] theorem B2K {m:MC}:A0y (.val (.lst (ns.map W.int))) m=m:=by
 funext h Q E
 exact propext ⟨λz=> z.2,λz=> ⟨⟨ns,rfl⟩,z⟩⟩
end
def Z4 (n0 m0:Nat) (perm:List Nat) (ds us ws:List W) (k:List W->MC):MC:=C0 (us.length=n0/\ws.length=m0) (k (perm.map λi=> (us++(ws++ds)).getD i .non))
def wMx (n0 m0:Nat) (perm:List Nat) (ds:List W) (a b:A7):A7:=λk=> a λus=> b λws=> Z4 n0 m0 perm ds us ws k
@[simp] theorem B5A {n0 m0:Nat} {perm:List Nat} {ds:List W} {a b:A7} {k:List W->MC}:wMx n0 m0 perm ds a b k=a λus=> b λws=> Z4 n0 m0 perm ds us ws k:=rfl
theorem j3 {n0 m0:Nat} {perm:List Nat} {ds us ws:List W} {k:List W->MC} (h:us.length=n0/\ws.length=m0):Z4 n0 m0 perm ds us ws k=k (perm.map λi=> (us++(ws++ds)).getD i .non):=C3 h
section
variable {Q:RR->AH->Prop} {E:AExc->AH->Prop} {env:A0} {ta tb:B8} {ma mb:A7}
end
theorem A3S {neg x y:Bool} {k:SV->MC}:B7 (A2G neg) (.val (.bl x)) (.val (.bl y)) k=k (.val (.bl (if neg then !decide (x=y) else decide (x=y)))):=by
 funext h Q E
 refine propext ⟨λ⟨u,v,e1,e2,q⟩=> ?_,λq=> ⟨x,y,rfl,rfl,q⟩⟩
 cases e1
 cases e2
 exact q
@[simp] theorem B4q {x y:Bool} {k:SV->MC}:B7 (A2G false) (.val (.bl x)) (.val (.bl y)) k=k (.val (.bl (decide (x=y)))):=A3S
@[simp] theorem B33 {x y:Bool} {k:SV->MC}:B7 (A2G true) (.val (.bl x)) (.val (.bl y)) k=k (.val (.bl (!decide (x=y)))):=A3S
section
variable {a b c d e f x:W} {k:List W->MC}
@[simp] theorem B4f:Z4 3 2 [0,1,2,3,4] [] [a,b,c] [d,e] k=k [a,b,c,d,e]:=by rw [j3 (by exact ⟨rfl,rfl⟩)];rfl
@[simp] theorem B3n:Z4 3 2 [0,1,2,4,3] [] [a,b,c] [d,e] k=k [a,b,c,e,d]:=by rw [j3 (by exact ⟨rfl,rfl⟩)];rfl
@[simp] theorem B4A:Z4 0 5 [4,3,2,1,0] [] [] [a,b,c,d,e] k=k [e,d,c,b,a]:=by rw [j3 (by exact ⟨rfl,rfl⟩)];rfl
@[simp] theorem B3r:Z4 3 1 [0,1,2,3,4] [x] [a,b,c] [d] k=k [a,b,c,d,x]:=by rw [j3 (by exact ⟨rfl,rfl⟩)];rfl
@[simp] theorem B4T:Z4 4 2 [0,1,2,3,4,5] [] [a,b,c,d] [e,f] k=k [a,b,c,d,e,f]:=by rw [j3 (by exact ⟨rfl,rfl⟩)];rfl
@[simp] theorem B23:Z4 0 5 [4,3,2,1,0,5] [x] [] [a,b,c,d,e] k=k [e,d,c,b,a,x]:=by rw [j3 (by exact ⟨rfl,rfl⟩)];rfl
end
theorem A9e {x:SV} {y:SV} {xs:List W} {k:SV->MC} (hx:x.pl) (hy:∀h,(C6 h y).items=some xs) (hp:∀z∈xs,z.nb 59=true):B7 (R9 false) x y k=k (.val (.bl (decide (x.fz∈xs)))):=by
 funext h Q E
 unfold B7
 rw [B0H,hy h]
 have hd:xs.all (W.dat 60)=true:=by
  rw [all_eq_true]
  exact λz hz=> A0W (by omega) (A0Z (hp z hz))
 have e:R7 (C6 h x).toW xs=decide (x.fz∈xs):=by
  rw [(c5 hx h).1]
  exact A3K (A64 (c5 hx h).2.2) λz hz=> ⟨59,hp z hz⟩
 show (_/\_/\_)=_
 rw [e]
 refine propext ⟨λz=> z.2.2,λz=> ⟨A1J hx h,hd,z⟩⟩
def A0x (x:SV) (k:SV->MC):MC:=λh Q E=> ∃xs,(C6 h x).seq=some xs/\k (.own (.seq xs.reverse)) h Q E
def B0E (a:CE):CE:=λk=> a λx=> A0x x k
section
variable {Q:RR->AH->Prop} {E:AExc->AH->Prop} {env:A0} {t:AT} {m:CE} {k:SV->MC} {xs:List W}
@[simp] theorem B4e {a:CE}:B0E a k=a λx=> A0x x k:=rfl
@[simp] theorem B2S:A0x (.own (.seq xs)) k=k (.own (.seq xs.reverse)):=by
 funext h Q E
 exact propext ⟨λ⟨ys,e,z⟩=> by cases e;exact z,λz=> ⟨xs,rfl,z⟩⟩
@[simp] theorem B2F:A0x (.val (.lst xs)) k=k (.own (.seq xs.reverse)):=by
 funext h Q E
 exact propext ⟨λ⟨ys,e,z⟩=> by cases e;exact z,λz=> ⟨xs,rfl,z⟩⟩
end
theorem A7q {f:List W->MC} {a:A7} {k:SV->MC}:Y6 f a k=a λws=> call (f ws) k:=Eq.trans A8H rfl
theorem B0R {x:SV} {k:SV->MC}:eV x k=k x:=Eq.trans F0 rfl
theorem B0m {x:W} {k:SV->MC}:eC x k=k (.val x):=Eq.trans G2 rfl
theorem A9R {a:CE} {k:W->MC}:A2 a k=a λx=> k x.fz:=Eq.trans I0 rfl
theorem A7d {k:List W->MC}:D5 k=k []:=Eq.trans M3 rfl
theorem A6n {a:CW} {b:A7} {k:List W->MC}:A9 a b k=a λw=> b λws=> k (w::ws):=Eq.trans M1 rfl
theorem A75 {w:W}:SV.fz (.val w)=w:=Eq.trans J8 rfl
def A3p (w:W) (k:SV->MC):MC:=λh Q E=> oLenSet [.wv w] λr=> O2 k r h Q E
def A7m (mk:CW):CE:=λk=> mk λw=> A3p w k
section
variable {Q:RR->AH->Prop} {E:AExc->AH->Prop} {env:A0} {t:A6} {mk:CW} {k:SV->MC} {ns:List Int} {h:AH}
@[simp] theorem B10:A7m mk k=mk λw=> A3p w k:=rfl
end
def pr3 (ws:List W) (k:W->W->W->MC):MC:=match ws with
 | [a,b,c]=> k a b c
 | _=> bad
def A9E (ma:A7) (k:W->W->W->MC):MC:=ma λws=> pr3 ws k
@[simp] theorem B20 {a:A7} {k:W->W->W->MC}:A9E a k=a λws=> pr3 ws k:=rfl
@[simp] theorem B4s {x y z:W} {k:W->W->W->MC}:pr3 [x,y,z] k=k x y z:=rfl
def A4u (n f:Str) (x:SV) (k:SV->MC):MC:=λh Q E=> match x with
 | .val (.ref a)=> ∃fs w,h a=some (.ins n fs)/\fs.lookup f=some w/\k (.val w) h Q E
 | _=> False
def B0Y (n f:Str) (m:CE):CE:=λk=> m λx=> A4u n f x k
def b6 (n f:Str) (x:SV) (w:W) (k:MC):MC:=λh Q E=> match x with
 | .val (.ref a)=> ∃fs,h a=some (.ins n fs)/\fs.length < 1000/\k (C4 h a (.ins n (u9 f w fs))) Q E
 | _=> False
def A9t (n f:Str) (mv:CW) (m:CE) (k:MC):MC:=mv λw=> m λx=> b6 n f x w k
def B0V (n f:Str) (mv:CW) (m:W->CE) (k:W->MC):MC:=mv λw=> un2 w λa b=> m a λx=> b6 n f x b (k a)
def ffC (n f n2 g:Str) (mv:CW) (m m2:CE) (k:MC):MC:=mv λw=> un2 w λa b=> m λx=> b6 n f x a (m2 λy=> b6 n2 g y b k)
def b9 (C nm:Str) (x:SV) (k:Addr->MC):MC:=λh Q E=> match x with
 | .val (.ref a)=> (∃fs,h a=some (.ins C fs)/\fs.lookup nm=none)/\k a h Q E
 | _=> False
def A9U (C nm:Str) (f:List W->MC) (mo:CE) (ma:A7):CE:=λk=> mo λx=> b9 C nm x λa=> ma λws=> call (f (.ref a::ws)) k
def A9A (C nm:Str) (f:List W->MC) (mo:CE) (ma:A7):CE:=λk=> mo λx=> b9 C nm x λa=> ma λws=> call0 (f (.ref a::ws)) k
def mxW (n0 m0:Nat) (P:List Nat) (ds us zs:List W) (k:List W->MC):MC:=C0 (us.length=n0/\zs.length=m0) (k (P.map λi=> (us++(zs++ds)).getD i .non))
def A8b (C nm:Str) (f:List W->MC) (n0 m0:Nat) (P:List Nat) (ds:List W) (mo:CE) (ma mk:A7):CE:=λk=> mo λx=> b9 C nm x λa=> ma λws=> mk λzs=> mxW (n0+1) m0 P ds (.ref a::ws) zs λvs=> call (f vs) k
def A7e (C nm:Str) (f:List W->MC) (n0 m0:Nat) (P:List Nat) (ds:List W) (mo:CE) (ma mk:A7):CE:=λk=> mo λx=> b9 C nm x λa=> ma λws=> mk λzs=> mxW (n0+1) m0 P ds (.ref a::ws) zs λvs=> call0 (f vs) k
def mkX (C:Str) (f:Addr->MC) (k:SV->MC):MC:=λh Q E=> ∀a,h a=none->f a (C4 h a (.ins C [])) (λr h2=> r= .val .non/\k (.val (.ref a)) h2 Q E) E
def A0w (C:Str) (f:Addr->MC) (k:SV->MC):MC:=λh Q E=> ∀a,h a=none->f a (C4 h a (.ins C [])) (λr h2=> r= .val .non/\k (.val (.ref a)) h2 Q E) λ_ _=> False
def B0K (C:Str) (f:List W->MC) (ma:A7):CE:=λk=> ma λws=> mkX C (λa=> f (.ref a::ws)) k
def A8P (C:Str) (f:List W->MC) (ma:A7):CE:=λk=> ma λws=> A0w C (λa=> f (.ref a::ws)) k
def A8g (C:Str) (f:List W->MC) (n0 m0:Nat) (P:List Nat) (ds:List W) (ma mk:A7):CE:=λk=> ma λws=> mk λzs=> C0 (ws.length=n0/\zs.length=m0) (mkX C (λa=> f (P.map λi=> ((.ref a::ws)++(zs++ds)).getD i .non)) k)
def A7Z (C:Str) (f:List W->MC) (n0 m0:Nat) (P:List Nat) (ds:List W) (ma mk:A7):CE:=λk=> ma λws=> mk λzs=> C0 (ws.length=n0/\zs.length=m0) (A0w C (λa=> f (P.map λi=> ((.ref a::ws)++(zs++ds)).getD i .non)) k)
def A48 (C:Str) (f:List W->MC) (po:RR->(RV->Prop)->Prop) (x:SV) (k:SV->MC):MC:=λh Q E=> match x with
 | .val (.ref a)=> ∃fs,h a=some (.ins C fs)/\f [.ref a] h (λr h2=> po r λy=> O2 k y h2 Q E) λ_ _=> False
 | _=> False
def B0j (C:Str) (f:List W->MC) (po:RR->(RV->Prop)->Prop) (m:CE):CE:=λk=> m λx=> A48 C f po x k
def eqX (C:Str) (neg:Bool) (f:List W->MC) (x y:SV) (k:SV->MC):MC:=λh Q E=> match x,y with
 | .val (.ref a),.val (.ref b)=> (∃fs gs,h a=some (.ins C fs)/\h b=some (.ins C gs))/\f [.ref a,.ref b] h (λr h2=> ∃c:Bool,r= .val (.bl c)/\k (.val (.bl (if neg=true then !c else c))) h2 Q E) λ_ _=> False
 | _,_=> False
def B0d (C:Str) (neg:Bool) (f:List W->MC) (m m2:CE):CE:=λk=> m λx=> m2 λy=> eqX C neg f x y k
def v7 (n:Str) (b:Bool) (x:SV) (k:SV->MC):MC:=λh Q E=> match x with
 | .val (.ref a)=> (∃fs,h a=some (.ins n fs))/\k (.val (.bl b)) h Q E
 | .val (.lst _)=> k (.val (.bl false)) h Q E
 | .val (.tup _)=> k (.val (.bl false)) h Q E
 | .val (.str _)=> k (.val (.bl false)) h Q E
 | _=> False
def B0W (n:Str) (b:Bool) (m:CE):CE:=λk=> m λx=> v7 n b x k
def inX (neg:Bool) (w:W) (x:SV) (k:SV->MC):MC:=λh Q E=> inM neg (C6 h x) w λr=> O2 k r h Q E
def B05 (neg:Bool) (mk:CW) (m:CE):CE:=λk=> mk λw=> m λx=> inX neg w x k
def A4J (x:SV) (w:W) (k:SV->MC):MC:=λh Q E=> A4v (C6 h x) w λr=> O2 k r h Q E
def A9l (m:CE) (mk:CW):CE:=λk=> m λx=> mk λw=> A4J x w k
def l5 (x:SV) (w v:W) (k:SV->MC):MC:=λh Q E=> match x with
 | .own (.map kvs)=> ∃l s,kvs=smap l/\w= .str s/\l.length < sizeLine/\k (.own (.map (smap (x7 l s v)))) h Q E
 | .val (.ref a)=> ∃l s,h a=some (.cont (.map (smap l)))/\w= .str s/\l.length < sizeLine/\k (.val (.ref a)) (C4 h a (.cont (.map (smap (x7 l s v))))) Q E
 | _=> False
def A96 (mv:CW) (x:SV) (mk:CW) (k:SV->MC):MC:=mv λv=> mk λw=> l5 x w v k
def P3 (x:SV) (w v:W) (k:MC):MC:=λh Q E=> match x with
 | .val (.ref a)=> ∃l s,h a=some (.cont (.map (smap l)))/\w= .str s/\l.length < sizeLine/\k (C4 h a (.cont (.map (smap (x7 l s v))))) Q E
 | _=> False
def A9W (mv:CW) (m:CE) (mk:CW) (k:MC):MC:=mv λv=> m λx=> mk λw=> P3 x w v k
def A0u (x:SV) (w:W) (k:MC):MC:=λh Q E=> match x with
 | .val (.ref a)=> ∃l s,h a=some (.cont (.map (smap l)))/\w= .str s/\(l.lookup s).isSome=true/\k (C4 h a (.cont (.map (smap (A4Z l s))))) Q E
 | _=> False
def A9w (m:CE) (mk:CW) (k:MC):MC:=m λx=> mk λw=> A0u x w k
def A8j:CE:=λk=> k (.own (.map (smap [])))
def m5 (x:SV) (k:(AH->Prop)->List W->MC):MC:=λh Q E=> match x with
 | .val (.ref a)=> ∃ws,h a=some (.cont (.seq ws))/\k (λg=> g a=some (.cont (.seq ws))) ws h Q E
 | .val (.lst ws)=> k (λ_=> True) ws h Q E
 | .val (.tup ws)=> k (λ_=> True) ws h Q E
 | _=> False
abbrev Q1:=((AH->Prop)->List W->MC)->MC
def A9a (m:CE):Q1:=λk=> m λx=> m5 x k
def B0v (m:CE):Q1:=λk=> m λx=> m5 x λok ws=> k ok (b8 ws)
def B0Q (m:A7):Q1:=λk=> m λws=> k (λ_=> True) ws
def l0 (ok:AH->Prop) (m:MC):MC:=λh Q E=> ok h/\m h Q E
def A2D {σ:Type} (ok:AH->Prop) (body:W->σ->(σ->MC)->(σ->MC)->MC) (k:σ->MC):List W->σ->MC
 | [],s=> l0 ok (k s)
 | w::ws,s=> l0 ok (body w s (A2D ok body k ws) k)
def A9C {σ:Type} (mi:Q1) (s0:σ) (body:W->σ->(σ->MC)->(σ->MC)->MC) (k:σ->MC):MC:=mi λok ws=> A2D ok body k ws s0
def m6 (ok:AH->Prop) (body:W->(Option W->MC)->MC) (k:List W->MC):List W->List W->MC
 | [],acc=> l0 ok (k acc)
 | w::ws,acc=> l0 ok (body w λo=> match o with
  | some y=> C0 (acc.length < sizeLine) (m6 ok body k ws (acc++[y]))
  | none=> m6 ok body k ws acc)
def B0l (mi:Q1) (body:W->(Option W->MC)->MC):CE:=λk=> mi λok ws=> m6 ok body (λacc=> k (.own (.seq acc))) ws []
def A2K (ok:AH->Prop) (body:W->List W->(List W->MC)->MC) (k:List W->MC):List W->List W->MC
 | [],acc=> l0 ok (k acc)
 | w::ws,acc=> l0 ok (body w acc (A2K ok body k ws))
def B0T (mi:Q1) (body:W->List W->(List W->MC)->MC):CE:=λk=> mi λok ws=> A2K ok body (λacc=> k (.own (.seq acc))) ws []
def B0N (mt:CB) (mi:Q1) (body:W->(Option W->MC)->MC) (acc:List W) (kk:List W->MC):MC:=mt λb=> if b=true then mi λok ws=> m6 ok body kk ws acc else kk acc
def dcM (mv:W->W->CW) (K:List (Str×W)->Prop) (Q:RR->AH->Prop) (E:AExc->AH->Prop):List (Str×W)->List (Str×W)->Prop
 | [],acc=> W.nodcts (acc.map (·.2))=true/\K acc
 | p::r,acc=> mv (.str p.1) p.2 (λu=> λ_ _ _=> acc.length < sizeLine/\dcM mv K Q E r (x7 acc p.1 u)) (λ_=> none) Q E
def dcX (n f:Str) (x:SV) (mv:W->W->CW) (k:SV->MC):MC:=λh Q E=> match x with
 | .val (.ref s)=> ∃fs q l,h s=some (.ins n fs)/\fs.lookup f=some (.ref q)/\h q=some (.cont (.map (smap l)))/\dcM mv (λacc=> k (.own (.map (smap acc))) h Q E) Q E l []
 | _=> False
def B01 (n f:Str) (x:SV) (mv:W->W->CW):CE:=λk=> dcX n f x mv k
def A5L (x:SV) (k:Str->MC):MC:=λh Q E=> way (C6 h x) λy=> k y h Q E
def B03 (m:CE):CE:=λk=> m λx=> A5L x λy=> k (.val (.str y))
def y6 (x:SV) (k:Str->MC):MC:=λh Q E=> match x with
 | .val (.str y)=> k y h Q E
 | _=> False
def n7:List CE->Str->(Str->MC)->MC
 | [],acc,k=> k acc
 | m::ms,acc,k=> m λx=> y6 x λy=> C0 ((acc++y).length<=sizeLine) (n7 ms (acc++y) k)
def A7p (ms:List CE):CE:=λk=> n7 ms Str.empty λs=> k (.val (.str s))
section
variable {Q:RR->AH->Prop} {E:AExc->AH->Prop} {env:A0} {t t1 t2:AT} {m m1 m2:CE} {tv tv2:A6} {mv mv2:CW} {ta tk:B8} {ma mk:A7} {tb:C2} {mb:CB} {D:AEnds} {i j:Nat}
end
def A5C (f:K4) (x:SV) (ma:A7) (k:SV->MC):MC:=λh Q E=> match x with
 | .val (.ref p)=> (∃xs,h p=some (.cont (.seq xs)))/\(ma λws=> λh2 Q E=> match h2 p with
  | some (.cont (.seq xs))=> f xs ws λxs' w=> k (.val w) (C4 h2 p (.cont (.seq xs'))) Q E
  | _=> False) h Q E
 | _=> False
def B06 (f:K4) (m:CE) (ma:A7):CE:=λk=> m λx=> A5C f x ma k
section
variable {Q:RR->AH->Prop} {E:AExc->AH->Prop} {env:A0} {t t1 t2:AT} {m m1 m2:CE} {tv tv2:A6} {mv mv2:CW} {ta tk:B8} {ma mk:A7} {tb:C2} {mb:CB} {D:AEnds} {i j:Nat} {ti:P9} {mi:Q1}
inductive SJ (Q:RR->AH->Prop) (E:AExc->AH->Prop) (env:A0):List AT->List CE->Prop where
 | nil:SJ Q E env [] []
 | cons {t:AT} {m:CE} {ts:List AT} {ms:List CE} (a:SE Q E env t m) (r:SJ Q E env ts ms):SJ Q E env (t::ts) (m::ms)
end
theorem A7Y:O3 oMulX:=oMulX.mono
def A81 (m:CE):A7:=λk=> m λx=> y6 x λs=> k (A41 s)
def A9x (mv:CW) (m1:CE) (mk1:CW) (m2:CE) (mk2:CW) (k:MC):MC:=mv λw=> un2 w λa b=> m1 λx=> mk1 λw1=> P3 x w1 a (m2 λy=> mk2 λw2=> P3 y w2 b k)
def un4 (w:W) (k:W->W->W->W->MC):MC:=match w with
 | .tup [a,b,c,d]=> k a b c d
 | _=> bad
section
variable {Q:RR->AH->Prop} {E:AExc->AH->Prop} {env:A0} {t t1 t2:AT} {m m1 m2:CE} {tv tv2 tk1 tk2:A6} {mv mv2 mk1 mk2:CW} {D:AEnds} {i j:Nat}
end
section
variable {Q:RR->AH->Prop} {E:AExc->AH->Prop} {h:AH}
@[simp] theorem B29 {a b c d:W} {k:W->W->W->W->MC}:un4 (.tup [a,b,c,d]) k=k a b c d:=rfl
@[simp] theorem B2m {s:Str} {k:Str->MC}:y6 (.val (.str s)) k=k s:=rfl
@[simp] theorem B2G {m:CE} {k:List W->MC}:A81 m k=m λx=> y6 x λs=> k (A41 s):=rfl
@[simp] theorem B3S {mv:CW} {m1 m2:CE} {mk1 mk2:CW} {k:MC}:A9x mv m1 mk1 m2 mk2 k=mv λw=> un2 w λa b=> m1 λx=> mk1 λw1=> P3 x w1 a (m2 λy=> mk2 λw2=> P3 y w2 b k):=rfl
@[simp] theorem B5I {n f:Str} {m:CE} {k:SV->MC}:B0Y n f m k=m λx=> A4u n f x k:=rfl
@[simp] theorem B3h {n f:Str} {mv:CW} {m:CE} {k:MC}:A9t n f mv m k=mv λw=> m λx=> b6 n f x w k:=rfl
@[simp] theorem B3z {n f:Str} {mv:CW} {m:W->CE} {k:W->MC}:B0V n f mv m k=mv λw=> un2 w λa b=> m a λx=> b6 n f x b (k a):=rfl
@[simp] theorem B40 {n f n2 g:Str} {mv:CW} {m m2:CE} {k:MC}:ffC n f n2 g mv m m2 k=mv λw=> un2 w λa b=> m λx=> b6 n f x a (m2 λy=> b6 n2 g y b k):=rfl
@[simp] theorem B4S {C nm:Str} {f:List W->MC} {mo:CE} {ma:A7} {k:SV->MC}:A9U C nm f mo ma k=mo λx=> b9 C nm x λa=> ma λws=> call (f (.ref a::ws)) k:=rfl
@[simp] theorem B2b {C nm:Str} {f:List W->MC} {mo:CE} {ma:A7} {k:SV->MC}:A9A C nm f mo ma k=mo λx=> b9 C nm x λa=> ma λws=> call0 (f (.ref a::ws)) k:=rfl
@[simp] theorem B2c {C nm:Str} {f:List W->MC} {n0 m0:Nat} {P:List Nat} {ds:List W} {mo:CE} {ma mk:A7} {k:SV->MC}:A8b C nm f n0 m0 P ds mo ma mk k=mo λx=> b9 C nm x λa=> ma λws=> mk λzs=> mxW (n0+1) m0 P ds (.ref a::ws) zs λvs=> call (f vs) k:=rfl
@[simp] theorem B14 {C nm:Str} {f:List W->MC} {n0 m0:Nat} {P:List Nat} {ds:List W} {mo:CE} {ma mk:A7} {k:SV->MC}:A7e C nm f n0 m0 P ds mo ma mk k=mo λx=> b9 C nm x λa=> ma λws=> mk λzs=> mxW (n0+1) m0 P ds (.ref a::ws) zs λvs=> call0 (f vs) k:=rfl
@[simp] theorem B3v {C:Str} {f:List W->MC} {ma:A7} {k:SV->MC}:B0K C f ma k=ma λws=> mkX C (λa=> f (.ref a::ws)) k:=rfl
@[simp] theorem B2n {C:Str} {f:List W->MC} {ma:A7} {k:SV->MC}:A8P C f ma k=ma λws=> A0w C (λa=> f (.ref a::ws)) k:=rfl
@[simp] theorem B2g {C:Str} {f:List W->MC} {n0 m0:Nat} {P:List Nat} {ds:List W} {ma mk:A7} {k:SV->MC}:A8g C f n0 m0 P ds ma mk k=ma λws=> mk λzs=> C0 (ws.length=n0/\zs.length=m0) (mkX C (λa=> f (P.map λi=> ((.ref a::ws)++(zs++ds)).getD i .non)) k):=rfl
@[simp] theorem B2U {C:Str} {f:List W->MC} {n0 m0:Nat} {P:List Nat} {ds:List W} {ma mk:A7} {k:SV->MC}:A7Z C f n0 m0 P ds ma mk k=ma λws=> mk λzs=> C0 (ws.length=n0/\zs.length=m0) (A0w C (λa=> f (P.map λi=> ((.ref a::ws)++(zs++ds)).getD i .non)) k):=rfl
@[simp] theorem B4n {C:Str} {f:List W->MC} {po:RR->(RV->Prop)->Prop} {m:CE} {k:SV->MC}:B0j C f po m k=m λx=> A48 C f po x k:=rfl
@[simp] theorem B5N {C:Str} {neg:Bool} {f:List W->MC} {m m2:CE} {k:SV->MC}:B0d C neg f m m2 k=m λx=> m2 λy=> eqX C neg f x y k:=rfl
@[simp] theorem B47 {n:Str} {b:Bool} {m:CE} {k:SV->MC}:B0W n b m k=m λx=> v7 n b x k:=rfl
@[simp] theorem B45 {neg:Bool} {mk:CW} {m:CE} {k:SV->MC}:B05 neg mk m k=mk λw=> m λx=> inX neg w x k:=rfl
@[simp] theorem B4N {m:CE} {mk:CW} {k:SV->MC}:A9l m mk k=m λx=> mk λw=> A4J x w k:=rfl
@[simp] theorem B3L {mv:CW} {x:SV} {mk:CW} {k:SV->MC}:A96 mv x mk k=mv λv=> mk λw=> l5 x w v k:=rfl
@[simp] theorem B27 {mv:CW} {m:CE} {mk:CW} {k:MC}:A9W mv m mk k=mv λv=> m λx=> mk λw=> P3 x w v k:=rfl
@[simp] theorem B2x {m:CE} {mk:CW} {k:MC}:A9w m mk k=m λx=> mk λw=> A0u x w k:=rfl
@[simp] theorem B3i {k:SV->MC}:A8j k=k (.own (.map (smap []))):=rfl
@[simp] theorem B2s {m:CE} {k:(AH->Prop)->List W->MC}:A9a m k=m λx=> m5 x k:=rfl
@[simp] theorem B4X {m:CE} {k:(AH->Prop)->List W->MC}:B0v m k=m λx=> m5 x λok ws=> k ok (b8 ws):=rfl
@[simp] theorem B4G {m:A7} {k:(AH->Prop)->List W->MC}:B0Q m k=m λws=> k (λ_=> True) ws:=rfl
@[simp] theorem B3D {σ:Type} {mi:Q1} {s0:σ} {body:W->σ->(σ->MC)->(σ->MC)->MC} {k:σ->MC}:A9C mi s0 body k=mi λok ws=> A2D ok body k ws s0:=rfl
@[simp] theorem B5B {mi:Q1} {body:W->(Option W->MC)->MC} {k:SV->MC}:B0l mi body k=mi λok ws=> m6 ok body (λacc=> k (.own (.seq acc))) ws []:=rfl
@[simp] theorem B48 {mi:Q1} {body:W->List W->(List W->MC)->MC} {k:SV->MC}:B0T mi body k=mi λok ws=> A2K ok body (λacc=> k (.own (.seq acc))) ws []:=rfl
@[simp] theorem B4d {mt:CB} {mi:Q1} {body:W->(Option W->MC)->MC} {acc:List W} {kk:List W->MC}:B0N mt mi body acc kk=mt λb=> if b=true then mi λok ws=> m6 ok body kk ws acc else kk acc:=rfl
@[simp] theorem B42 {m:CE} {k:SV->MC}:B03 m k=m λx=> A5L x λy=> k (.val (.str y)):=rfl
@[simp] theorem B2W {ms:List CE} {k:SV->MC}:A7p ms k=n7 ms Str.empty λs=> k (.val (.str s)):=rfl
@[simp] theorem B3T {acc:Str} {k:Str->MC}:n7 [] acc k=k acc:=rfl
@[simp] theorem B2R {m:CE} {ms:List CE} {acc:Str} {k:Str->MC}:n7 (m::ms) acc k=m λx=> y6 x λy=> C0 ((acc++y).length<=sizeLine) (n7 ms (acc++y) k):=rfl
@[simp] theorem B4p {f:K4} {m:CE} {ma:A7} {k:SV->MC}:B06 f m ma k=m λx=> A5C f x ma k:=rfl
@[simp] theorem B5J {n f:Str} {x:SV} {mv:W->W->CW} {k:SV->MC}:B01 n f x mv k=dcX n f x mv k:=rfl
@[simp] theorem B30 {m:CE} {k:W->MC}:A5F m k=m λx=> w6 x k:=rfl
@[simp] theorem B26 {ws:List W} {k:(AH->Prop)->List W->MC}:m5 (.val (.lst ws)) k=k (λ_=> True) ws:=rfl
@[simp] theorem B2o {ws:List W} {k:(AH->Prop)->List W->MC}:m5 (.val (.tup ws)) k=k (λ_=> True) ws:=rfl
end
section
variable {Q:RR->AH->Prop} {E:AExc->AH->Prop} {h:AH} {a:Addr} {n f C nm:Str} {fs:List (Str×W)} {w u v:W} {l:List (Str×W)} {s:Str} {ws:List W}
theorem A7g {x:Str} {j:Int} {k:SV->MC}:B7 oMulX (.val (.str x)) (.val (.int j)) k=C0 (0<=j/\j<=1000/\x.length<=1000) (k (.val (.str (X0 x j)))):=rfl
end
def A2V (xs:List SV) (k:List W->MC):MC:=match xs with
 | [x,y,z]=> F6 x λi=> F6 y λj=> F6 z λc=> C0 (c= -1/\ -(2 ^ 62)<=i/\i < 2 ^ 62/\ -(2 ^ 62)<=j/\j < 2 ^ 62) (k (A5B i (i - j).toNat))
 | _=> bad
def A94 (a:CS):A7:=λk=> a λxs=> A2V xs k
section
variable {Q:RR->AH->Prop} {E:AExc->AH->Prop} {env:A0} {tr:J0} {mr:CS}
@[simp] theorem B3l {a:CS} {k:List W->MC}:A94 a k=a λw=> A2V w k:=rfl
@[simp] theorem B18 {i j:Int} {k:List W->MC}:A2V [.val (.int i),.val (.int j),.val (.int (-1))] k=C0 (-(2 ^ 62)<=i/\i < 2 ^ 62/\ -(2 ^ 62)<=j/\j < 2 ^ 62) (k (A5B i (i - j).toNat)):=by
 funext h Q E
 exact propext ⟨λ⟨a,z⟩=> ⟨a.2,z⟩,λ⟨a,z⟩=> ⟨⟨rfl,a⟩,z⟩⟩
end
section
variable {Q:RR->AH->Prop} {E:AExc->AH->Prop} {h:AH} {l:List (Str×W)} {s:Str} {u w:W}
end
def A4t (x:SV) (w:W) (k:SV->MC):MC:=λh Q E=> match x with
 | .own (.map kvs)=> ∃l s,kvs=smap l/\w= .str s/\(l.lookup s).isSome=true/\k (.own (.map (smap (A4Z l s)))) h Q E
 | _=> False
def A9H (x:SV) (mk:CW) (k:SV->MC):MC:=λh Q E=> (∃l,x= .own (.map (smap l)))/\mk (λw=> A4t x w k) h Q E
def itK (w:W) (k:List W->MC):MC:=λh Q E=> ∃l,w=N7 l/\k (l.map λp=> W.str p.1) h Q E
def B0t (a:CW):A7:=λk=> a λw=> itK w k
def A18 (x y:SV) (k:SV->SV->MC):MC:=match x,y with
 | .own c,.own d=> k (.own c) (.own d)
 | _,_=> bad
def A9r (a b:CE) (k:SV->SV->MC):MC:=a λx=> b λy=> A18 x y k
def A95 (mv:CW) (x:SV) (mk1:CW) (y:SV) (mk2:SV->CW) (k:SV->SV->MC):MC:=mv λw=> un2 w λa b=> mk1 λw1=> l5 x w1 a λx'=> mk2 x' λw2=> l5 y w2 b λy'=> k x' y'
def A9b (mv:CW) (m1:CE) (mk1:CW) (m2:CE) (mk2:CW) (m3:CE) (mk3:CW) (k:MC):MC:=mv λw=> un3 w λa b c=> m1 λx=> mk1 λw1=> P3 x w1 a (m2 λy=> mk2 λw2=> P3 y w2 b (m3 λz=> mk3 λw3=> P3 z w3 c k))
section
variable {Q:RR->AH->Prop} {E:AExc->AH->Prop} {env:A0} {t t1 t2 t3 ta tb:AT} {m m1 m2 m3 ma mb:CE} {tv tv2 tk1 tk2 tk3:A6} {mv mv2 mk1 mk2 mk3:CW} {D:AEnds} {i j:Nat}
@[simp] theorem B3e {l:List (Str×W)} {mk:CW} {k:SV->MC}:A9H (.own (.map (smap l))) mk k=mk λw=> A4t (.own (.map (smap l))) w k:=by
 funext h Q E
 exact propext ⟨λz=> z.2,λz=> ⟨⟨l,rfl⟩,z⟩⟩
@[simp] theorem B4Z {a:CW} {k:List W->MC}:B0t a k=a λw=> itK w k:=rfl
@[simp] theorem B3F {a b:CE} {k:SV->SV->MC}:A9r a b k=a λx=> b λy=> A18 x y k:=rfl
@[simp] theorem B1x {c d:Cont} {k:SV->SV->MC}:A18 (.own c) (.own d) k=k (.own c) (.own d):=rfl
@[simp] theorem B3O {mv:CW} {x:SV} {mk1:CW} {y:SV} {mk2:SV->CW} {k:SV->SV->MC}:A95 mv x mk1 y mk2 k=mv λw=> un2 w λa b=> mk1 λw1=> l5 x w1 a λx'=> mk2 x' λw2=> l5 y w2 b λy'=> k x' y':=rfl
@[simp] theorem B2e {mv:CW} {m1:CE} {mk1:CW} {m2:CE} {mk2:CW} {m3:CE} {mk3:CW} {k:MC}:A9b mv m1 mk1 m2 mk2 m3 mk3 k=mv λw=> un3 w λa b c=> m1 λx=> mk1 λw1=> P3 x w1 a (m2 λy=> mk2 λw2=> P3 y w2 b (m3 λz=> mk3 λw3=> P3 z w3 c k)):=rfl
end
@[simp] theorem B1w {xs:List W} {i:Int} {w:W} {k1:SV->W->MC}:lm A7F (.own (.seq xs)) [.int i,w] k1=C0 (xs.length < sizeLine/\0<=i/\i < 2 ^ 63) (k1 (.own (.seq (xs.take i.toNat++[w]++xs.drop i.toNat))) .non):=by
 funext h Q E
 exact propext ⟨λ⟨a,b,c,z⟩=> ⟨⟨a,b,c⟩,z⟩,λ⟨⟨a,b,c⟩,z⟩=> ⟨a,b,c,z⟩⟩
@[simp] theorem B1p {xs:List W} {k1:SV->W->MC}:lm A68 (.own (.seq xs)) [] k1=k1 (.own (.seq xs.reverse)) .non:=rfl
@[simp] theorem B1y {xs:List W} {k1:SV->W->MC}:lm A8D (.own (.seq xs)) [] k1=k1 (.own (.seq [])) .non:=rfl
def A45 (x:SV) (k:MC):MC:=λh Q E=> isM (C6 h x)/\k h Q E
def A3n (x:SV) (w d:W) (k:SV->MC):MC:=λh Q E=> A4Q (C6 h x) w d λr=> O2 k r h Q E
def A8Q (m:CE) (mk md:CW):CE:=λk=> m λx=> A45 x (mk λw=> md λd=> A3n x w d k)
section
variable {Q:RR->AH->Prop} {E:AExc->AH->Prop} {env:A0} {t:AT} {m:CE} {tv tv2:A6} {mv mv2:CW}
end
@[simp] theorem B3Y {m:CE} {mk md:CW} {k:SV->MC}:A8Q m mk md k=m λx=> A45 x (mk λw=> md λd=> A3n x w d k):=rfl
section
variable {h:AH} {Q:RR->AH->Prop} {E:AExc->AH->Prop} {a:Addr} {l:List (Str×W)} {s:Str}
end
def A5I (x:SV) (k:MC):MC:=λh Q E=> match x with
 | .val (.ref a)=> (∃l,h a=some (.cont (.map (smap l))))/\k h Q E
 | _=> False
def B0a (m:CE) (mk:CW) (k:MC):MC:=m λx=> A5I x (mk λw=> A0u x w k)
section
variable {Q:RR->AH->Prop} {E:AExc->AH->Prop} {env:A0} {D:AEnds} {t:AT} {m:CE} {tv:A6} {mv:CW}
end
@[simp] theorem B3x {m:CE} {mk:CW} {k:MC}:B0a m mk k=m λx=> A5I x (mk λw=> A0u x w k):=rfl
@[simp] theorem B2u {i:Int} {k:SV->MC}:cb A4S [.val (.int i)] k=C0 (i.natAbs.log2 < 1920) (k (.val (.str (toString i)))):=rfl
@[simp] theorem B2z {x:Str} {k:SV->MC}:cb A4S [.val (.str x)] k=k (.val (.str x)):=rfl
def v5 (x:SV) (k:MC):MC:=λh Q E=> (∃s,C6 h x= .wv (.str s))/\k h Q E
def A4V (x y:SV) (k:SV->MC):MC:=λh Q E=> ∃(s:Str) (ys:List Str),C6 h x= .wv (.str s)/\(C6 h y).items=some (ys.map W.str)/\(ys.map (·.length)).sum+ys.length*s.length<=16777216/\k (.val (.str (Txt.join s ys))) h Q E
def B0F (m me:CE):CE:=λk=> m λx=> v5 x (me λy=> A4V x y k)
section
variable {Q:RR->AH->Prop} {E:AExc->AH->Prop} {env:A0} {t te:AT} {m me:CE}
end
@[simp] theorem B4H {m me:CE} {k:SV->MC}:B0F m me k=m λx=> v5 x (me λy=> A4V x y k):=rfl
@[simp] theorem B2Y {s:Str} {k:MC}:v5 (.val (.str s)) k=k:=by
 funext h Q E
 exact propext ⟨λz=> z.2,λz=> ⟨⟨s,rfl⟩,z⟩⟩
def eM1 (o:C7) (m me:CE):CE:=λk=> m λx=> v5 x (me λy=> cb o [x,y] k)
def A9u (neg:Bool) (tab:List (Str×Int)) (mk:CW):CE:=λk=> mk λw=> λh Q E=> ∃s,w= .str s/\k (.val (.bl (if neg=true then !(N6 tab s).isSome else (N6 tab s).isSome))) h Q E
def B0D (tab:List (Str×Int)) (mk:CW):CE:=λk=> mk λw=> λh Q E=> ∃s i,w= .str s/\N6 tab s=some i/\k (.val (.int i)) h Q E
section
variable {Q:RR->AH->Prop} {E:AExc->AH->Prop} {env:A0} {t te:AT} {m me:CE} {tv:A6} {mv:CW}
end
def A4R (neg:Bool) (tab:List (Str×Int)) (w:W) (k:SV->MC):MC:=λh Q E=> ∃s,w= .str s/\k (.val (.bl (if neg=true then !(N6 tab s).isSome else (N6 tab s).isSome))) h Q E
def A9f (tab:List (Str×Int)) (w:W) (k:SV->MC):MC:=λh Q E=> ∃s i,w= .str s/\N6 tab s=some i/\k (.val (.int i)) h Q E
@[simp] theorem B5R {o:C7} {m me:CE} {k:SV->MC}:eM1 o m me k=m λx=> v5 x (me λy=> cb o [x,y] k):=rfl
@[simp] theorem B4g {neg:Bool} {tab:List (Str×Int)} {mk:CW} {k:SV->MC}:A9u neg tab mk k=mk λw=> A4R neg tab w k:=rfl
@[simp] theorem B3s {tab:List (Str×Int)} {mk:CW} {k:SV->MC}:B0D tab mk k=mk λw=> A9f tab w k:=rfl
@[simp] theorem B4P {neg:Bool} {tab:List (Str×Int)} {s:Str} {k:SV->MC}:A4R neg tab (.str s) k=k (.val (.bl (if neg=true then !(N6 tab s).isSome else (N6 tab s).isSome))):=by
 funext h Q E
 exact propext ⟨λ⟨s',e,z⟩=> by injection e with e;subst e;exact z,λz=> ⟨s,rfl,z⟩⟩
@[simp] theorem B3X {a b:Str} {k:SV->MC}:cb A8V [.val (.str a),.val (.str b)] k=C0 ((b.length==0)=false/\a.length+2<=sizeLine) (k (.own (.seq ((Txt.split a b).map W.str)))):=by
 funext h Q E
 exact propext ⟨λ⟨a,b,z⟩=> ⟨⟨a,b⟩,z⟩,λ⟨⟨a,b⟩,z⟩=> ⟨a,b,z⟩⟩
@[simp] theorem B32 {b:Bool} {k:SV->MC}:cb B0B [.val (.bl b)] k=k (.val (.int (if b then 1 else 0))):=rfl
def A46 (C:Str) (neg:Bool) (f:List W->MC) (x:SV) (w:W) (k:SV->MC):MC:=λh Q E=> match x with
 | .val (.ref a)=> (∃fs,h a=some (.ins C fs))/\A4C w/\f [.ref a,w] h (λr h2=> ∃c:Bool,r= .val (.bl c)/\k (.val (.bl (if neg=true then !c else c))) h2 Q E) λ_ _=> False
 | _=> False
def B0g (C:Str) (neg:Bool) (f:List W->MC) (m:CE) (mv:CW):CE:=λk=> m λx=> mv λw=> A46 C neg f x w k
section
variable {Q:RR->AH->Prop} {E:AExc->AH->Prop} {env:A0} {t:AT} {m:CE} {tv:A6} {mv:CW}
end
@[simp] theorem B4z {C:Str} {neg:Bool} {f:List W->MC} {m:CE} {mv:CW} {k:SV->MC}:B0g C neg f m mv k=m λx=> mv λw=> A46 C neg f x w k:=rfl
@[simp] theorem B17 {n:Str} {b:Bool} {ws:List W} {k:SV->MC}:v7 n b (.val (.lst ws)) k=k (.val (.bl false)):=rfl
@[simp] theorem B13 {n:Str} {b:Bool} {ws:List W} {k:SV->MC}:v7 n b (.val (.tup ws)) k=k (.val (.bl false)):=rfl
@[simp] theorem B2N {n:Str} {b:Bool} {x:Str} {k:SV->MC}:v7 n b (.val (.str x)) k=k (.val (.bl false)):=rfl
def scL (body:W->(Option W->MC)->MC) (k:List (List Int)->MC):List W->List (List Int)->MC
 | [],acc=> λh Q E=> ∃d,1<=d/\A8z d acc/\k acc h Q E
 | w::ws,acc=> body w λo=> match o with
  | some y=> λh Q E=> ∃n:List Int,y= .tup (n.map .int)/\Few acc/\scL body k ws (acc++[n]) h Q E
  | none=> scL body k ws acc
def B0U (it:A7) (body:W->(Option W->MC)->MC):CE:=λk=> it λws=> scL body (λacc=> k (.own (.seq ((A2H acc).map λn=> .tup (n.map .int))))) ws []
@[simp] theorem B5C {it:A7} {body:W->(Option W->MC)->MC} {k:SV->MC}:B0U it body k=it λws=> scL body (λacc=> k (.own (.seq ((A2H acc).map λn=> .tup (n.map .int))))) ws []:=rfl
section
variable {Q:RR->AH->Prop} {E:AExc->AH->Prop} {env:A0} {ti:I5} {mi:A7} {tb:C2} {tv:A6}
end
open PySem.SeqAt in
open PySem.SeqAt in
def A4w (k:List Int):W:= .tup (k.map .int)
theorem waa.perm {K:PySem.W.Frag} {H:Hp} {xs ys:List V} (p:xs.Perm ys):∀{ks:List (List Int)},waa K H (ks.map A4w) xs->∃ks':List (List Int),ks'.Perm ks/\waa K H (ks'.map A4w) ys:=by
 induction p with
 | nil=>
  intro ks r
  cases ks with
  | nil=> exact ⟨[],.refl _,.nil⟩
  | cons a ks=> obtain ⟨v,t,e,_⟩:=r.of_cons;cases e
 | cons x p ih=>
  intro ks r
  cases ks with
  | nil=> have:=r.of_nil;cases this
  | cons a ks=>
   obtain ⟨v,t,e,r1,r2⟩:=r.of_cons
   cases e
   obtain ⟨ks',p',r'⟩:=ih r2
   exact ⟨a::ks',p'.cons a,.cons r1 r'⟩
 | swap x y l=>
  intro ks r
  cases ks with
  | nil=> have:=r.of_nil;cases this
  | cons a ks=>
   obtain ⟨v,t,e,r1,r2⟩:=r.of_cons
   cases e
   cases ks with
   | nil=> have:=r2.of_nil;cases this
   | cons b ks=>
    obtain ⟨v,t,e,r3,r4⟩:=r2.of_cons
    cases e
    exact ⟨b::a::ks,.swap a b ks,.cons r3 (.cons r1 r4)⟩
 | trans p q ih1 ih2=>
  intro ks r
  obtain ⟨k1,p1,r1⟩:=ih1 r
  obtain ⟨k2,p2,r2⟩:=ih2 r1
  exact ⟨k2,p2.trans p1,r2⟩
abbrev K3:=List W->MC
abbrev CF:=(List K3->MC)->MC
abbrev AkM:=List W->CF
def A4b (c:CF) (k:List K3->MC):MC:=λh Q E=> c (λmls h' _ _=> k mls h' Q E) h (λ_ _=> False) λ_ _=> False
def eAk (m:AkM) (a:A7):CF:=λk=> a λws=> A4b (m ws) k
def A8q (a b:CF):CF:=λk=> a λxs=> b λys=> C0 (xs.length+ys.length<=sizeLine) (k (xs++ys))
def n4 (body:K3->CW) (k:List W->MC):List K3->List W->MC
 | [],acc=> k acc
 | m::ms,acc=> body m λy=> C0 (acc.length < sizeLine) (n4 body k ms (acc++[y]))
def B0P (ak:CF) (body:K3->CW):CE:=λk=> ak λms=> n4 body (λacc=> k (.own (.seq acc))) ms []
section
variable {Q:RR->AH->Prop} {E:AExc->AH->Prop} {env:A0} {h:AH}
@[simp] theorem B5T {m:AkM} {a:A7} {k:List K3->MC}:eAk m a k=a λws=> A4b (m ws) k:=rfl
@[simp] theorem B24 {a b:CF} {k:List K3->MC}:A8q a b k=a λxs=> b λys=> C0 (xs.length+ys.length<=sizeLine) (k (xs++ys)):=rfl
@[simp] theorem B5G {ak:CF} {body:K3->CW} {k:SV->MC}:B0P ak body k=ak λms=> n4 body (λacc=> k (.own (.seq acc))) ms []:=rfl
@[simp] theorem B3U {body:K3->CW} {k:List W->MC} {acc:List W}:n4 body k [] acc=k acc:=rfl
@[simp] theorem B15 {body:K3->CW} {k:List W->MC} {m:K3} {ms:List K3} {acc:List W}:n4 body k (m::ms) acc=body m λy=> C0 (acc.length < sizeLine) (n4 body k ms (acc++[y])):=rfl
def SF (Q:RR->AH->Prop) (E:AExc->AH->Prop) (env:A0) (t:m7) (m:CF):Prop:=∀h (k:List K3->MC) (K:List A5->A0->AH->Prop),(∀mls h',k mls h' Q E->K (mls.map upc) env h')->m k h Q E->t env h K
inductive LsOk (env:A0):List ((AExc->A0->AH->Prop)->AT)->List K3->Prop where
 | nil:LsOk env [] []
 | cons {t:(AExc->A0->AH->Prop)->AT} {ml:K3} {ts:List ((AExc->A0->AH->Prop)->AT)} {ms:List K3}:(∀ws h Q E,upc ml ws h Q E->A4i t env ws h Q E)->LsOk env ts ms->LsOk env (t::ts) (ml::ms)
theorem LsOk.imps {ts:List ((AExc->A0->AH->Prop)->AT)} {ms:List K3} (a:LsOk env ts ms):Imps (ts.map λt=> A4i t env) (ms.map upc):=by
 induction a with
 | nil=> exact .nil
 | cons i t ih=> exact .cons upc.m i ih
def A6P (m:Addr->List W->MC) (l:CL):CE:=λk=> l λf ws=> call0 (m f ws) k
@[simp] theorem B1v {m:Addr->List W->MC} {l:CL} {k:SV->MC}:A6P m l k=l λf ws=> call0 (m f ws) k:=rfl
end
section
variable {Q:RR->AH->Prop} {E:AExc->AH->Prop} {env:A0} {h:AH}
end
def orM (m n:MC):MC:=λh Q E=> m h Q E\/n h Q E
def B0f (m n:CE):CE:=λk=> orM (m k) (n k)
@[simp] theorem B49 {m n:CE} {k:SV->MC}:B0f m n k=orM (m k) (n k):=rfl
section
variable {Q:RR->AH->Prop} {E:AExc->AH->Prop} {env:A0}
end
def A4c (w:W) (k:SV->W->MC):MC:=λh Q E=> ∃r x,w= .lst (r++[x])/\k (.own (.seq r)) x h Q E
def A8n (mv:CW) (k:SV->W->MC):MC:=mv λw=> A4c w k
def A4x (n f:Str) (j:Int) (x:SV) (k:MC):MC:=λh Q E=> match x with
 | .val (.ref a)=> ∃fs i,h a=some (.ins n fs)/\fs.lookup f=some (.int i)/\fs.length < 1000/\k (C4 h a (.ins n (u9 f (.int (i+j)) fs))) Q E
 | _=> False
def A9X (n f:Str) (j:Int) (m:CE) (k:MC):MC:=m λx=> A4x n f j x k
@[simp] theorem B4t {a b:Str} {k:SV->MC}:cb B00 [.val (.str a),.val (.str b)] k=C0 ((b.length==0)=false/\a.length<=sizeLine) (k (.val (.tup [.str (Txt.partition a b).1,.str (Txt.partition a b).2.1,.str (Txt.partition a b).2.2]))):=by
 funext h Q E
 exact propext ⟨λ⟨a,b,z⟩=> ⟨⟨a,b⟩,z⟩,λ⟨⟨a,b⟩,z⟩=> ⟨a,b,z⟩⟩
@[simp] theorem B2L {mv:CW} {k:SV->W->MC}:A8n mv k=mv λw=> A4c w k:=rfl
@[simp] theorem B2t {n f:Str} {j:Int} {m:CE} {k:MC}:A9X n f j m k=m λx=> A4x n f j x k:=rfl
section
variable {Q:RR->AH->Prop} {E:AExc->AH->Prop} {env:A0} {t te:AT} {m me:CE} {tv:A6} {mv:CW} {D:AEnds} {i j:Nat} {h:AH} {a:Addr} {n f:Str} {fs:List (Str×W)}
inductive HSim (Q:RR->AH->Prop) (E:AExc->AH->Prop) (E':AExc->A0->AH->Prop) (env:A0):List (Str×MC)->n5->Prop where
 | nil:HSim Q E E' env [] []
 | cons {c:Str} {io:Option Nat} {u:MC} {uR:y9} {l:List (Str×MC)} {r:n5} (s:∀a h,u h Q E->match io with
   | some i=> uR a (λy e k=> E' y (e.set i none) k) A4z (env.set i (some (.val (.ref a)))) h
   | none=> uR a E' A4z env h) (t:HSim Q E E' env l r):HSim Q E E' env ((c,u)::l) ((c,io,uR)::r)
end
section
variable {Q:RR->AH->Prop} {E:AExc->AH->Prop} {env:A0} {t:AT} {m:CE}
end
inductive MK where
 | pl | dc | ow (C:Str) (f:List W->MC)
def MK.ek:MK->EK
 | .pl=> .pl
 | .dc=> .dc
 | .ow C f=> .ow C (upc f)
section
variable {Q:RR->AH->Prop} {E:AExc->AH->Prop} {env:A0} {ta tb:AT} {ma mb:CE} {neg:Bool}
end
section
variable {X:Cx} {j k:Nat} {C:Str} {f:List W->MC} {st:Stmt} {ps:List Str} {ms:List MK}
end
def S8 (x word:Str) (fs:List Str) (a:A7):CE:=λk=> a λws=> k (.val (C1 x word fs ws))
def P8 (ks:List Str) (n:Str) (x:SV) (k:SV->MC):MC:=λh Q E=> ∃C ns ws w,C6 h x= .wv (.exc C ns ws)/\(ns.zip ws).lookup n=some w/\C∈ks/\k (.val w) h Q E
def T2 (ks:List Str) (n:Str) (m:CE):CE:=λk=> m λx=> P8 ks n x k
def A2R (ks:List Str) (f:Str->Bool) (x:SV) (k:SV->MC):MC:=λh Q E=> ∃C ns ws,C6 h x= .wv (.exc C ns ws)/\C∈ks/\k (.val (.bl (f C))) h Q E
def N9 (ks:List Str) (f:Str->Bool) (m:CE):CE:=λk=> m λx=> A2R ks f x k
section
variable {Q:RR->AH->Prop} {E:AExc->AH->Prop} {env:A0} {t:AT} {ta:B8} {m:CE} {ma:A7} {x word n:Str} {fs ks:List Str} {f:Str->Bool}
theorem Y2 (a:SA Q E env ta ma):SN Q E env (P4 x word fs ta) (S8 x word fs ma):=λh k K hk z=> a h _ _ (λws h1 z=> hk (.val _) _ z) z
theorem Z0 (a:SE Q E env t m):SN Q E env (T1 ks n t) (T2 ks n m):=λh k K hk z=> a h _ _ (λr x h1 rl ⟨C,ns,ws,w,z1,z2,z3,z⟩=> ⟨C,ns,ws,w,(Q2 rl).trans z1,z2,z3,hk (.val _) _ z⟩) z
theorem R0 (a:SE Q E env t m):SN Q E env (M9 ks f t) (N9 ks f m):=λh k K hk z=> a h _ _ (λr x h1 rl ⟨C,ns,ws,z1,z3,z⟩=> ⟨C,ns,ws,(Q2 rl).trans z1,z3,hk (.val _) _ z⟩) z
variable {k:SV->MC} {h:AH} {C:Str} {ns:List Str} {ws:List W} {w:W}
end
inductive Dd where
 | swap (i j:Nat) | tap (n:Int) (c:Nat) | drain (n:Int) (c:Nat) | over (n:Int) (cs:List Nat) | down (n:Int) (cs:List Nat)
abbrev L1 (c:Nat):W:= .int (c:Int)
def Dd.w:Dd->W
 | .swap i j=> .tup [.str "swap",L1 i,L1 j]
 | .tap n c=> .tup [.str "tap",.int n,L1 c]
 | .drain n c=> .tup [.str "drain",.int n,L1 c]
 | .over n cs=> .tup (.str "over":: .int n::cs.map L1)
 | .down n cs=> .tup (.str "down":: .int n::cs.map L1)
def A5D (ss:List Int) (cs:List Nat):Prop:=2<=cs.length/\cs.length<=ss.length/\cs.Nodup/\∀c∈cs,c < ss.length
def A0k:Int:=1000000000000000000000000000000
def Dd.ok (ss:List Int):Dd->Prop
 | .swap i j=> i < ss.length/\j < ss.length/\i≠j/\ss[i]? =ss[j]?
 | .tap n c=> 0<=n/\n < A0k/\c < ss.length
 | .drain n c=> 0<=n/\n < A0k/\c < ss.length
 | .over n cs=> 0<=n/\n < A0k/\A5D ss cs
 | .down n cs=> 0<=n/\n < A0k/\A5D ss cs
theorem A3D (n:Nat):I8 0 n=(List.range n).map L1:=A7i
def Dd.word:Dd->Str
 | .swap _ _=> "swap"
 | .tap _ _=> "tap"
 | .drain _ _=> "drain"
 | .over _ _=> "over"
 | .down _ _=> "down"
def Dd.rest:Dd->List W
 | .swap i j=> [L1 i,L1 j]
 | .tap n c=> [.int n,L1 c]
 | .drain n c=> [.int n,L1 c]
 | .over n cs=> .int n::cs.map L1
 | .down n cs=> .int n::cs.map L1
def o3 (yab:W):MC:=
 ((K8 (A9 (A2 (I4 L9 (D3 (eSl (eV (.val yab)) oNo (A10 (eC (.int 63)))) F8))) (A9 (A2 (eC (.int 0))) (A9 (A2 (eC (.int 0))) (A9 (A2 (eC (.int 9465))) (A9 (A2 (eC (.int 0))) D5)))))) ret)
def o6:List W->MC
 | [yab]=> o3 yab
 | _=> bad
def o4 (yaa yad:W):MC:=
 (join (λ(s1:SV)=> (N0 (K9 (A3 g9 (A3 oIx (eV s1) (eC (.int 2))) (eV (.val yad)))) ((A2 (A3 F3 (A3 oIx (eV s1) (eC (.int 2))) (eV (.val yad)))) λyam=> (P5 (A2 (A3 a9 (A3 oIx (eV s1) (eC (.int 2))) (eV (.val yad)))) s1 (eC (.int 2)) λyaa=> ((eV (.val yam)) ret))) (P5 (A2 (A3 oAdd (A3 oIx (eV s1) (eC (.int 4))) (eC (.int 1)))) s1 (eC (.int 4)) λyaa=> ((A2 (A3 oIx (eV yaa) (eC (.int 3)))) λyak=> (P5 (A2 (A3 F3 (A3 oAdd (A3 oAdd (A3 oAdd (A3 oMulT (A3 F3 (A3 oMulT (eV (.val yak)) (eV (.val yak))) (eC (.int 2147483629))) (eC (.int 5))) (A3 oMulT (eV (.val yak)) (eC (.int 16811)))) (A3 oMulT (eC (.int 7919)) (A3 oIx (eV yaa) (eC (.int 4))))) (eC (.int 2531011))) (eC (.int 2147483647)))) yaa (eC (.int 3)) λyaa=> ((A3 F3 (A3 oAdd (A3 a9 (A3 oIx (eV yaa) (eC (.int 3))) (eC (.int 61))) (A3 oMulT (A3 F3 (A3 oIx (eV yaa) (eC (.int 3))) (eC (.int 8191))) (eC (.int 31)))) (eV (.val yad))) ret)))))) λkj3=> (N0 (tAnd (K9 (A3 m9 (A3 oIx (eV (.val yaa)) (eC (.int 2))) (eV (.val yad)))) (K9 (A3 m9 (A3 oIx (eV (.val yaa)) (eC (.int 1))) (I4 E7 (D3 (A3 oIx (eV (.val yaa)) (eC (.int 0))) F8))))) ((A2 (A3 oIx (A3 oIx (eV (.val yaa)) (eC (.int 0))) (A3 oIx (eV (.val yaa)) (eC (.int 1))))) λyai=> (P5 (A2 (A3 oAdd (A3 oIx (eV (.val yaa)) (eC (.int 1))) (eC (.int 1)))) (.val yaa) (eC (.int 1)) λyaa=> (P5 (A2 (eC (.int 0))) yaa (eC (.int 2)) λyaa=> (N0 (K9 (A3 g9 (eV (.val yai)) (A3 l7 (eC (.int 10)) (eC (.int 18))))) (P5 (A2 (eV (.val yai))) yaa (eC (.int 2)) λyaa=> (kj3 yaa)) (P5 (A2 (A3 F3 (A3 oAdd (A3 oAdd (A3 oMulT (A3 oIx (eV yaa) (eC (.int 3))) (eC (.int 48271))) (A3 oMulT (A3 F3 (eV (.val yai)) (eC (.int 2147483629))) (eC (.int 69621)))) (eC (.int 12345))) (eC (.int 2147483647)))) yaa (eC (.int 3)) λyaa=> (kj3 yaa)))))) (kj3 (.val yaa))))
def i5:List W->MC
 | [yaa,yad]=> o4 yaa yad
 | _=> bad
section
variable {Q:RR->AH->Prop} {E:AExc->AH->Prop} {h:AH} {p:Addr} {xs:List W}
theorem A77 {σ:Type} {k:σ->MC} {f:(σ->MC)->MC} (P:σ->AH->Prop) (hk:∀s h,P s h->k s h Q E) (hf:∀kk:σ->MC,(∀s h,P s h->kk s h Q E)->f kk h Q E):join k f h Q E:=hf k hk
theorem Y3 {i:Int} {k:SV->MC} (e:h p=some (.cont (.seq xs))):B7 oIx (.val (.ref p)) (.val (.int i)) k h Q E=E9 xs i (λw=> k (.val w)) h Q E:=by
 have ev:C6 h (.val (.ref p))= .cv (.seq xs):=by
  show (match h p with
   | some (.cont c)=> Vw.cv c
   | _=> .wv (.ref p))=_
  rw [e]
 show oIx (C6 h (.val (.ref p))) (.wv (.int i)) _=_
 rw [ev,A3M rfl (λ_ z=> by cases z)]
 unfold E9
 cases L2.atI xs i <;> rfl
theorem d4 {i:Int} {w:W} {k:SV->MC} {j:Nat} (e:h p=some (.cont (.seq xs))) (ej:ixN xs.length i=some j):b4 (.val (.ref p)) (.val (.int i)) w k h Q E=k (.val (.ref p)) (C4 h p (.cont (.seq (xs.set j w)))) Q E:=by
 show (match h p with
   | some (.cont (.seq xs))=> ∃j,ixN xs.length i=some j/\k (.val (.ref p)) (C4 h p (.cont (.seq (xs.set j w)))) Q E
   | _=> False)=_
 rw [e]
 show (∃j,ixN xs.length i=some j/\k (.val (.ref p)) (C4 h p (.cont (.seq (xs.set j w)))) Q E)=_
 rw [ej]
 refine propext ⟨λ⟨_,a,b⟩=> ?_,λz=> ⟨j,rfl,z⟩⟩
 cases a
 exact b
theorem A0R {b:Prop} [Decidable b] {A B:MC} (x:b->A h Q E) (y:¬b->B h Q E):(if b then A else B) h Q E:=by
 split
 ·exact x ‹_›
 ·exact y ‹_›
end
def v4 (ns:List Int) (i b m c:Int):AO:= .cont (.seq [.lst (ns.map .int),.int i,.int b,.int m,.int c])
def Bag (n:Nat) (h:AH) (p:Addr):Prop:=∃(ns:List Int) (i b m c:Int),h p=some (v4 ns i b m c)/\0<=i/\i<=ns.length/\0<=b/\0<=m/\m < 2147483648/\0<=c/\c<=n
theorem Bag.le {n m:Nat} {h:AH} {p:Addr} (b:Bag n h p) (l:n<=m):Bag m h p:=let ⟨ns,i,x,y,c,a1,a2,a3,a4,a5,a6,a7,a8⟩:=b;⟨ns,i,x,y,c,a1,a2,a3,a4,a5,a6,a7,by omega⟩
def Dr (c:Nat) (m:Addr->MC) (P:RR->Prop):Prop:=∀(p:Addr) (n:Nat) (h:AH) (Q:RR->AH->Prop) (E:AExc->AH->Prop),Bag n h p->n+c<=1000000000000000->(∀r h',P r->Bag (n+c) h' p->Bt p h h'->Q r h')->m p h Q E
section
variable {Q:RR->AH->Prop} {E:AExc->AH->Prop} {h:AH} {p:Addr} {n c:Nat} {m:Addr->MC} {P:RR->Prop} {K:SV->MC}
theorem Dr.call (d:Dr c m P) (b:Bag n h p) (l:n+c<=1000000000000000) (q:∀r h',P r->Bag (n+c) h' p->Bt p h h'->K r.sv h' Q E):call (m p) K h Q E:=d p n h _ _ b l q
theorem Dr.call0 (d:Dr c m P) (b:Bag n h p) (l:n+c<=1000000000000000) (q:∀r h',P r->Bag (n+c) h' p->Bt p h h'->K r.sv h' Q E):call0 (m p) K h Q E:=d p n h _ _ b l q
theorem Dr.imp {P':RR->Prop} {c':Nat} (d:Dr c m P) (i:∀r,P r->P' r) (l:c<=c'):Dr c' m P':=λp n h Q E b l' q=> d p n h Q E b (by omega) λr h' z b' t=> q r h' (i r z) (b'.le (by omega)) t
end
theorem A6w {ns:List Int} {i b m c s:Int} {h:AH} {p:Addr} {Q:RR->AH->Prop} {E:AExc->AH->Prop} (hp:h p=some (v4 ns i b m c)) (i0:0<=i) (i1:i<=ns.length) (b0:0<=b) (m0:0<=m) (m1:m < 2147483648) (c0:0<=c)
  (c1:c<=1000000000000000) (s1:1<=s) (cd:∀b:Int,CDivW b s)
  (q:∀k h',0<=k->k < s->(∃b' m' c',h' p=some (v4 ns i b' m' c')/\0<=b'/\0<=m'/\m' < 2147483648/\0<=c'/\c'<=c+1)->Bt p h h'->Q (.val (.int k)) h'):
  (N0 (K9 (A3 g9 (A3 oIx (eV (.val (.ref p))) (eC (.int 2))) (eV (.val (.int s))))) ((A2 (A3 F3 (A3 oIx (eV (.val (.ref p))) (eC (.int 2))) (eV (.val (.int s))))) λyam=> (P5 (A2 (A3 a9 (A3 oIx (eV (.val (.ref p))) (eC (.int 2))) (eV (.val (.int s))))) (.val (.ref p)) (eC (.int 2)) λyaa=> ((eV (.val yam)) ret))) (P5 (A2 (A3 oAdd (A3 oIx (eV (.val (.ref p))) (eC (.int 4))) (eC (.int 1)))) (.val (.ref p)) (eC (.int 4)) λyaa=> ((A2 (A3 oIx (eV yaa) (eC (.int 3)))) λyak=> (P5 (A2 (A3 F3 (A3 oAdd (A3 oAdd (A3 oAdd (A3 oMulT (A3 F3 (A3 oMulT (eV (.val yak)) (eV (.val yak))) (eC (.int 2147483629))) (eC (.int 5))) (A3 oMulT (eV (.val yak)) (eC (.int 16811)))) (A3 oMulT (eC (.int 7919)) (A3 oIx (eV yaa) (eC (.int 4))))) (eC (.int 2531011))) (eC (.int 2147483647)))) yaa (eC (.int 3)) λyaa=> ((A3 F3 (A3 oAdd (A3 a9 (A3 oIx (eV yaa) (eC (.int 3))) (eC (.int 61))) (A3 oMulT (A3 F3 (A3 oIx (eV yaa) (eC (.int 3))) (eC (.int 8191))) (eC (.int 31)))) (eV (.val (.int s)))) ret))))) h Q E:=by
 have cd:=cd b
 have hp':h p=some (.cont (.seq [.lst (ns.map .int),.int i,.int b,.int m,.int c])):=hp
 have e2:ixN 5 2=some 2:=rfl
 have e3:ixN 5 3=some 3:=rfl
 have e4:ixN 5 4=some 4:=rfl
 simp only [M8,M2,F7,F0,G2,Y3 hp',A1v,A4s,K6,decide_eq_true_eq]
 refine A0R (λ_=> ?_) λ_=> ?_
 ·simp only [I0,F7,F0,G2,t4,Y3 hp',A1v,u0,A35,s4,J8]
  refine ⟨by omega,cd,?_⟩
  rw [d4 hp' e2]
  exact q _ _ (Int.emod_nonneg _ (by omega)) (Int.emod_lt_of_pos _ (by omega)) ⟨_,_,_,O7,Int.ediv_nonneg b0 (by omega),m0,m1,c0,by omega⟩ .upd
 ·simp only [I0,F7,F0,G2,t4,Y3 hp',A4I,j7,J8]
  rw [d4 hp' e4]
  have h1:C4 h p (.cont (.seq ([.lst (ns.map .int),.int i,.int b,.int m,.int c].set 4 (.int (c+1))))) p=some (.cont (.seq [.lst (ns.map .int),.int i,.int b,.int m,.int (c+1)])):=O7
  have x0:0<=m*m % 2147483629:=Int.emod_nonneg _ (by decide)
  have x1:m*m % 2147483629 < 2147483629:=Int.emod_lt_of_pos _ (by decide)
  simp only [I0,F7,F0,G2,t4,Y3 h1,A4I,A2A,j7,A16,u0,s4,J8]
  refine ⟨d5 m0 (by omega) m0 (by omega),by decide,d5 x0 (by omega) (by decide) (by decide),d5 m0 (by omega) (by decide) (by decide),d5 (by decide) (by decide) (by omega) (by omega),by decide,?_⟩
  rw [d4 h1 e3]
  generalize m*m % 2147483629*5+m*16811+7919*(c+1)+2531011=y
  have g0:0<=y % 2147483647:=Int.emod_nonneg _ (by decide)
  have g1:y % 2147483647 < 2147483647:=Int.emod_lt_of_pos _ (by decide)
  have w0:0<=y % 2147483647 % 8191:=Int.emod_nonneg _ (by decide)
  have w1:y % 2147483647 % 8191 < 8191:=Int.emod_lt_of_pos _ (by decide)
  have h2:C4 (C4 h p (.cont (.seq ([.lst (ns.map .int),.int i,.int b,.int m,.int c].set 4 (.int (c+1)))))) p (.cont (.seq ([.lst (ns.map .int),.int i,.int b,.int m,.int (c+1)].set 3 (.int (y % 2147483647))))) p=some (.cont (.seq [.lst (ns.map .int),.int i,.int b,.int (y % 2147483647),.int (c+1)])):=O7
  simp only [Y3 h2,A2A,j7,A16,u0,A35,s4]
  refine ⟨wide_div (b:=10) (by decide) (by decide) (by decide) (by decide),by decide,d5 w0 (by omega) (by decide) (by decide),by omega,?_⟩
  exact q _ _ (Int.emod_nonneg _ (by omega)) (Int.emod_lt_of_pos _ (by omega)) ⟨_,_,_,O7,b0,g0,by omega,by omega,by omega⟩ (Bt.upd.trans .upd)
theorem A6m {s:Int} (s1:1<=s) (s2:∀b:Int,CDivW b s):Dr 1 (λp=> i5 [.ref p,.int s]) λr=> ∃k,r= .val (.int k)/\0<=k/\k < s:=by
 intro p n h Q E ⟨ns,i,b,m,c,hp,i0,i1,b0,m0,m1,c0,c1⟩ hn q
 have q':∀k h',0<=k->k < s->(∃i' b' m' c',h' p=some (v4 ns i' b' m' c')/\0<=i'/\i'<=ns.length/\0<=b'/\0<=m'/\m' < 2147483648/\0<=c'/\c'<=c+1)->Bt p h h'->Q (.val (.int k)) h':=
  λk h' k0 k1 ⟨i',b',m',c',a0,a1,a2,a3,a4,a5,a6,a7⟩ t=> q _ _ ⟨k,rfl,k0,k1⟩ ⟨ns,i',b',m',c',a0,a1,a2,a3,a4,a5,a6,by omega⟩ t
 clear q
 show o4 (.ref p) (.int s) h Q E
 unfold o4
 have hp':h p=some (.cont (.seq [.lst (ns.map .int),.int i,.int b,.int m,.int c])):=hp
 refine A77 (λx k=> x= .val (.ref p)/\∃i' b' m':Int,0<=i'/\i'<=ns.length/\0<=b'/\0<=m'/\m' < 2147483648/\k p=some (v4 ns i' b' m' c)/\Bt p h k) ?_ ?_
 ·rintro _ k ⟨rfl,i',b',m',z1,z2,z3,z4,z5,z6,z7⟩
  exact A6w z6 z1 z2 z3 z4 z5 c0 (by omega) s1 s2 λk h' k0 k1 ⟨b2,m2,c2,a0,a1,a2,a3,a4,a5⟩ t=> q' k h' k0 k1 ⟨i',b2,m2,c2,a0,z1,z2,a1,a2,a3,a4,a5⟩ (z7.trans t)
 ·intro kk hk
  have same:kk (.val (.ref p)) h Q E:=hk _ _ ⟨rfl,i,b,m,i0,i1,b0,m0,m1,hp,.refl⟩
  have e1:ixN 5 1=some 1:=rfl
  have e2:ixN 5 2=some 2:=rfl
  have e3:ixN 5 3=some 3:=rfl
  simp only [M8,A8J,M2,F7,F0,G2,Y3 hp',A1v,A5G,K6,decide_eq_true_eq]
  refine A0R (λ_=> ?_) λ_=> by rw [if_neg Bool.false_ne_true];exact same
  simp only [P7,N3,N5,F7,F0,G2,Y3 hp',A4l,A4U,A3r,A5G,K6,decide_eq_true_eq,length_map]
  refine A0R (λh2=> ?_) λ_=> same
  obtain ⟨j,rfl⟩:=Int.eq_ofNat_of_zero_le i0
  have hj:j < ns.length:=by omega
  simp only [I0,F7,F0,G2,t4,Y3 hp',A4l,A4U,A0m,A7H hj,j7,J8]
  generalize ns[j]=v
  rw [d4 hp' e1]
  have h1:C4 h p (.cont (.seq ([.lst (ns.map .int),.int (j:Int),.int b,.int m,.int c].set 1 (.int ((j:Int)+1))))) p=some (.cont (.seq [.lst (ns.map .int),.int ((j:Int)+1),.int b,.int m,.int c])):=O7
  rw [d4 h1 e2]
  generalize hk1:C4 (C4 h p (.cont (.seq ([.lst (ns.map .int),.int (j:Int),.int b,.int m,.int c].set 1 (.int ((j:Int)+1)))))) p (.cont (.seq ([.lst (ns.map .int),.int ((j:Int)+1),.int b,.int m,.int c].set 2 (.int 0))))=h2'
  have hp2:h2' p=some (.cont (.seq [.lst (ns.map .int),.int ((j:Int)+1),.int 0,.int m,.int c])):=by rw [<-hk1];exact O7
  have bt:Bt p h h2':=by rw [<-hk1];exact Bt.upd.trans .upd
  simp only [M8,M2,F7,F0,G2,A4F,s4,A4s,K6,decide_eq_true_eq]
  refine ⟨⟨by decide,by decide,by decide⟩,A0R (λh3=> ?_) λh3=> ?_⟩
  ·have z:(0:Int)<=10 ^ Int.toNat 18:=by decide
   rw [d4 hp2 e2]
   exact hk _ _ ⟨rfl,(j:Int)+1,v,m,by omega,by omega,by omega,m0,m1,O7,bt.trans .upd⟩
  ·have a0:0<=v % 2147483629:=Int.emod_nonneg _ (by decide)
   have a1:v % 2147483629 < 2147483629:=Int.emod_lt_of_pos _ (by decide)
   simp only [t4,I0,F7,F0,G2,Y3 hp2,A2A,A16,u0,j7,s4,J8]
   refine ⟨d5 m0 (by omega) (by decide) (by decide),by decide,d5 a0 (by omega) (by decide) (by decide),by decide,?_⟩
   rw [d4 hp2 e3]
   have b1:0<=(m*48271+v % 2147483629*69621+12345) % 2147483647:=Int.emod_nonneg _ (by decide)
   have b2:(m*48271+v % 2147483629*69621+12345) % 2147483647 < 2147483647:=Int.emod_lt_of_pos _ (by decide)
   exact hk _ _ ⟨rfl,(j:Int)+1,0,_,by omega,by omega,by omega,b1,by omega,O7,bt.trans .upd⟩
theorem A7s {s:Int} (s1:1<=s) (s2:s<=10 ^ 40):Dr 1 (λp=> i5 [.ref p,.int s]) λr=> ∃k,r= .val (.int k)/\0<=k/\k < s:=A6m s1 λb=> wide_div (b:=200) (by omega) (by omega) (by decide) (by decide)
theorem A7U {ns:List Int} (h:ns.length<=63):o6 [.lst (ns.map .int)]=ret (.own (.seq [.lst (ns.map .int),.int 0,.int 0,.int 9465,.int 0])):=by
 show o3 _=_
 unfold o3
 simp only [A12,M1,M3,I0,P7,N3,N5,B0z,F0,G2,A9y,A74,A7u,A9V,A8x,A1l,J8]
 rw [C3 (by simp [k9]),show O0 (ns.map W.int) none (some 63)=(ns.map W.int).take 63 from A8O (k:=63),List.take_of_length_le (by rw [length_map];exact h)]
theorem A70 {h:AH} {p:Addr} {ns:List Int}:Bag 0 (C4 h p (.cont (.seq [.lst (ns.map .int),.int 0,.int 0,.int 9465,.int 0]))) p:=⟨ns,0,0,9465,0,O7,by omega,by omega,by omega,by omega,by omega,by omega,by omega⟩
def c3 (m__law_same:List W->MC) (yac yag:W):MC:=
 (N0 (K9 (A3 (F4 false) (eV (.val yag)) (eC .non))) ((A3 (F4 false) (eV (.val yac)) (eC .non)) ret) (N0 (K9 (I4 B6 (D3 (eV (.val yag)) (D3 (eC (.ty "bool")) F8)))) ((l9 (I4 B6 (D3 (eV (.val yac)) (D3 (eC (.ty "bool")) F8))) (A3 (E1 false) (eV (.val yac)) (eV (.val yag)))) ret) (N0 (K9 (I4 B6 (D3 (eV (.val yag)) (D3 (eC (.ty "int")) F8)))) ((l9 (I4 B6 (D3 (eV (.val yac)) (D3 (eC (.ty "int")) F8))) (l9 (A2W (I4 B6 (D3 (eV (.val yac)) (D3 (eC (.ty "bool")) F8)))) (A3 (E1 false) (eV (.val yac)) (eV (.val yag))))) ret) (N0 (K9 (I4 B6 (D3 (eV (.val yag)) (D3 (eC (.ty "str")) F8)))) ((l9 (I4 B6 (D3 (eV (.val yac)) (D3 (eC (.ty "str")) F8))) (A3 (E1 false) (eV (.val yac)) (eV (.val yag)))) ret) (N0 (tOr (K9 (A3 (E1 true) (I4 B6 (D3 (eV (.val yag)) (D3 (eC (.ty "tuple")) F8))) (I4 B6 (D3 (eV (.val yac)) (D3 (eC (.ty "tuple")) F8))))) (K9 (A3 (E1 true) (I4 B6 (D3 (eV (.val yag)) (D3 (eC (.ty "list")) F8))) (I4 B6 (D3 (eV (.val yac)) (D3 (eC (.ty "list")) F8)))))) ((eC (.bl false)) ret) (N0 (K9 (A3 (E1 true) (I4 E7 (D3 (eV (.val yac)) F8)) (I4 E7 (D3 (eV (.val yag)) F8)))) ((eC (.bl false)) ret) ((I4 v9 (D3 (x9 (u3 (D3 (I4 E7 (D3 (eV (.val yag)) F8)) F8)) λyaj kk=> z8 w8 (A2 (A1e m__law_same (A9 (A2 (A3 oIx (eV (.val yac)) (eV (.val yaj)))) (A9 (A2 (A3 oIx (eV (.val yag)) (eV (.val yaj)))) D5)))) kk) F8)) ret)))))))
def m__law_same:Nat->List W->MC
 | 0=> λ_=> bad
 | d+1=> λws=> match ws with
  | [yac,yag]=> c3 (m__law_same d) yac yag
  | _=> bad
section
variable {k:SV->MC} {b c:Bool} {i:Int} {x:Str} {xs:List W} {T:String}
theorem D9 {w:W} {n:String} {r:Bool} (hv:∀h,viewW h w= .wv w) (e1:w.tyName=some n) (e2:Z1 n T=some r):cb B6 [.val w,.val (.ty T)] k=k (.val (.bl r)):=by
 funext h Q E
 show B6 [viewW h w,.wv (.ty T)] _=_
 rw [hv,A9D]
 show (match (Vw.wv w).tyName with
  | some n=> (match Z1 n T with
   | some b=> O2 k (.val (.bl b)) h Q E
   | none=> False)
  | none=> False)=_
 rw [show (Vw.wv w).tyName=w.tyName from rfl,e1]
 show (match Z1 n T with
   | some b=> O2 k (.val (.bl b)) h Q E
   | none=> False)=_
 rw [e2]
 rfl
theorem U9:cb B6 [.val .non,.val (.ty "bool")] k=k (.val (.bl false)):=D9 (λ_=> rfl) rfl rfl
theorem V9:cb B6 [.val .non,.val (.ty "int")] k=k (.val (.bl false)):=D9 (λ_=> rfl) rfl rfl
theorem V6:cb B6 [.val .non,.val (.ty "str")] k=k (.val (.bl false)):=D9 (λ_=> rfl) rfl rfl
theorem T6:cb B6 [.val .non,.val (.ty "tuple")] k=k (.val (.bl false)):=D9 (λ_=> rfl) rfl rfl
theorem T9:cb B6 [.val .non,.val (.ty "list")] k=k (.val (.bl false)):=D9 (λ_=> rfl) rfl rfl
theorem V8:cb B6 [.val (.bl b),.val (.ty "bool")] k=k (.val (.bl true)):=D9 (λ_=> rfl) rfl rfl
theorem W3:cb B6 [.val (.bl b),.val (.ty "int")] k=k (.val (.bl true)):=D9 (λ_=> rfl) rfl rfl
theorem W4:cb B6 [.val (.bl b),.val (.ty "str")] k=k (.val (.bl false)):=D9 (λ_=> rfl) rfl rfl
theorem V0:cb B6 [.val (.bl b),.val (.ty "tuple")] k=k (.val (.bl false)):=D9 (λ_=> rfl) rfl rfl
theorem V2:cb B6 [.val (.bl b),.val (.ty "list")] k=k (.val (.bl false)):=D9 (λ_=> rfl) rfl rfl
theorem U0:cb B6 [.val (.int i),.val (.ty "bool")] k=k (.val (.bl false)):=D9 (λ_=> rfl) rfl rfl
theorem V3:cb B6 [.val (.int i),.val (.ty "int")] k=k (.val (.bl true)):=D9 (λ_=> rfl) rfl rfl
theorem V7:cb B6 [.val (.int i),.val (.ty "str")] k=k (.val (.bl false)):=D9 (λ_=> rfl) rfl rfl
theorem T7:cb B6 [.val (.int i),.val (.ty "tuple")] k=k (.val (.bl false)):=D9 (λ_=> rfl) rfl rfl
theorem U2:cb B6 [.val (.int i),.val (.ty "list")] k=k (.val (.bl false)):=D9 (λ_=> rfl) rfl rfl
theorem U7:cb B6 [.val (.str x),.val (.ty "bool")] k=k (.val (.bl false)):=D9 (λ_=> rfl) rfl rfl
theorem W1:cb B6 [.val (.str x),.val (.ty "int")] k=k (.val (.bl false)):=D9 (λ_=> rfl) rfl rfl
theorem V5:cb B6 [.val (.str x),.val (.ty "str")] k=k (.val (.bl true)):=D9 (λ_=> rfl) rfl rfl
theorem T5:cb B6 [.val (.str x),.val (.ty "tuple")] k=k (.val (.bl false)):=D9 (λ_=> rfl) rfl rfl
theorem U5:cb B6 [.val (.str x),.val (.ty "list")] k=k (.val (.bl false)):=D9 (λ_=> rfl) rfl rfl
theorem U6:cb B6 [.val (.tup xs),.val (.ty "bool")] k=k (.val (.bl false)):=D9 (λ_=> rfl) rfl rfl
theorem V1:cb B6 [.val (.tup xs),.val (.ty "int")] k=k (.val (.bl false)):=D9 (λ_=> rfl) rfl rfl
theorem V4:cb B6 [.val (.tup xs),.val (.ty "str")] k=k (.val (.bl false)):=D9 (λ_=> rfl) rfl rfl
theorem T4:cb B6 [.val (.tup xs),.val (.ty "tuple")] k=k (.val (.bl true)):=D9 (λ_=> rfl) rfl rfl
theorem U4:cb B6 [.val (.tup xs),.val (.ty "list")] k=k (.val (.bl false)):=D9 (λ_=> rfl) rfl rfl
theorem U3:cb B6 [.val (.lst xs),.val (.ty "bool")] k=k (.val (.bl false)):=D9 (λ_=> rfl) rfl rfl
theorem W0:cb B6 [.val (.lst xs),.val (.ty "int")] k=k (.val (.bl false)):=D9 (λ_=> rfl) rfl rfl
theorem W2:cb B6 [.val (.lst xs),.val (.ty "str")] k=k (.val (.bl false)):=D9 (λ_=> rfl) rfl rfl
theorem T8:cb B6 [.val (.lst xs),.val (.ty "tuple")] k=k (.val (.bl false)):=D9 (λ_=> rfl) rfl rfl
theorem U8:cb B6 [.val (.lst xs),.val (.ty "list")] k=k (.val (.bl true)):=D9 (λ_=> rfl) rfl rfl
theorem A0P:D2 (.bl b) (.bl c)=decide (b=c):=by cases b <;> cases c <;> rfl
theorem Z8:B7 (E1 false) (.val (.bl b)) (.val (.bl c)) k=k (.val (.bl (decide (b=c)))):=by
 funext h Q E
 show (_/\_/\_)=_
 refine propext ⟨λz=> ?_,λz=> ⟨rfl,rfl,?_⟩⟩
 ·have z:=z.2.2
  rw [<-A0P]
  exact z
 ·rw [<-A0P] at z
  exact z
theorem A34:B7 (F4 false) (.val (.bl b)) (.val .non) k=k (.val (.bl false)):=Q8 (λ_=> rfl)
theorem X5:B7 (E1 true) (.val (.bl b)) (.val (.bl c)) k=k (.val (.bl (!decide (b=c)))):=by
 funext h Q E
 show (_/\_/\_)=_
 refine propext ⟨λz=> ?_,λz=> ⟨rfl,rfl,?_⟩⟩
 ·have z:=z.2.2
  rw [<-A0P]
  exact z
 ·rw [<-A0P] at z
  exact z
end
mutual
def W.sm:Nat->W->Bool
 | _,.non=> true
 | _,.bl _=> true
 | _,.int _=> true
 | _,.str _=> true
 | n+1,.tup xs=> decide (xs.length<=100000) && W.sms n xs
 | n+1,.lst xs=> decide (xs.length<=100000) && W.sms n xs
 | _,_=> false
def W.sms:Nat->List W->Bool
 | _,[]=> true
 | n,x::xs=> W.sm n x && W.sms n xs
end
theorem W.sms_mem {n:Nat}:∀{xs:List W},W.sms n xs=true->∀x∈xs,x.sm n=true
 | [],_,x,h=> by cases h
 | y::ys,e,x,h=> by
  simp only [W.sms,Bool.and_eq_true] at e
  rcases List.mem_cons.mp h with rfl | h
  ·exact e.1
  ·exact W.sms_mem e.2 x h
theorem W.sms_of {n:Nat}:∀{xs:List W},(∀x∈xs,x.sm n=true)->W.sms n xs=true
 | [],_=> rfl
 | x::xs,h=> by
  simp only [W.sms,Bool.and_eq_true]
  exact ⟨h x (by simp),W.sms_of λy hy=> h y (by simp [hy])⟩
theorem A37 {n:Nat} {xs:List W} (l:xs.length<=100000) (h:∀x∈xs,x.sm n=true):(W.lst xs).sm (n+1)=true:=by
 simp only [W.sm,Bool.and_eq_true,decide_eq_true_eq];exact ⟨l,W.sms_of h⟩
theorem A1a:∀(d:Nat) (w:W),w.sm d=true->m__law_same (d+1) [w,w]=ret (.val (.bl true)):=by
 intro d
 induction d with
 | zero=>
  intro w h
  show c3 _ w w=_
  unfold c3
  cases w with
  | non=> simp only [↓F0,↓G2,↓F7,↓I0,↓M3,↓M1,↓N5,↓N3,↓P7,↓Q5,↓M2,↓X8,↓X4,↓X6,↓W6,↓Q3,↓M8,↓R4,↓R8,↓K6,↓A3d,if_true,if_false,Bool.not_true,Bool.not_false,Bool.false_eq_true,decide_true,↓U9,↓V9,↓V6,↓T6,↓T9,↓V8,↓W3,↓W4,↓V0,↓V2,↓U0,↓V3,↓V7,↓T7,↓U2,↓U7,↓W1,↓V5,↓T5,↓U5,↓U6,↓V1,↓V4,↓T4,↓U4,↓U3,↓W0,↓W2,↓T8,↓U8,↓Z8,↓X5]
  | bl b=> simp only [↓F0,↓G2,↓F7,↓I0,↓M3,↓M1,↓N5,↓N3,↓P7,↓Q5,↓M2,↓X8,↓X4,↓X6,↓W6,↓Q3,↓M8,↓R4,↓R8,↓K6,if_true,if_false,Bool.not_true,Bool.false_eq_true,decide_true,↓A34,↓U9,↓V9,↓V6,↓T6,↓T9,↓V8,↓W3,↓W4,↓V0,↓V2,↓U0,↓V3,↓V7,↓T7,↓U2,↓U7,↓W1,↓V5,↓T5,↓U5,↓U6,↓V1,↓V4,↓T4,↓U4,↓U3,↓W0,↓W2,↓T8,↓U8,↓Z8,↓X5]
  | int i=> simp only [↓F0,↓G2,↓F7,↓I0,↓M3,↓M1,↓N5,↓N3,↓P7,↓Q5,↓M2,↓X8,↓X4,↓X6,↓W6,↓Q3,↓M8,↓R4,↓R8,↓K6,↓A4g,↓A3g,if_true,if_false,Bool.not_true,Bool.not_false,Bool.false_eq_true,decide_true,↓U9,↓V9,↓V6,↓T6,↓T9,↓V8,↓W3,↓W4,↓V0,↓V2,↓U0,↓V3,↓V7,↓T7,↓U2,↓U7,↓W1,↓V5,↓T5,↓U5,↓U6,↓V1,↓V4,↓T4,↓U4,↓U3,↓W0,↓W2,↓T8,↓U8,↓Z8,↓X5]
  | str x=> simp only [↓F0,↓G2,↓F7,↓I0,↓M3,↓M1,↓N5,↓N3,↓P7,↓Q5,↓M2,↓X8,↓X4,↓X6,↓W6,↓Q3,↓M8,↓R4,↓R8,↓K6,↓p9,↓A3i,↓A0f,↓A3k,↓A3f,if_true,if_false,Bool.not_true,Bool.not_false,Bool.false_eq_true,decide_true,Int.toNat_natCast,k9,↓U9,↓V9,↓V6,↓T6,↓T9,↓V8,↓W3,↓W4,↓V0,↓V2,↓U0,↓V3,↓V7,↓T7,↓U2,↓U7,↓W1,↓V5,↓T5,↓U5,↓U6,↓V1,↓V4,↓T4,↓U4,↓U3,↓W0,↓W2,↓T8,↓U8,↓Z8,↓X5]
  | tup xs=> simp [W.sm] at h
  | lst xs=> simp [W.sm] at h
  | dct _ _=> simp [W.sm] at h
  | ref _=> simp [W.sm] at h
  | ty _=> simp [W.sm] at h
  | emp=> simp [W.sm] at h
  | exc _ _ _=> simp [W.sm] at h
 | succ d ih=>
  intro w h
  show c3 (m__law_same (d+1)) w w=_
  unfold c3
  have seq:∀xs:List W,xs.length<=100000->(∀x∈xs,x.sm d=true)->∀v:W,(∀(i:Nat) (k:SV->MC),i < xs.length->B7 oIx (.val v) (.val (.int i)) k=E9 xs i λw=> k (.val w))->
    ∀k:SV->MC,T3 (λyaj kk=> B7 oIx (.val v) (.val yaj) λx=> B7 oIx (.val v) (.val yaj) λy=> call0 (m__law_same (d+1) [x.fz,y.fz]) λz=> kk (some z.fz)) (λacc=> k (.own (.seq acc))) (I8 0 xs.length) []=k (.own (.seq ((List.replicate xs.length true).map W.bl))):=by
   intro xs hl hx v hv k
   rw [A3D,A1f L1 (λ_=> .bl true) _ (λi hi kk=> ?_) (by simp [k9];omega)]
   ·congr 3
    rw [List.map_const',List.map_replicate,List.length_range]
   ·have hi:i < xs.length:=by simpa using hi
    rw [hv i _ hi,A1Z hi,hv i _ hi,A1Z hi,J8,ih _ (hx _ (List.getElem_mem hi)),A6S,J8]
  cases w with
  | non=> simp only [↓F0,↓G2,↓F7,↓I0,↓M3,↓M1,↓N5,↓N3,↓P7,↓Q5,↓M2,↓X8,↓X4,↓X6,↓W6,↓Q3,↓M8,↓R4,↓R8,↓K6,↓A3d,if_true,if_false,Bool.not_true,Bool.not_false,Bool.false_eq_true,decide_true,↓U9,↓V9,↓V6,↓T6,↓T9,↓V8,↓W3,↓W4,↓V0,↓V2,↓U0,↓V3,↓V7,↓T7,↓U2,↓U7,↓W1,↓V5,↓T5,↓U5,↓U6,↓V1,↓V4,↓T4,↓U4,↓U3,↓W0,↓W2,↓T8,↓U8,↓Z8,↓X5]
  | bl b=> simp only [↓F0,↓G2,↓F7,↓I0,↓M3,↓M1,↓N5,↓N3,↓P7,↓Q5,↓M2,↓X8,↓X4,↓X6,↓W6,↓Q3,↓M8,↓R4,↓R8,↓K6,if_true,if_false,Bool.not_true,Bool.false_eq_true,decide_true,↓A34,↓U9,↓V9,↓V6,↓T6,↓T9,↓V8,↓W3,↓W4,↓V0,↓V2,↓U0,↓V3,↓V7,↓T7,↓U2,↓U7,↓W1,↓V5,↓T5,↓U5,↓U6,↓V1,↓V4,↓T4,↓U4,↓U3,↓W0,↓W2,↓T8,↓U8,↓Z8,↓X5]
  | int i=> simp only [↓F0,↓G2,↓F7,↓I0,↓M3,↓M1,↓N5,↓N3,↓P7,↓Q5,↓M2,↓X8,↓X4,↓X6,↓W6,↓Q3,↓M8,↓R4,↓R8,↓K6,↓A4g,↓A3g,if_true,if_false,Bool.not_true,Bool.not_false,Bool.false_eq_true,decide_true,↓U9,↓V9,↓V6,↓T6,↓T9,↓V8,↓W3,↓W4,↓V0,↓V2,↓U0,↓V3,↓V7,↓T7,↓U2,↓U7,↓W1,↓V5,↓T5,↓U5,↓U6,↓V1,↓V4,↓T4,↓U4,↓U3,↓W0,↓W2,↓T8,↓U8,↓Z8,↓X5]
  | str x=> simp only [↓F0,↓G2,↓F7,↓I0,↓M3,↓M1,↓N5,↓N3,↓P7,↓Q5,↓M2,↓X8,↓X4,↓X6,↓W6,↓Q3,↓M8,↓R4,↓R8,↓K6,↓p9,↓A3i,↓A0f,↓A3k,↓A3f,if_true,if_false,Bool.not_true,Bool.not_false,Bool.false_eq_true,decide_true,Int.toNat_natCast,k9,↓U9,↓V9,↓V6,↓T6,↓T9,↓V8,↓W3,↓W4,↓V0,↓V2,↓U0,↓V3,↓V7,↓T7,↓U2,↓U7,↓W1,↓V5,↓T5,↓U5,↓U6,↓V1,↓V4,↓T4,↓U4,↓U3,↓W0,↓W2,↓T8,↓U8,↓Z8,↓X5]
  | tup xs=>
   simp only [W.sm,Bool.and_eq_true,decide_eq_true_eq] at h
   have hl:=h.1
   simp only [↓F0,↓G2,↓F7,↓I0,↓M3,↓M1,↓N5,↓N3,↓P7,↓Q5,↓M2,↓X8,↓X4,↓X6,↓W6,↓Q3,↓M8,↓R4,↓R8,↓K6,↓p9,↓A8Y,↓A0f,↓A7G,if_true,if_false,Bool.not_true,Bool.not_false,Bool.false_eq_true,decide_true,Int.toNat_natCast,↓U9,↓V9,↓V6,↓T6,↓T9,↓V8,↓W3,↓W4,↓V0,↓V2,↓U0,↓V3,↓V7,↓T7,↓U2,↓U7,↓W1,↓V5,↓T5,↓U5,↓U6,↓V1,↓V4,↓T4,↓U4,↓U3,↓W0,↓W2,↓T8,↓U8,↓X5]
   rw [C3 (by omega)]
   refine (seq xs h.1 (W.sms_mem h.2) (.tup xs) (λi k _=> A9F) (λz=> cb v9 [z] ret)).trans ?_
   rw [A38]
   simp
  | lst xs=>
   simp only [W.sm,Bool.and_eq_true,decide_eq_true_eq] at h
   have hl:=h.1
   simp only [↓F0,↓G2,↓F7,↓I0,↓M3,↓M1,↓N5,↓N3,↓P7,↓Q5,↓M2,↓X8,↓X4,↓X6,↓W6,↓Q3,↓M8,↓R4,↓R8,↓K6,↓p9,↓A3r,↓A0f,↓A7w,if_true,if_false,Bool.not_true,Bool.not_false,Bool.false_eq_true,decide_true,Int.toNat_natCast,↓U9,↓V9,↓V6,↓T6,↓T9,↓V8,↓W3,↓W4,↓V0,↓V2,↓U0,↓V3,↓V7,↓T7,↓U2,↓U7,↓W1,↓V5,↓T5,↓U5,↓U6,↓V1,↓V4,↓T4,↓U4,↓U3,↓W0,↓W2,↓T8,↓U8,↓X5]
   rw [C3 (by omega)]
   refine (seq xs h.1 (W.sms_mem h.2) (.lst xs) (λi k _=> A0m) (λz=> cb v9 [z] ret)).trans ?_
   rw [A38]
   simp
  | dct _ _=> simp [W.sm] at h
  | ref _=> simp [W.sm] at h
  | ty _=> simp [W.sm] at h
  | emp=> simp [W.sm] at h
  | exc _ _ _=> simp [W.sm] at h
def n9 (x_e:W):MC:=
 ((A2 (K8 (A9 (A2 (N9 ["InUse","NoCask","NoDrop","NoRound","Taken","Tapped","TooLong","TooMany","Unlike"] (λc=> (["InUse"]:List Str).contains c) (eV (.val x_e)))) (A9 (A2 (N9 ["InUse","NoCask","NoDrop","NoRound","Taken","Tapped","TooLong","TooMany","Unlike"] (λc=> (["NoCask"]:List Str).contains c) (eV (.val x_e)))) (A9 (A2 (N9 ["InUse","NoCask","NoDrop","NoRound","Taken","Tapped","TooLong","TooMany","Unlike"] (λc=> (["NoDrop"]:List Str).contains c) (eV (.val x_e)))) (A9 (A2 (N9 ["InUse","NoCask","NoDrop","NoRound","Taken","Tapped","TooLong","TooMany","Unlike"] (λc=> (["NoRound"]:List Str).contains c) (eV (.val x_e)))) D5)))))) λyac=> ((A2 (A3 oAdd (eV (.val yac)) (K8 (A9 (A2 (N9 ["InUse","NoCask","NoDrop","NoRound","Taken","Tapped","TooLong","TooMany","Unlike"] (λc=> (["Taken"]:List Str).contains c) (eV (.val x_e)))) (A9 (A2 (N9 ["InUse","NoCask","NoDrop","NoRound","Taken","Tapped","TooLong","TooMany","Unlike"] (λc=> (["Tapped"]:List Str).contains c) (eV (.val x_e)))) (A9 (A2 (N9 ["InUse","NoCask","NoDrop","NoRound","Taken","Tapped","TooLong","TooMany","Unlike"] (λc=> (["TooLong"]:List Str).contains c) (eV (.val x_e)))) (A9 (A2 (N9 ["InUse","NoCask","NoDrop","NoRound","Taken","Tapped","TooLong","TooMany","Unlike"] (λc=> (["TooMany"]:List Str).contains c) (eV (.val x_e)))) D5))))))) λyac=> ((A3 oAdd (eV (.val yac)) (K8 (A9 (A2 (N9 ["InUse","NoCask","NoDrop","NoRound","Taken","Tapped","TooLong","TooMany","Unlike"] (λc=> (["Unlike"]:List Str).contains c) (eV (.val x_e)))) (A9 (A2 (N9 ["InUse","NoCask","NoDrop","NoRound","Taken","Tapped","TooLong","TooMany","Unlike"] (λc=> (["InUse","Taken","Tapped","TooLong","TooMany","Unlike"]:List Str).contains c) (eV (.val x_e)))) (A9 (A2 (N9 ["InUse","NoCask","NoDrop","NoRound","Taken","Tapped","TooLong","TooMany","Unlike"] (λc=> (["NoCask","NoDrop","NoRound"]:List Str).contains c) (eV (.val x_e)))) D5))))) ret)))
def i3:List W->MC
 | [x_e]=> n9 x_e
 | _=> bad
def t5 (yab:W):MC:=
 ((Y6 o6 (A9 (A2 (eV (.val yab))) D5)) λyaa=> (w6 yaa λyaa=> ((A2 (Y6 i5 (A9 (A2 (eV (.val yaa))) (A9 (A2 (A3 l7 (eC (.int 10)) (eC (.int 20)))) D5)))) λx_k=> ((A2 (A3 oMulX (eC (.str ("z":Str))) (A3 oAdd (eC (.int 1)) (A3 F3 (eV (.val x_k)) (eC (.int 8)))))) λyaf=> ((A2 (K8 (A9 (A2 (S8 "InUse" "in use" ["name"] (A9 (A2 (eV (.val yaf))) D5))) (A9 (A2 (S8 "NoCask" "no cask" ["cask"] (A9 (A2 (eV (.val x_k))) D5))) (A9 (A2 (S8 "NoDrop" "no drop" ["rank"] (A9 (A2 (eV (.val x_k))) D5))) (A9 (A2 (S8 "NoRound" "no round" ["name"] (A9 (A2 (eV (.val yaf))) D5))) (A9 (A2 (S8 "Taken" "taken" ["name"] (A9 (A2 (eV (.val yaf))) D5))) (A9 (A2 (S8 "Tapped" "tapped" ["step"] (A9 (A2 (eV (.val x_k))) D5))) (A9 (A2 (S8 "TooLong" "too long" ["most"] (A9 (A2 (eV (.val x_k))) D5))) D5))))))))) λyae=> ((A2 (A3 oAdd (eV (.val yae)) (K8 (A9 (A2 (S8 "TooMany" "too many" ["most"] (A9 (A2 (eV (.val x_k))) D5))) (A9 (A2 (S8 "Unlike" "unlike" [] D5)) D5))))) λyae=> (A2S (u3 (D3 (eC (.int 9)) F8)) () (λyaj (s1:Unit) kn3 kb4=> ((A2 (K8 (A9 (A2 (A3 (R9 false) (eV (.val yaj)) (K8 (A9 (A2 (eC (.int 0))) (A9 (A2 (eC (.int 4))) (A9 (A2 (eC (.int 5))) (A9 (A2 (eC (.int 6))) (A9 (A2 (eC (.int 7))) (A9 (A2 (eC (.int 8))) D5))))))))) (A9 (A2 (A3 (R9 false) (eV (.val yaj)) (K8 (A9 (A2 (eC (.int 1))) (A9 (A2 (eC (.int 2))) (A9 (A2 (eC (.int 3))) D5)))))) D5)))) λyaq=> (N0 (A0s (K9 (Y6 (m__law_same 8) (A9 (A2 (Y6 i3 (A9 (A2 (A3 oIx (eV (.val yae)) (eV (.val yaj)))) D5))) (A9 (A2 (A3 oAdd (x9 (u3 (D3 (eC (.int 9)) F8)) λyaB kk=> z8 w8 (A2 (A3 (E1 false) (eV (.val yaj)) (eV (.val yaB)))) kk) (eV (.val yaq)))) D5))))) ((eC (.bl false)) ret) (kn3 ())))) λ(s1:Unit)=> ((A2 (K8 (A9 (A2 (T2 ["InUse","NoCask","NoDrop","NoRound","Taken","Tapped","TooLong","TooMany","Unlike"] "name" (A3 oIx (eV (.val yae)) (eC (.int 0))))) (A9 (A2 (T2 ["InUse","NoCask","NoDrop","NoRound","Taken","Tapped","TooLong","TooMany","Unlike"] "cask" (A3 oIx (eV (.val yae)) (eC (.int 1))))) (A9 (A2 (T2 ["InUse","NoCask","NoDrop","NoRound","Taken","Tapped","TooLong","TooMany","Unlike"] "rank" (A3 oIx (eV (.val yae)) (eC (.int 2))))) (A9 (A2 (T2 ["InUse","NoCask","NoDrop","NoRound","Taken","Tapped","TooLong","TooMany","Unlike"] "name" (A3 oIx (eV (.val yae)) (eC (.int 3))))) (A9 (A2 (T2 ["InUse","NoCask","NoDrop","NoRound","Taken","Tapped","TooLong","TooMany","Unlike"] "name" (A3 oIx (eV (.val yae)) (eC (.int 4))))) (A9 (A2 (T2 ["InUse","NoCask","NoDrop","NoRound","Taken","Tapped","TooLong","TooMany","Unlike"] "step" (A3 oIx (eV (.val yae)) (eC (.int 5))))) (A9 (A2 (T2 ["InUse","NoCask","NoDrop","NoRound","Taken","Tapped","TooLong","TooMany","Unlike"] "most" (A3 oIx (eV (.val yae)) (eC (.int 6))))) D5))))))))) λyal=> (N0 (A0s (K9 (Y6 (m__law_same 8) (A9 (A2 (A3 oAdd (eV (.val yal)) (K8 (A9 (A2 (T2 ["InUse","NoCask","NoDrop","NoRound","Taken","Tapped","TooLong","TooMany","Unlike"] "most" (A3 oIx (eV (.val yae)) (eC (.int 7))))) D5)))) (A9 (A2 (K8 (A9 (A2 (eV (.val yaf))) (A9 (A2 (eV (.val x_k))) (A9 (A2 (eV (.val x_k))) (A9 (A2 (eV (.val yaf))) (A9 (A2 (eV (.val yaf))) (A9 (A2 (eV (.val x_k))) (A9 (A2 (eV (.val x_k))) (A9 (A2 (eV (.val x_k))) D5)))))))))) D5))))) ((eC (.bl false)) ret) ((A2 (K8 (A9 (A2 (eC (.str ("in use":Str)))) (A9 (A2 (eC (.str ("no cask":Str)))) (A9 (A2 (eC (.str ("no drop":Str)))) (A9 (A2 (eC (.str ("no round":Str)))) (A9 (A2 (eC (.str ("taken":Str)))) (A9 (A2 (eC (.str ("tapped":Str)))) (A9 (A2 (eC (.str ("too long":Str)))) (A9 (A2 (eC (.str ("too many":Str)))) D5)))))))))) λyar=> ((Y6 (m__law_same 8) (A9 (A2 (x9 (A1b (A2 (eV (.val yae)))) λx_e kk=> z8 w8 (A2 (T2 ["InUse","NoCask","NoDrop","NoRound","Taken","Tapped","TooLong","TooMany","Unlike"] "word" (eV (.val x_e)))) kk)) (A9 (A2 (A3 oAdd (eV (.val yar)) (K8 (A9 (A2 (eC (.str ("unlike":Str)))) D5)))) D5))) ret)))))))))))
def m_law:List W->MC
 | [yab]=> t5 yab
 | _=> bad
abbrev ksX:List Str:=["InUse","NoCask","NoDrop","NoRound","Taken","Tapped","TooLong","TooMany","Unlike"]
section
variable {ks fs:List Str} {f:Str->Bool} {C n x word:Str} {ns:List Str} {ws:List W} {w:W} {k:SV->MC} {m:CE} {a:A7}
theorem A9B (c:C∈ks):A2R ks f (.val (.exc C ns ws)) k=k (.val (.bl (f C))):=by
 funext h Q E
 refine propext ⟨λ⟨C',ns',ws',e,c',z⟩=> ?_,λz=> ⟨C,ns,ws,rfl,c,z⟩⟩
 have e:Vw.wv (W.exc C ns ws)=Vw.wv (W.exc C' ns' ws'):=e
 injection e with e
 injection e with e1 e2 e3
 subst e1
 exact z
theorem Y7 (c:C∈ks) (l:(ns.zip ws).lookup n=some w):P8 ks n (.val (.exc C ns ws)) k=k (.val w):=by
 funext h Q E
 refine propext ⟨λ⟨C',ns',ws',w',e,l',c',z⟩=> ?_,λz=> ⟨C,ns,ws,w,rfl,l,c,z⟩⟩
 have e:Vw.wv (W.exc C ns ws)=Vw.wv (W.exc C' ns' ws'):=e
 injection e with e
 injection e with e1 e2 e3
 subst e1 e2 e3
 rw [l] at l'
 cases l'
 exact z
theorem A9n:N9 ks f m k=m λx=> A2R ks f x k:=rfl
theorem B0q:T2 ks n m k=m λx=> P8 ks n x k:=rfl
theorem A9z:S8 x word fs a k=a λws=> k (.val (C1 x word fs ws)):=rfl
end
abbrev waz:List (List Str):=[["InUse"],["NoCask"],["NoDrop"],["NoRound"],["Taken"],["Tapped"],["TooLong"],["TooMany"],["Unlike"],["InUse","Taken","Tapped","TooLong","TooMany","Unlike"],["NoCask","NoDrop","NoRound"]]
theorem A66 {C:Str} {ns:List Str} {ws:List W} (c:C∈ksX):i3 [.exc C ns ws]=ret (.own (.seq (waz.map λl=> W.bl (l.contains C)))):=by
 show n9 _=_
 unfold n9
 simp only [↓F0,↓F7,↓I0,↓M3,↓M1,↓A12,↓J8,↓A1l,↓A4N,↓A3V,length_cons,List.length_nil,k9,Nat.zero_add,Nat.reduceAdd,Nat.reduceLeDiff,↓A9n,↓A9B c]
 rw [C3 (by show (8:Nat)<=_;decide)]
 rfl
def X2 (nm:Str) (k:Int):List W:=[C1 "InUse" "in use" ["name"] [.str nm],C1 "NoCask" "no cask" ["cask"] [.int k],C1 "NoDrop" "no drop" ["rank"] [.int k],C1 "NoRound" "no round" ["name"] [.str nm],C1 "Taken" "taken" ["name"] [.str nm],
 C1 "Tapped" "tapped" ["step"] [.int k],C1 "TooLong" "too long" ["most"] [.int k],C1 "TooMany" "too many" ["most"] [.int k],C1 "Unlike" "unlike" [] []]
theorem B0M:CPow 10 20:=⟨by decide,by decide,by decide⟩
theorem A4H {i:Int} {l:List Int} {k:SV->MC}:B7 (R9 false) (.val (.int i)) (.own (.seq (l.map W.int))) k=k (.val (.bl (decide (i∈l)))):=by
 rw [A9e (xs:=l.map W.int) (sp d7) (λ_=> rfl) A1P]
 have:decide ((SV.val (W.int i)).fz∈l.map W.int)=decide (i∈l):=decide_eq_decide.mpr ⟨λz=> by
  obtain ⟨j,hj,e⟩:=List.mem_map.mp z
  injection e with e
  exact e▸hj,λz=> List.mem_map.mpr ⟨i,z,rfl⟩⟩
 rw [this]
theorem key:∀j,j < 9->waz.map (λl=> l.contains (ksX.getD j ""))=(List.range 9).map (λs:Nat=> decide ((j:Int)=(s:Int)))++[decide ((j:Int)∈([0,4,5,6,7,8]:List Int)),decide ((j:Int)∈([1,2,3]:List Int))]:=by decide+kernel
theorem A6p {nm:Str} {k:Int}:∀j,j < 9->∃wd fs ws,(X2 nm k)[j]? =some (C1 (ksX.getD j "") wd fs ws):=λj hj=> by
 match j,hj with
 | 0,_=> exact ⟨_,_,_,rfl⟩
 | 1,_=> exact ⟨_,_,_,rfl⟩
 | 2,_=> exact ⟨_,_,_,rfl⟩
 | 3,_=> exact ⟨_,_,_,rfl⟩
 | 4,_=> exact ⟨_,_,_,rfl⟩
 | 5,_=> exact ⟨_,_,_,rfl⟩
 | 6,_=> exact ⟨_,_,_,rfl⟩
 | 7,_=> exact ⟨_,_,_,rfl⟩
 | 8,_=> exact ⟨_,_,_,rfl⟩
theorem A8X:∀j,j < 9->ksX.getD j ""∈ksX:=by decide+kernel
def n3 (nm:Str) (k:Int):List (W×Str):=[(C1 "InUse" "in use" ["name"] [.str nm],"in use"),(C1 "NoCask" "no cask" ["cask"] [.int k],"no cask"),(C1 "NoDrop" "no drop" ["rank"] [.int k],"no drop"),(C1 "NoRound" "no round" ["name"] [.str nm],"no round"),(C1 "Taken" "taken" ["name"] [.str nm],"taken"),
 (C1 "Tapped" "tapped" ["step"] [.int k],"tapped"),(C1 "TooLong" "too long" ["most"] [.int k],"too long"),(C1 "TooMany" "too many" ["most"] [.int k],"too many"),(C1 "Unlike" "unlike" [] [],"unlike")]
theorem A65 {nm:Str} {k:Int} {K:SV->MC}:∀p∈n3 nm k,P8 ksX "word" (.val p.1) K=K (.val (.str p.2)):=λp hp=> by
 unfold n3 at hp
 simp only [List.mem_cons,List.not_mem_nil,or_false] at hp
 rcases hp with rfl | rfl | rfl | rfl | rfl | rfl | rfl | rfl | rfl
 all_goals exact Y7 (by decide+kernel) rfl
section
variable {nm:Str} {k:Int} {K:W->MC} {K2:SV->MC}
theorem am0:E9 (X2 nm k) 0 K=K (C1 "InUse" "in use" ["name"] [.str nm]):=L4 (atI_nat (j:=0) rfl)
theorem am1:E9 (X2 nm k) 1 K=K (C1 "NoCask" "no cask" ["cask"] [.int k]):=L4 (atI_nat (j:=1) rfl)
theorem am2:E9 (X2 nm k) 2 K=K (C1 "NoDrop" "no drop" ["rank"] [.int k]):=L4 (atI_nat (j:=2) rfl)
theorem am3:E9 (X2 nm k) 3 K=K (C1 "NoRound" "no round" ["name"] [.str nm]):=L4 (atI_nat (j:=3) rfl)
theorem am4:E9 (X2 nm k) 4 K=K (C1 "Taken" "taken" ["name"] [.str nm]):=L4 (atI_nat (j:=4) rfl)
theorem am5:E9 (X2 nm k) 5 K=K (C1 "Tapped" "tapped" ["step"] [.int k]):=L4 (atI_nat (j:=5) rfl)
theorem am6:E9 (X2 nm k) 6 K=K (C1 "TooLong" "too long" ["most"] [.int k]):=L4 (atI_nat (j:=6) rfl)
theorem am7:E9 (X2 nm k) 7 K=K (C1 "TooMany" "too many" ["most"] [.int k]):=L4 (atI_nat (j:=7) rfl)
theorem xm0:P8 ksX "name" (.val (C1 "InUse" "in use" ["name"] [.str nm])) K2=K2 (.val (.str nm)):=Y7 (by decide+kernel) rfl
theorem xm1:P8 ksX "cask" (.val (C1 "NoCask" "no cask" ["cask"] [.int k])) K2=K2 (.val (.int k)):=Y7 (by decide+kernel) rfl
theorem xm2:P8 ksX "rank" (.val (C1 "NoDrop" "no drop" ["rank"] [.int k])) K2=K2 (.val (.int k)):=Y7 (by decide+kernel) rfl
theorem xm3:P8 ksX "name" (.val (C1 "NoRound" "no round" ["name"] [.str nm])) K2=K2 (.val (.str nm)):=Y7 (by decide+kernel) rfl
theorem xm4:P8 ksX "name" (.val (C1 "Taken" "taken" ["name"] [.str nm])) K2=K2 (.val (.str nm)):=Y7 (by decide+kernel) rfl
theorem xm5:P8 ksX "step" (.val (C1 "Tapped" "tapped" ["step"] [.int k])) K2=K2 (.val (.int k)):=Y7 (by decide+kernel) rfl
theorem xm6:P8 ksX "most" (.val (C1 "TooLong" "too long" ["most"] [.int k])) K2=K2 (.val (.int k)):=Y7 (by decide+kernel) rfl
theorem xm7:P8 ksX "most" (.val (C1 "TooMany" "too many" ["most"] [.int k])) K2=K2 (.val (.int k)):=Y7 (by decide+kernel) rfl
end
theorem A8I {ns:List Int} (hn:ns.length<=63) (h:AH) (Q:RR->AH->Prop) (E:AExc->AH->Prop) (q:∀h',Q (.val (.bl true)) h'):m_law [.lst (ns.map .int)] h Q E:=by
 show t5 _ h Q E
 unfold t5
 generalize hBS:m__law_same 8=BS
 conv=> fun;fun;fun;simp only [↓B0R,↓B0m,↓F7,↓A9R,↓A7d,↓A6n,↓A12,↓N5,↓N3,↓Q5,↓M2,↓A80,↓A7q,↓A7D,↓Q3,↓M8,↓R4,↓R8,↓A8s,↓A75,↓A1l,↓A6N,↓p9,↓A4N,↓o9,↓A4F,↓A3V,↓A73,if_true,length_cons,List.length_nil,k9,Nat.zero_add,Nat.reduceAdd,Nat.reduceLeDiff,↓A7U hn]
 intro p hp
 refine ⟨B0M,?_⟩
 refine (A7s (s:=100000000000000000000) (by omega) (by omega)).call A70 (by omega) λr h1 hr b1 _=> ?_
 obtain ⟨k,rfl,k0,k1⟩:=hr
 conv=> fun;fun;fun;simp only [↓F0,↓I0,↓M3,↓M1,↓J8,↓A8a,↓u0,↓j7,↓A7g,↓A9z]
 refine ⟨by decide,⟨by omega,by omega,by decide⟩,by decide,?_⟩
 generalize X0 ("z":Str) (1+k % 8)=nm
 show f8 _ _ _ _ h1 Q E
 rw [show ([C1 "InUse" "in use" ["name"] [.str nm],C1 "NoCask" "no cask" ["cask"] [.int k],C1 "NoDrop" "no drop" ["rank"] [.int k],C1 "NoRound" "no round" ["name"] [.str nm],C1 "Taken" "taken" ["name"] [.str nm],
  C1 "Tapped" "tapped" ["step"] [.int k],C1 "TooLong" "too long" ["most"] [.int k]]++[C1 "TooMany" "too many" ["most"] [.int k],C1 "Unlike" "unlike" [] []]:List W)=X2 nm k from rfl]
 rw [A6z _ λw hw kn=> ?_]
 ·simp only [↓F0,↓G2,↓F7,↓J8,↓A0m,↓B0q,↓am0,↓am1,↓am2,↓am3,↓am4,↓am5,↓am6,↓am7,↓xm0,↓xm1,↓xm2,↓xm3,↓xm4,↓xm5,↓xm6,↓xm7]
  subst hBS
  show call (m__law_same 8 [W.lst [W.str nm,W.int k,W.int k,W.str nm,W.str nm,W.int k,W.int k,W.int k],W.lst [W.str nm,W.int k,W.int k,W.str nm,W.str nm,W.int k,W.int k,W.int k]]) _ h1 Q E
  rw [A1a 7 _ rfl,o9]
  show O4 (.val (.bl true)) _ h1 Q E
  rw [K6,if_neg (by decide)]
  show T3 _ _ ((n3 nm k).map (·.1)) [] h1 Q E
  rw [A1f (λp:W×Str=> p.1) (λp=> .str p.2) (n3 nm k) (λp hp kk=> A65 p hp) (by rw [sizeLine_eq];show (9:Nat)<=_;decide)]
  show call (m__law_same 8 [W.lst ((n3 nm k).map λp=> .str p.2),W.lst ((n3 nm k).map λp=> .str p.2)]) _ h1 Q E
  rw [A1a 7 _ (A37 (n:=6) (by rw [length_map];show (9:Nat)<=_;decide) λx hx=> by
   obtain ⟨p,_,rfl⟩:=List.mem_map.mp hx
   rfl),o9]
  exact q _
 ·obtain ⟨j,hj,rfl⟩:=A7C hw
  obtain ⟨wd,fs,ws,e⟩:=A6p (nm:=nm) (k:=k) j hj
  rw [show ([W.int 0,W.int 4,W.int 5,W.int 6,W.int 7,W.int 8]:List W)=([0,4,5,6,7,8]:List Int).map W.int from rfl,A4H,
   show ([W.int 1,W.int 2,W.int 3]:List W)=([1,2,3]:List Int).map W.int from rfl,A4H,A0m,L4 (atI_nat e)]
  simp only [J8]
  rw [show i3 [C1 (ksX.getD j "") wd fs ws]=ret (.own (.seq (waz.map λl=> W.bl (l.contains (ksX.getD j ""))))) from A66 (A8X j hj),o9,C3 (by decide),show I8 0 (Int.toNat 9)=(List.range 9).map L1 from A3D 9,
   A1f L1 (λs:Nat=> .bl (decide ((j:Int)=(s:Int)))) (List.range 9) (λs hs kk=> ?_) (by rw [sizeLine_eq];decide),C3 (by rw [length_map,List.length_range];decide)]
  ·have e1:(SV.own (Cont.seq (waz.map λl=> W.bl (l.contains (ksX.getD j ""))))).fz=W.lst ((waz.map λl=> l.contains (ksX.getD j "")).map W.bl):=by
    rw [map_map];rfl
   have e2:((List.range 9).map λs:Nat=> W.bl (decide ((j:Int)=(s:Int))))++[W.bl (decide ((j:Int)∈([0,4,5,6,7,8]:List Int))),W.bl (decide ((j:Int)∈([1,2,3]:List Int)))]=
     (waz.map λl=> l.contains (ksX.getD j "")).map W.bl:=by
    rw [key j hj,map_append,map_map];rfl
   rw [e1,e2,<-hBS,A1a 7 _ (A37 (n:=6) (by rw [length_map,length_map];decide) λx hx=> by
    obtain ⟨b,_,rfl⟩:=List.mem_map.mp hx
    rfl),o9]
   show O4 (.val (.bl true)) _=_
   rw [K6,if_neg (by decide)]
  ·rw [u8 (sp d7) (sp d7)]
   show kk (some (.bl _))=_
   congr 3
   exact decide_eq_decide.mpr ⟨λz=> by injection z,λz=> by show W.int _=W.int _;rw [z]⟩
theorem law_says:∀ns:List Int,ns.length<=63->upc m_law [W.lst (ns.map .int)] (λ_=> none) (λr _=> r= .val (.bl true)) λ_ _=> False:=λns h=> ⟨_,_,λ_ _ z=> z,λ_ _ z=> z,A8I h _ _ _ λ_=> rfl⟩
abbrev vS (w:W):Option SV:=some (.val w)
theorem B3 {Q:RR->AH->Prop} {E:AExc->AH->Prop} {env:A0} {w:W}:SE Q E env (aC w) (eC w):=SN.se A5N
theorem F5 {Q:RR->AH->Prop} {E:AExc->AH->Prop} {env:A0} {w:W}:SA Q E env (aFz (aC w)) (A2 (eC w)):=B4 A5N
theorem G8 {Q:RR->AH->Prop} {E:AExc->AH->Prop} {env:A0} {i:Nat} {w:W} (e:env[i]? =some (some (.val w)):=by rfl):SA Q E env (aFz (aVar i)) (A2 (eV (.val w))):=B4 (A3z e)
theorem B2 {Q:RR->AH->Prop} {E:AExc->AH->Prop} {env:A0} {i:Nat} {w:W} (e:env[i]? =some (vS w):=by rfl):SE Q E env (aVar i) (eV (.val w)):=SN.se (A3z e)
abbrev z9 (Q Q':RR->AH->Prop):Prop:=∀r h,Q r h->Q' r h
abbrev y0 (E E':AExc->AH->Prop):Prop:=∀x h,E x h->E' x h
def A1D (E:AExc->A0->AH->Prop):B9:=
 (L0 (aLst (aCons (aFz (aCB L9 (D4 (aSl (aVar 0) A1U (A1y (aC (.int 63)))) F9))) (aCons (aFz (aC (.int 0))) (aCons (aFz (aC (.int 0))) (aCons (aFz (aC (.int 9465))) (aCons (aFz (aC (.int 0))) aNil)))))))
def A1F (E:AExc->A0->AH->Prop):B9:=
 (aSeq (O5 (aAndT (aTst (aOp2 m9 (aOp2 oIx (aVar 0) (aC (.int 2))) (aVar 1))) (aTst (aOp2 m9 (aOp2 oIx (aVar 0) (aC (.int 1))) (aCB E7 (D4 (aOp2 oIx (aVar 0) (aC (.int 0))) F9))))) (aSeq (G0 (aFz (aOp2 oIx (aOp2 oIx (aVar 0) (aC (.int 0))) (aOp2 oIx (aVar 0) (aC (.int 1))))) (H7 2)) (aSeq (G0 (aFz (aOp2 oAdd (aOp2 oIx (aVar 0) (aC (.int 1))) (aC (.int 1)))) (Z3 (aVar 0) (aC (.int 1)))) (aSeq (G0 (aFz (aC (.int 0))) (Z3 (aVar 0) (aC (.int 2)))) (O5 (aTst (aOp2 g9 (aVar 2) (aOp2 l7 (aC (.int 10)) (aC (.int 18))))) (G0 (aFz (aVar 2)) (Z3 (aVar 0) (aC (.int 2)))) (G0 (aFz (aOp2 F3 (aOp2 oAdd (aOp2 oAdd (aOp2 oMulT (aOp2 oIx (aVar 0) (aC (.int 3))) (aC (.int 48271))) (aOp2 oMulT (aOp2 F3 (aVar 2) (aC (.int 2147483629))) (aC (.int 69621)))) (aC (.int 12345))) (aC (.int 2147483647)))) (Z3 (aVar 0) (aC (.int 3)))))))) O9) (aSeq (O5 (aTst (aOp2 g9 (aOp2 oIx (aVar 0) (aC (.int 2))) (aVar 1))) (aSeq (G0 (aFz (aOp2 F3 (aOp2 oIx (aVar 0) (aC (.int 2))) (aVar 1))) (H7 3)) (aSeq (G0 (aFz (aOp2 a9 (aOp2 oIx (aVar 0) (aC (.int 2))) (aVar 1))) (Z3 (aVar 0) (aC (.int 2)))) (L0 (aVar 3)))) O9) (aSeq (G0 (aFz (aOp2 oAdd (aOp2 oIx (aVar 0) (aC (.int 4))) (aC (.int 1)))) (Z3 (aVar 0) (aC (.int 4)))) (aSeq (G0 (aFz (aOp2 oIx (aVar 0) (aC (.int 3)))) (H7 4)) (aSeq (G0 (aFz (aOp2 F3 (aOp2 oAdd (aOp2 oAdd (aOp2 oAdd (aOp2 oMulT (aOp2 F3 (aOp2 oMulT (aVar 4) (aVar 4)) (aC (.int 2147483629))) (aC (.int 5))) (aOp2 oMulT (aVar 4) (aC (.int 16811)))) (aOp2 oMulT (aC (.int 7919)) (aOp2 oIx (aVar 0) (aC (.int 4))))) (aC (.int 2531011))) (aC (.int 2147483647)))) (Z3 (aVar 0) (aC (.int 3)))) (L0 (aOp2 F3 (aOp2 oAdd (aOp2 a9 (aOp2 oIx (aVar 0) (aC (.int 3))) (aC (.int 61))) (aOp2 oMulT (aOp2 F3 (aOp2 oIx (aVar 0) (aC (.int 3))) (aC (.int 8191))) (aC (.int 31)))) (aVar 1))))))))
def A0C (d:Nat) (E:AExc->A0->AH->Prop):B9:=
 (aSeq (O5 (aTst (aOp2 (F4 false) (aVar 1) (aC .non))) (L0 (aOp2 (F4 false) (aVar 0) (aC .non))) O9) (aSeq (O5 (aTst (aCB B6 (D4 (aVar 1) (D4 (aC (.ty "bool")) F9)))) (L0 (k8 (aCB B6 (D4 (aVar 0) (D4 (aC (.ty "bool")) F9))) (aOp2 (E1 false) (aVar 0) (aVar 1)))) O9) (aSeq (O5 (aTst (aCB B6 (D4 (aVar 1) (D4 (aC (.ty "int")) F9)))) (L0 (k8 (aCB B6 (D4 (aVar 0) (D4 (aC (.ty "int")) F9))) (k8 (A1z (aCB B6 (D4 (aVar 0) (D4 (aC (.ty "bool")) F9)))) (aOp2 (E1 false) (aVar 0) (aVar 1))))) O9) (aSeq (O5 (aTst (aCB B6 (D4 (aVar 1) (D4 (aC (.ty "str")) F9)))) (L0 (k8 (aCB B6 (D4 (aVar 0) (D4 (aC (.ty "str")) F9))) (aOp2 (E1 false) (aVar 0) (aVar 1)))) O9) (aSeq (O5 (aOrT (aTst (aOp2 (E1 true) (aCB B6 (D4 (aVar 1) (D4 (aC (.ty "tuple")) F9))) (aCB B6 (D4 (aVar 0) (D4 (aC (.ty "tuple")) F9))))) (aTst (aOp2 (E1 true) (aCB B6 (D4 (aVar 1) (D4 (aC (.ty "list")) F9))) (aCB B6 (D4 (aVar 0) (D4 (aC (.ty "list")) F9)))))) (L0 (aC (.bl false))) O9) (aSeq (O5 (aTst (aOp2 (E1 true) (aCB E7 (D4 (aVar 0) F9)) (aCB E7 (D4 (aVar 1) F9)))) (L0 (aC (.bl false))) O9) (L0 (aCB v9 (D4 (g7 [2] (w5 (D4 (aCB E7 (D4 (aVar 1) F9)) F9)) (H7 2) w4 (aFz (aCall E0 (upc (m__law_same d)) (aCons (aFz (aOp2 oIx (aVar 0) (aVar 2))) (aCons (aFz (aOp2 oIx (aVar 1) (aVar 2))) aNil))))) F9)))))))))
def A09 (E:AExc->A0->AH->Prop):B9:=
 (aSeq (G0 (aFz (aLst (aCons (aFz (M9 ["InUse","NoCask","NoDrop","NoRound","Taken","Tapped","TooLong","TooMany","Unlike"] (λc=> (["InUse"]:List Str).contains c) (aVar 0))) (aCons (aFz (M9 ["InUse","NoCask","NoDrop","NoRound","Taken","Tapped","TooLong","TooMany","Unlike"] (λc=> (["NoCask"]:List Str).contains c) (aVar 0))) (aCons (aFz (M9 ["InUse","NoCask","NoDrop","NoRound","Taken","Tapped","TooLong","TooMany","Unlike"] (λc=> (["NoDrop"]:List Str).contains c) (aVar 0))) (aCons (aFz (M9 ["InUse","NoCask","NoDrop","NoRound","Taken","Tapped","TooLong","TooMany","Unlike"] (λc=> (["NoRound"]:List Str).contains c) (aVar 0))) aNil)))))) (H7 1)) (aSeq (G0 (aFz (aOp2 oAdd (aVar 1) (aLst (aCons (aFz (M9 ["InUse","NoCask","NoDrop","NoRound","Taken","Tapped","TooLong","TooMany","Unlike"] (λc=> (["Taken"]:List Str).contains c) (aVar 0))) (aCons (aFz (M9 ["InUse","NoCask","NoDrop","NoRound","Taken","Tapped","TooLong","TooMany","Unlike"] (λc=> (["Tapped"]:List Str).contains c) (aVar 0))) (aCons (aFz (M9 ["InUse","NoCask","NoDrop","NoRound","Taken","Tapped","TooLong","TooMany","Unlike"] (λc=> (["TooLong"]:List Str).contains c) (aVar 0))) (aCons (aFz (M9 ["InUse","NoCask","NoDrop","NoRound","Taken","Tapped","TooLong","TooMany","Unlike"] (λc=> (["TooMany"]:List Str).contains c) (aVar 0))) aNil))))))) (H7 1)) (L0 (aOp2 oAdd (aVar 1) (aLst (aCons (aFz (M9 ["InUse","NoCask","NoDrop","NoRound","Taken","Tapped","TooLong","TooMany","Unlike"] (λc=> (["Unlike"]:List Str).contains c) (aVar 0))) (aCons (aFz (M9 ["InUse","NoCask","NoDrop","NoRound","Taken","Tapped","TooLong","TooMany","Unlike"] (λc=> (["InUse","Taken","Tapped","TooLong","TooMany","Unlike"]:List Str).contains c) (aVar 0))) (aCons (aFz (M9 ["InUse","NoCask","NoDrop","NoRound","Taken","Tapped","TooLong","TooMany","Unlike"] (λc=> (["NoCask","NoDrop","NoRound"]:List Str).contains c) (aVar 0))) aNil))))))))
def A11 (E:AExc->A0->AH->Prop):B9:=
 (aSeq (A2M 1 (aCall E (upc o6) (aCons (aFz (aVar 0)) aNil))) (aSeq (j8 1 (G0 (aFz (aCall E (upc i5) (aCons (aFz (aVar 1)) (aCons (aFz (aOp2 l7 (aC (.int 10)) (aC (.int 20)))) aNil)))) (H7 2))) (aSeq (G0 (aFz (aOp2 oMulX (aC (.str ("z":Str))) (aOp2 oAdd (aC (.int 1)) (aOp2 F3 (aVar 2) (aC (.int 8)))))) (H7 3)) (aSeq (G0 (aFz (aLst (aCons (aFz (P4 "InUse" "in use" ["name"] (aCons (aFz (aVar 3)) aNil))) (aCons (aFz (P4 "NoCask" "no cask" ["cask"] (aCons (aFz (aVar 2)) aNil))) (aCons (aFz (P4 "NoDrop" "no drop" ["rank"] (aCons (aFz (aVar 2)) aNil))) (aCons (aFz (P4 "NoRound" "no round" ["name"] (aCons (aFz (aVar 3)) aNil))) (aCons (aFz (P4 "Taken" "taken" ["name"] (aCons (aFz (aVar 3)) aNil))) (aCons (aFz (P4 "Tapped" "tapped" ["step"] (aCons (aFz (aVar 2)) aNil))) (aCons (aFz (P4 "TooLong" "too long" ["most"] (aCons (aFz (aVar 2)) aNil))) aNil))))))))) (H7 4)) (aSeq (G0 (aFz (aOp2 oAdd (aVar 4) (aLst (aCons (aFz (P4 "TooMany" "too many" ["most"] (aCons (aFz (aVar 2)) aNil))) (aCons (aFz (P4 "Unlike" "unlike" [] aNil)) aNil))))) (H7 4)) (aSeq (A2P (w5 (D4 (aC (.int 9)) F9)) (H7 5) (aSeq (G0 (aFz (aLst (aCons (aFz (aOp2 (R9 false) (aVar 5) (aLst (aCons (aFz (aC (.int 0))) (aCons (aFz (aC (.int 4))) (aCons (aFz (aC (.int 5))) (aCons (aFz (aC (.int 6))) (aCons (aFz (aC (.int 7))) (aCons (aFz (aC (.int 8))) aNil))))))))) (aCons (aFz (aOp2 (R9 false) (aVar 5) (aLst (aCons (aFz (aC (.int 1))) (aCons (aFz (aC (.int 2))) (aCons (aFz (aC (.int 3))) aNil)))))) aNil)))) (H7 6)) (O5 (aNotT (aTst (aCall E (upc (m__law_same 8)) (aCons (aFz (aCall E (upc i3) (aCons (aFz (aOp2 oIx (aVar 4) (aVar 5))) aNil))) (aCons (aFz (aOp2 oAdd (g7 [7] (w5 (D4 (aC (.int 9)) F9)) (H7 7) w4 (aFz (aOp2 (E1 false) (aVar 5) (aVar 7)))) (aVar 6))) aNil))))) (L0 (aC (.bl false))) O9))) (aSeq (G0 (aFz (aLst (aCons (aFz (T1 ["InUse","NoCask","NoDrop","NoRound","Taken","Tapped","TooLong","TooMany","Unlike"] "name" (aOp2 oIx (aVar 4) (aC (.int 0))))) (aCons (aFz (T1 ["InUse","NoCask","NoDrop","NoRound","Taken","Tapped","TooLong","TooMany","Unlike"] "cask" (aOp2 oIx (aVar 4) (aC (.int 1))))) (aCons (aFz (T1 ["InUse","NoCask","NoDrop","NoRound","Taken","Tapped","TooLong","TooMany","Unlike"] "rank" (aOp2 oIx (aVar 4) (aC (.int 2))))) (aCons (aFz (T1 ["InUse","NoCask","NoDrop","NoRound","Taken","Tapped","TooLong","TooMany","Unlike"] "name" (aOp2 oIx (aVar 4) (aC (.int 3))))) (aCons (aFz (T1 ["InUse","NoCask","NoDrop","NoRound","Taken","Tapped","TooLong","TooMany","Unlike"] "name" (aOp2 oIx (aVar 4) (aC (.int 4))))) (aCons (aFz (T1 ["InUse","NoCask","NoDrop","NoRound","Taken","Tapped","TooLong","TooMany","Unlike"] "step" (aOp2 oIx (aVar 4) (aC (.int 5))))) (aCons (aFz (T1 ["InUse","NoCask","NoDrop","NoRound","Taken","Tapped","TooLong","TooMany","Unlike"] "most" (aOp2 oIx (aVar 4) (aC (.int 6))))) aNil))))))))) (H7 8)) (aSeq (O5 (aNotT (aTst (aCall E (upc (m__law_same 8)) (aCons (aFz (aOp2 oAdd (aVar 8) (aLst (aCons (aFz (T1 ["InUse","NoCask","NoDrop","NoRound","Taken","Tapped","TooLong","TooMany","Unlike"] "most" (aOp2 oIx (aVar 4) (aC (.int 7))))) aNil)))) (aCons (aFz (aLst (aCons (aFz (aVar 3)) (aCons (aFz (aVar 2)) (aCons (aFz (aVar 2)) (aCons (aFz (aVar 3)) (aCons (aFz (aVar 3)) (aCons (aFz (aVar 2)) (aCons (aFz (aVar 2)) (aCons (aFz (aVar 2)) aNil)))))))))) aNil))))) (L0 (aC (.bl false))) O9) (aSeq (G0 (aFz (aLst (aCons (aFz (aC (.str ("in use":Str)))) (aCons (aFz (aC (.str ("no cask":Str)))) (aCons (aFz (aC (.str ("no drop":Str)))) (aCons (aFz (aC (.str ("no round":Str)))) (aCons (aFz (aC (.str ("taken":Str)))) (aCons (aFz (aC (.str ("tapped":Str)))) (aCons (aFz (aC (.str ("too long":Str)))) (aCons (aFz (aC (.str ("too many":Str)))) aNil)))))))))) (H7 9)) (L0 (aCall E (upc (m__law_same 8)) (aCons (aFz (g7 [10] (iSq (aFz (aVar 4))) (H7 10) w4 (aFz (T1 ["InUse","NoCask","NoDrop","NoRound","Taken","Tapped","TooLong","TooMany","Unlike"] "word" (aVar 10))))) (aCons (aFz (aOp2 oAdd (aVar 9) (aLst (aCons (aFz (aC (.str ("unlike":Str)))) aNil)))) aNil)))))))))))))
section
variable {Q:RR->AH->Prop} {E:AExc->AH->Prop} {Q':RR->AH->Prop} {E':AExc->AH->Prop}
theorem A6A (hQ:z9 Q Q') (hE:y0 E E') (yab:W):∀h,o3 yab h Q E->A1D (G3 E') (E8 Q') [vS yab] h:=by
 have hr_:=t8 hQ
 generalize E8 Q'=D0 at hr_ ⊢
 obtain ⟨nx0,rt0,bk0,ct0⟩:=D0
 have hr_:∀r s env h,Rl env r s->Q s.rr h->rt0 r env h:=hr_
 have he:=s8 hE
 unfold o3 A1D
 exact (M7 hr_ (SN.se (M5 (B0 (B4 (J9 A7V (D6 (SN.se (A9o B2 A99 (A7T B3))) G6))) (B0 F5 (B0 F5 (B0 F5 (B0 F5 D8))))))))
section
variable (ws:List W) (h:AH) (Qa:RR->AH->Prop) (Ea:AExc->AH->Prop)
theorem A53 (hl:ws.length=1) (z:upc o6 ws h Qa Ea):A1D (G3 Ea) (E8 Qa) (G7 1 ws) h:=by
 obtain ⟨Q0,E0,hQ,hE,z⟩:=z
 match ws,hl with
 | [yab],_=> exact A6A hQ hE yab h z
theorem A6B (hQ:z9 Q Q') (hE:y0 E E') (yaa yad:W):∀h,o4 yaa yad h Q E->A1F (G3 E') (E8 Q') [vS yaa,vS yad,none,none,none] h:=by
 have hr_:=t8 hQ
 generalize E8 Q'=D0 at hr_ ⊢
 obtain ⟨nx0,rt0,bk0,ct0⟩:=D0
 have hr_:∀r s env h,Rl env r s->Q s.rr h->rt0 r env h:=hr_
 have he:=s8 hE
 unfold o4 A1F
 exact (A7P (λ(s5:SV) (j6:Option SV)=> [some s5,vS yad,j6,none,none]) (λs5 j6=> (E3 (R3 (N4 (SN.se (B1 A4B (SN.se (B1 E4 (Y4 rfl) B3)) B2))) (E3 (O8 (λyam=> [some s5,vS yad,j6,vS yam,none]) (λ_=> rfl) (B4 (B1 Z6 (SN.se (B1 E4 (Y4 rfl) B3)) B2)) (λyam=> (E5 (E3 (c8 (λyaa=> [some yaa,vS yad,j6,vS yam,none]) (λ_=> rfl) (B4 (B1 A3b (SN.se (B1 E4 (Y4 rfl) B3)) B2)) rfl B3 (λyaa=> (E5 (M7 hr_ B2))))))))) (X3 (E5 (E3 (c8 (λyaa=> [some yaa,vS yad,j6,none,none]) (λ_=> rfl) (B4 (B1 L5 (SN.se (B1 E4 (Y4 rfl) B3)) B3)) rfl B3 (λyaa=> (E5 (E3 (O8 (λyak=> [some yaa,vS yad,j6,none,vS yak]) (λ_=> rfl) (B4 (B1 E4 (Y4 rfl) B3)) (λyak=> (E5 (E3 (c8 (λyaa=> [some yaa,vS yad,j6,none,vS yak]) (λ_=> rfl) (B4 (B1 Z6 (SN.se (B1 L5 (SN.se (B1 L5 (SN.se (B1 L5 (SN.se (B1 c9 (SN.se (B1 Z6 (SN.se (B1 c9 B2 B2)) B3)) B3)) (SN.se (B1 c9 B2 B3)))) (SN.se (B1 c9 B3 (SN.se (B1 E4 (Y4 rfl) B3)))))) B3)) B3)) rfl B3 (λyaa=> (E5 (M7 hr_ (SN.se (B1 Z6 (SN.se (B1 L5 (SN.se (B1 A3b (SN.se (B1 E4 (Y4 rfl) B3)) B3)) (SN.se (B1 c9 (SN.se (B1 Z6 (SN.se (B1 E4 (Y4 rfl) B3)) B3)) B3)))) B2)))))))))))))))))))) (λN8=> (R3 (A8h (N4 (SN.se (B1 A4a (SN.se (B1 E4 B2 B3)) B2))) (N4 (SN.se (B1 A4a (SN.se (B1 E4 B2 B3)) (SN.se (J9 A0a (D6 (SN.se (B1 E4 B2 B3)) G6))))))) (E3 (O8 (λyai=> [vS yaa,vS yad,vS yai,none,none]) (λ_=> rfl) (B4 (B1 E4 (SN.se (B1 E4 B2 B3)) (SN.se (B1 E4 B2 B3)))) (λyai=> (E5 (E3 (c8 (λyaa=> [some yaa,vS yad,vS yai,none,none]) (λ_=> rfl) (B4 (B1 L5 (SN.se (B1 E4 B2 B3)) B3)) rfl B3 (λyaa=> (E5 (E3 (c8 (λyaa=> [some yaa,vS yad,vS yai,none,none]) (λ_=> rfl) F5 rfl B3 (λyaa=> (E5 (R3 (N4 (SN.se (B1 A4B B2 (SN.se (B1 A3t B3 B3))))) (c8 (λyaa=> [some yaa,vS yad,vS yai,none,none]) (λ_=> rfl) G8 rfl B3 (λyaa=> (λh z=> N8 yaa (vS yai) h z))) (c8 (λyaa=> [some yaa,vS yad,vS yai,none,none]) (λ_=> rfl) (B4 (B1 Z6 (SN.se (B1 L5 (SN.se (B1 L5 (SN.se (B1 c9 (SN.se (B1 E4 (Y4 rfl) B3)) B3)) (SN.se (B1 c9 (SN.se (B1 Z6 B2 B3)) B3)))) B3)) B3)) rfl B3 (λyaa=> (λh z=> N8 yaa (vS yai) h z)))))))))))))))) (X3 (λh z=> N8 (.val yaa) (none) h z)))))
theorem A55 (hl:ws.length=2) (z:upc i5 ws h Qa Ea):A1F (G3 Ea) (E8 Qa) (G7 5 ws) h:=by
 obtain ⟨Q0,E0,hQ,hE,z⟩:=z
 match ws,hl with
 | [yaa,yad],_=> exact A6B hQ hE yaa yad h z
theorem A51 (d:Nat) {Q:RR->AH->Prop} {E:AExc->AH->Prop} {Q':RR->AH->Prop} {E':AExc->AH->Prop} (hQ:z9 Q Q') (hE:y0 E E') (yac yag:W):∀h,c3 (m__law_same d) yac yag h Q E->A0C d (G3 E') (E8 Q') [vS yac,vS yag,none] h:=by
 have hr_:=t8 hQ
 generalize E8 Q'=D0 at hr_ ⊢
 obtain ⟨nx0,rt0,bk0,ct0⟩:=D0
 have hr_:∀r s env h,Rl env r s->Q s.rr h->rt0 r env h:=hr_
 have he:=s8 hE
 unfold c3 A0C
 exact (E3 (R3 (N4 (SN.se (B1 A33 B2 B3))) (M7 hr_ (SN.se (B1 A33 B2 B3))) (X3 (E5 (E3 (R3 (N4 (SN.se (J9 Q6 (D6 B2 (D6 B3 G6))))) (M7 hr_ (SN.se (A0V (SN.se (J9 Q6 (D6 B2 (D6 B3 G6)))) (B1 e9 B2 B2)))) (X3 (E5 (E3 (R3 (N4 (SN.se (J9 Q6 (D6 B2 (D6 B3 G6))))) (M7 hr_ (SN.se (A0V (SN.se (J9 Q6 (D6 B2 (D6 B3 G6)))) (A0V (SN.se (A8F (SN.se (J9 Q6 (D6 B2 (D6 B3 G6)))))) (B1 e9 B2 B2))))) (X3 (E5 (E3 (R3 (N4 (SN.se (J9 Q6 (D6 B2 (D6 B3 G6))))) (M7 hr_ (SN.se (A0V (SN.se (J9 Q6 (D6 B2 (D6 B3 G6)))) (B1 e9 B2 B2)))) (X3 (E5 (E3 (R3 (A9p (N4 (SN.se (B1 e9 (SN.se (J9 Q6 (D6 B2 (D6 B3 G6)))) (SN.se (J9 Q6 (D6 B2 (D6 B3 G6))))))) (N4 (SN.se (B1 e9 (SN.se (J9 Q6 (D6 B2 (D6 B3 G6)))) (SN.se (J9 Q6 (D6 B2 (D6 B3 G6)))))))) (M7 hr_ B3) (X3 (E5 (E3 (R3 (N4 (SN.se (B1 e9 (SN.se (J9 A0a (D6 B2 G6))) (SN.se (J9 A0a (D6 B2 G6)))))) (M7 hr_ B3) (X3 (E5 (M7 hr_ (SN.se (J9 A8c (D6 (SN.se (A1x (A1V (D6 (SN.se (J9 A0a (D6 B2 G6))) G6)) (λyaj h kk K1 K0 h1 h0 z=> by exact A1N (e1:=[vS yac,vS yag,vS yaj]) A0e A1k (B4 (A63 (B0 (B4 (B1 E4 B2 B2)) (B0 (B4 (B1 E4 B2 B2)) D8)))) rfl h1 h0 z))) G6))))))))))))))))))))))))))))
theorem A50 (d:Nat) (ws:List W) (h:AH) (Qa:RR->AH->Prop) (Ea:AExc->AH->Prop) (hl:ws.length=2) (z:upc (m__law_same (d+1)) ws h Qa Ea):A0C d (G3 Ea) (E8 Qa) (G7 3 ws) h:=by
 obtain ⟨Q0,E0,hQ,hE,z⟩:=z
 match ws,hl with
 | [yac,yag],_=> exact A51 d hQ hE yac yag h z
theorem A5s (hQ:z9 Q Q') (hE:y0 E E') (x_e:W):∀h,n9 x_e h Q E->A09 (G3 E') (E8 Q') [vS x_e,none] h:=by
 have hr_:=t8 hQ
 generalize E8 Q'=D0 at hr_ ⊢
 obtain ⟨nx0,rt0,bk0,ct0⟩:=D0
 have hr_:∀r s env h,Rl env r s->Q s.rr h->rt0 r env h:=hr_
 have he:=s8 hE
 unfold n9 A09
 exact (E3 (O8 (λyac=> [vS x_e,vS yac]) (λ_=> rfl) (B4 (M5 (B0 (B4 (R0 B2)) (B0 (B4 (R0 B2)) (B0 (B4 (R0 B2)) (B0 (B4 (R0 B2)) D8)))))) (λyac=> (E5 (E3 (O8 (λyac=> [vS x_e,vS yac]) (λ_=> rfl) (B4 (B1 L5 B2 (SN.se (M5 (B0 (B4 (R0 B2)) (B0 (B4 (R0 B2)) (B0 (B4 (R0 B2)) (B0 (B4 (R0 B2)) D8)))))))) (λyac=> (E5 (M7 hr_ (SN.se (B1 L5 B2 (SN.se (M5 (B0 (B4 (R0 B2)) (B0 (B4 (R0 B2)) (B0 (B4 (R0 B2)) D8))))))))))))))))
theorem A5r (hl:ws.length=1) (z:upc i3 ws h Qa Ea):A09 (G3 Ea) (E8 Qa) (G7 2 ws) h:=by
 obtain ⟨Q0,E0,hQ,hE,z⟩:=z
 match ws,hl with
 | [x_e],_=> exact A5s hQ hE x_e h z
theorem B0L (hQ:z9 Q Q') (hE:y0 E E') (yab:W):∀h,t5 yab h Q E->A11 (G3 E') (E8 Q') [vS yab,none,none,none,none,none,none,none,none,none,none] h:=by
 have hr_:=t8 hQ
 generalize E8 Q'=D0 at hr_ ⊢
 obtain ⟨nx0,rt0,bk0,ct0⟩:=D0
 have hr_:∀r s env h,Rl env r s->Q s.rr h->rt0 r env h:=hr_
 have he:=s8 hE
 unfold t5 A11
 exact (E3 (A8M (λyaa=> [vS yab,some yaa,none,none,none,none,none,none,none,none,none]) (λ_=> rfl) (i9 (he _) (B0 G8 D8)) (λyaa=> (E5 (E3 (A76 (λyaa=> [vS yab,vS yaa,none,none,none,none,none,none,none,none,none]) (λ_=> rfl) rfl (λyaa=> (O8 (λx_k=> [vS yab,vS yaa,vS x_k,none,none,none,none,none,none,none,none]) (λ_=> rfl) (B4 (i9 (he _) (B0 G8 (B0 (B4 (B1 A3t B3 B3)) D8)))) (λx_k=> (E5 (E3 (O8 (λyaf=> [vS yab,vS yaa,vS x_k,vS yaf,none,none,none,none,none,none,none]) (λ_=> rfl) (B4 (B1 A7Y B3 (SN.se (B1 L5 B3 (SN.se (B1 Z6 B2 B3)))))) (λyaf=> (E5 (E3 (O8 (λyae=> [vS yab,vS yaa,vS x_k,vS yaf,vS yae,none,none,none,none,none,none]) (λ_=> rfl) (B4 (M5 (B0 (B4 (Y2 (B0 G8 D8))) (B0 (B4 (Y2 (B0 G8 D8))) (B0 (B4 (Y2 (B0 G8 D8))) (B0 (B4 (Y2 (B0 G8 D8))) (B0 (B4 (Y2 (B0 G8 D8))) (B0 (B4 (Y2 (B0 G8 D8))) (B0 (B4 (Y2 (B0 G8 D8))) D8))))))))) (λyae=> (E5 (E3 (O8 (λyae=> [vS yab,vS yaa,vS x_k,vS yaf,vS yae,none,none,none,none,none,none]) (λ_=> rfl) (B4 (B1 L5 B2 (SN.se (M5 (B0 (B4 (Y2 (B0 G8 D8))) (B0 (B4 (Y2 D8)) D8)))))) (λyae=> (E5 (E3 (A86 (λ(s13:Unit) (j14:Option SV×Option SV)=> [vS yab,vS yaa,vS x_k,vS yaf,vS yae,j14.1,j14.2,none,none,none,none]) () (none,none) rfl (A1V (D6 B3 G6)) (λs13 j14=> (E5 (E3 (O8 (λyal=> [vS yab,vS yaa,vS x_k,vS yaf,vS yae,j14.1,j14.2,none,vS yal,none,none]) (λ_=> rfl) (B4 (M5 (B0 (B4 (Z0 (SN.se (B1 E4 B2 B3)))) (B0 (B4 (Z0 (SN.se (B1 E4 B2 B3)))) (B0 (B4 (Z0 (SN.se (B1 E4 B2 B3)))) (B0 (B4 (Z0 (SN.se (B1 E4 B2 B3)))) (B0 (B4 (Z0 (SN.se (B1 E4 B2 B3)))) (B0 (B4 (Z0 (SN.se (B1 E4 B2 B3)))) (B0 (B4 (Z0 (SN.se (B1 E4 B2 B3)))) D8))))))))) (λyal=> (E5 (E3 (R3 (A39 (N4 (SN.se (i9 (he _) (B0 (B4 (B1 L5 B2 (SN.se (M5 (B0 (B4 (Z0 (SN.se (B1 E4 B2 B3)))) D8))))) (B0 (B4 (M5 (B0 G8 (B0 G8 (B0 G8 (B0 G8 (B0 G8 (B0 G8 (B0 G8 (B0 G8 D8)))))))))) D8)))))) (M7 hr_ B3) (X3 (E5 (E3 (O8 (λyar=> [vS yab,vS yaa,vS x_k,vS yaf,vS yae,j14.1,j14.2,none,vS yal,vS yar,none]) (λ_=> rfl) (B4 (M5 (B0 F5 (B0 F5 (B0 F5 (B0 F5 (B0 F5 (B0 F5 (B0 F5 (B0 F5 D8)))))))))) (λyar=> (E5 (M7 hr_ (SN.se (i9 (he _) (B0 (B4 (A1x (A7B G8) (λx_e h kk K1 K0 h1 h0 z=> by exact A1N (e1:=[vS yab,vS yaa,vS x_k,vS yaf,vS yae,j14.1,j14.2,none,vS yal,vS yar,vS x_e]) A0e A1k (B4 (Z0 B2)) rfl h1 h0 z))) (B0 (B4 (B1 L5 B2 (SN.se (M5 (B0 F5 D8))))) D8))))))))))))))))))) (λR18 yaj s13 j14 kn15 _ N17 h z=> by refine A8t [vS yab,vS yaa,vS x_k,vS yaf,vS yae,vS yaj,j14.2,none,none,none,none] A0e rfl h _ ?_;exact A9m h z (E3 (O8 (λyaq=> [vS yab,vS yaa,vS x_k,vS yaf,vS yae,vS yaj,vS yaq,none,none,none,none]) (λ_=> rfl) (B4 (M5 (B0 (B4 (B1 A3s B2 (SN.se (M5 (B0 F5 (B0 F5 (B0 F5 (B0 F5 (B0 F5 (B0 F5 D8)))))))))) (B0 (B4 (B1 A3s B2 (SN.se (M5 (B0 F5 (B0 F5 (B0 F5 D8))))))) D8)))) (λyaq=> (E5 (R3 (A39 (N4 (SN.se (i9 (he _) (B0 (B4 (i9 (he _) (B0 (B4 (B1 E4 B2 B2)) D8))) (B0 (B4 (B1 L5 (SN.se (A1x (A1V (D6 B3 G6)) (λyaB h kk K1 K0 h1 h0 z=> by exact A1N (e1:=[vS yab,vS yaa,vS x_k,vS yaf,vS yae,vS yaj,vS yaq,vS yaB,none,none,none]) A0e A1k (B4 (B1 e9 B2 B2)) rfl h1 h0 z))) B2)) D8)))))) (M7 hr_ B3) (X3 (λh z=> N17 () (vS yaj,vS yaq) h z))))))))))))))))))))))))))))))))
theorem A9S (hl:ws.length=1) (z:upc m_law ws h Qa Ea):A11 (G3 Ea) (E8 Qa) (G7 11 ws) h:=by
 obtain ⟨Q0,E0,hQ,hE,z⟩:=z
 match ws,hl with
 | [yab],_=> exact B0L hQ hE yab h z
end
end
theorem K7 {X:Cx} {G:Gx} {x:Str} {pos:Pos} (i:Nat) (hN:X.N.Nodup) (hi:X.N[i]? =some x:=by rfl) (hx:Loc X.env.scope x:=by first | exact .inl rfl | exact .inr rfl) (hf:X.fn x=true\/X.env.scope.names.lookup x=some .local:=by first | exact .inl rfl | exact .inr rfl | assumption):AG X G (.Name x pos) [i] (H7 i):=A7Q hN hi hx hf
theorem N1 {N P:List Str} {sc:Scope} (a:sc.kind= .function:=by rfl) (b:sc.isCoroutine=false:=by rfl) (c:sc.isGenerator=false:=by rfl) (d:N.Nodup:=by decide+kernel) (e:N.take P.length=P:=by rfl) (f:∀x∈P,sc.names.lookup x=some .local\/sc.names.lookup x=some .cell:=by decide+kernel) (g:∀y∈sc.names,y.2≠ .free:=by decide+kernel):FnScope N P sc:=⟨a,b,c,d,e,f,g⟩
theorem G9 {X:Cx} {G:Gx} {e:Expr} {i:Nat} (h:PE X e (tVar i)):AV X G e (aFz (aVar i)):=A8 (A4 h)
abbrev A58:List Str:=["_law_script"]
abbrev A1B:List Str:=["_law_script"]
theorem A2v:FnScope A58 A1B (defScope o7):=N1
theorem A5z:i6 "_law_open" o7 A1B:=λ_ _ _ _ _ _ us hl=> match us,hl with | [_],_=> rfl
abbrev A52:List Str:=["_law_bag","_law_sides","_law_cell","_law_side","_law_mix"]
abbrev A1E:List Str:=["_law_bag","_law_sides"]
theorem A2z:FnScope A52 A1E (defScope o5):=N1
theorem A56:i6 "_law_take" o5 A1E:=λ_ _ _ _ _ _ us hl=> match us,hl with | [_,_],_=> rfl
abbrev A0B:List Str:=["_law_found","_law_due","_law_at"]
abbrev i4:List Str:=["_law_found","_law_due"]
theorem A2y:FnScope A0B i4 (defScope O6):=N1
theorem A0A:i6 "_law_same" O6 i4:=λ_ _ _ _ _ _ us hl=> match us,hl with | [_,_],_=> rfl
abbrev A5u:List Str:=["_law_e","_law_found"]
abbrev A1A:List Str:=["_law_e"]
theorem A2r:FnScope A5u A1A (defScope o0):=N1
theorem A5v:i6 "_law_flags" o0 A1A:=λ_ _ _ _ _ _ us hl=> match us,hl with | [_],_=> rfl
abbrev A1u:List Str:=["_law_script","_law_bag","_law_k","_law_mname","_law_made","_law_at","_law_lies","_law_spot","_law_fields","_law_words","_law_e"]
abbrev A0l:List Str:=["_law_script"]
theorem A4e:FnScope A1u A0l (defScope j9):=N1
theorem A6j:FnScope ["self","name"] ["self","name"] (defScope A0K):=N1
theorem A6R:FnScope ["self","cask"] ["self","cask"] (defScope A0H):=N1
theorem A6J:FnScope ["self","rank"] ["self","rank"] (defScope A0J):=N1
theorem A6F:FnScope ["self","name"] ["self","name"] (defScope A0E):=N1
theorem A6s:FnScope ["self","name"] ["self","name"] (defScope A0N):=N1
theorem A6K:FnScope ["self","step"] ["self","step"] (defScope A0I):=N1
theorem A6C:FnScope ["self","most"] ["self","most"] (defScope A0D):=N1
theorem A6G:FnScope ["self","most"] ["self","most"] (defScope A0F):=N1
theorem A6I:FnScope ["self"] ["self"] (defScope A0G):=N1
structure Blt (K:PySem.W.Frag) (w:World) (mg:Str->Option Value):Prop where
 n_LookupError:mg "LookupError"=none
 n_all:mg "all"=none
 n_bool:mg "bool"=none
 n_int:mg "int"=none
 n_isinstance:mg "isinstance"=none
 n_len:mg "len"=none
 n_list:mg "list"=none
 n_range:mg "range"=none
 n_str:mg "str"=none
 n_tuple:mg "tuple"=none
 f_cask:∀c∈(["InUse","NoCask","NoDrop","NoRound","Taken","Tapped","TooLong","TooMany","Unlike"]:List Str),XfC K (He.ga K c)/\PySem.W.findIn K (.ref (He.ga K c)) "cask"=some none
 f_most:∀c∈(["InUse","NoCask","NoDrop","NoRound","Taken","Tapped","TooLong","TooMany","Unlike"]:List Str),XfC K (He.ga K c)/\PySem.W.findIn K (.ref (He.ga K c)) "most"=some none
 f_name:∀c∈(["InUse","NoCask","NoDrop","NoRound","Taken","Tapped","TooLong","TooMany","Unlike"]:List Str),XfC K (He.ga K c)/\PySem.W.findIn K (.ref (He.ga K c)) "name"=some none
 f_rank:∀c∈(["InUse","NoCask","NoDrop","NoRound","Taken","Tapped","TooLong","TooMany","Unlike"]:List Str),XfC K (He.ga K c)/\PySem.W.findIn K (.ref (He.ga K c)) "rank"=some none
 f_step:∀c∈(["InUse","NoCask","NoDrop","NoRound","Taken","Tapped","TooLong","TooMany","Unlike"]:List Str),XfC K (He.ga K c)/\PySem.W.findIn K (.ref (He.ga K c)) "step"=some none
 f_word:∀c∈(["InUse","NoCask","NoDrop","NoRound","Taken","Tapped","TooLong","TooMany","Unlike"]:List Str),XfC K (He.ga K c)/\PySem.W.findIn K (.ref (He.ga K c)) "word"=some none
 xi:∀k∈(["InUse","NoCask","NoDrop","NoRound","Taken","Tapped","TooLong","TooMany","Unlike"]:List Str),XiC K (He.ga K k)
 ig_HideError:mg "HideError"=some (.ref (He.ga K "HideError"))
 ig_InUse:mg "InUse"=some (.ref (He.ga K "InUse"))
 ig_NoCask:mg "NoCask"=some (.ref (He.ga K "NoCask"))
 ig_NoDrop:mg "NoDrop"=some (.ref (He.ga K "NoDrop"))
 ig_NoRound:mg "NoRound"=some (.ref (He.ga K "NoRound"))
 ig_Taken:mg "Taken"=some (.ref (He.ga K "Taken"))
 ig_Tapped:mg "Tapped"=some (.ref (He.ga K "Tapped"))
 ig_TooLong:mg "TooLong"=some (.ref (He.ga K "TooLong"))
 ig_TooMany:mg "TooMany"=some (.ref (He.ga K "TooMany"))
 ig_Unlike:mg "Unlike"=some (.ref (He.ga K "Unlike"))
 is_HideError:∀k∈(["InUse","NoCask","NoDrop","NoRound","Taken","Tapped","TooLong","TooMany","Unlike"]:List Str),PySem.W.kitOne K (.ref (He.ga K k)) (.ref (He.ga K "HideError"))=some ((["InUse","Taken","Tapped","TooLong","TooMany","Unlike"]:List Str).contains k)
 is_InUse:∀k∈(["InUse","NoCask","NoDrop","NoRound","Taken","Tapped","TooLong","TooMany","Unlike"]:List Str),PySem.W.kitOne K (.ref (He.ga K k)) (.ref (He.ga K "InUse"))=some ((["InUse"]:List Str).contains k)
 is_NoCask:∀k∈(["InUse","NoCask","NoDrop","NoRound","Taken","Tapped","TooLong","TooMany","Unlike"]:List Str),PySem.W.kitOne K (.ref (He.ga K k)) (.ref (He.ga K "NoCask"))=some ((["NoCask"]:List Str).contains k)
 is_NoDrop:∀k∈(["InUse","NoCask","NoDrop","NoRound","Taken","Tapped","TooLong","TooMany","Unlike"]:List Str),PySem.W.kitOne K (.ref (He.ga K k)) (.ref (He.ga K "NoDrop"))=some ((["NoDrop"]:List Str).contains k)
 is_NoRound:∀k∈(["InUse","NoCask","NoDrop","NoRound","Taken","Tapped","TooLong","TooMany","Unlike"]:List Str),PySem.W.kitOne K (.ref (He.ga K k)) (.ref (He.ga K "NoRound"))=some ((["NoRound"]:List Str).contains k)
 is_Taken:∀k∈(["InUse","NoCask","NoDrop","NoRound","Taken","Tapped","TooLong","TooMany","Unlike"]:List Str),PySem.W.kitOne K (.ref (He.ga K k)) (.ref (He.ga K "Taken"))=some ((["Taken"]:List Str).contains k)
 is_Tapped:∀k∈(["InUse","NoCask","NoDrop","NoRound","Taken","Tapped","TooLong","TooMany","Unlike"]:List Str),PySem.W.kitOne K (.ref (He.ga K k)) (.ref (He.ga K "Tapped"))=some ((["Tapped"]:List Str).contains k)
 is_TooLong:∀k∈(["InUse","NoCask","NoDrop","NoRound","Taken","Tapped","TooLong","TooMany","Unlike"]:List Str),PySem.W.kitOne K (.ref (He.ga K k)) (.ref (He.ga K "TooLong"))=some ((["TooLong"]:List Str).contains k)
 is_TooMany:∀k∈(["InUse","NoCask","NoDrop","NoRound","Taken","Tapped","TooLong","TooMany","Unlike"]:List Str),PySem.W.kitOne K (.ref (He.ga K k)) (.ref (He.ga K "TooMany"))=some ((["TooMany"]:List Str).contains k)
 is_Unlike:∀k∈(["InUse","NoCask","NoDrop","NoRound","Taken","Tapped","TooLong","TooMany","Unlike"]:List Str),PySem.W.kitOne K (.ref (He.ga K k)) (.ref (He.ga K "Unlike"))=some ((["Unlike"]:List Str).contains k)
 is_LookupError:∀k∈(["InUse","NoCask","NoDrop","NoRound","Taken","Tapped","TooLong","TooMany","Unlike"]:List Str),PySem.W.kitOne K (.ref (He.ga K k)) (.type "LookupError")=some ((["NoCask","NoDrop","NoRound"]:List Str).contains k)
theorem A5x {P:Program} {w:World} {K:PySem.W.Frag} {mg:Str->Option Value} {base:Heap} {f:Addr} {cdv:Value} {A:Around} {outer:List Env} {s:Shared} {H:Hp} {EX:XK} {G:Gx} {E:AExc->A0->AH->Prop} {d j:Nat} (Z:Blt K w mg) (yah:Ok P w K mg base "_law_same" O6 j 2 i4 (upc (m__law_same d))) (hr:Room (max j 0) (A.deeper (envOfC "_law_same" (defScope O6) s.heap.objs.size f cdv))) (gk:G.K=K) (tk:Takes (bx P w K mg base A0B "_law_same" (defScope O6) f cdv A outer s H EX) (cW G E)):
  ASs (bx P w K mg base A0B "_law_same" (defScope O6) f cdv A outer s H EX) G (defBody O6) (A0C d E):=by
 subst gk
 have gk:G.K=G.K:=rfl
 have sc:=A2y
 have hu:=hr.units
 exact (E2 (R1 (A8w (A4 (pv 1)) A3y) (I6 (M4 (A82 (A4 (pv 0)) A3y))) W5)
  (E2 (R1 (v8 (K5 call_isi Q9 rfl Z.n_isinstance N2 (D7 (A4 (pv 1)) (D7 (R6 rfl Z.n_bool A1O) G5)))) (I6 (M4 (A0T (K5 call_isi Q9 rfl Z.n_isinstance N2 (D7 (A4 (pv 0)) (D7 (R6 rfl Z.n_bool A1O) G5))) (A1W (A0j gk hu (A4 (pv 0)) (A4 (pv 1))))))) W5)
  (E2 (R1 (v8 (K5 call_isi Q9 rfl Z.n_isinstance N2 (D7 (A4 (pv 1)) (D7 (R6 rfl Z.n_int A31) G5)))) (I6 (M4 (A0T (K5 call_isi Q9 rfl Z.n_isinstance N2 (D7 (A4 (pv 0)) (D7 (R6 rfl Z.n_int A31) G5))) (A0T (A8G (K5 call_isi Q9 rfl Z.n_isinstance N2 (D7 (A4 (pv 0)) (D7 (R6 rfl Z.n_bool A1O) G5)))) (A1W (A0j gk hu (A4 (pv 0)) (A4 (pv 1)))))))) W5)
  (E2 (R1 (v8 (K5 call_isi Q9 rfl Z.n_isinstance N2 (D7 (A4 (pv 1)) (D7 (R6 rfl Z.n_str A3u) G5)))) (I6 (M4 (A0T (K5 call_isi Q9 rfl Z.n_isinstance N2 (D7 (A4 (pv 0)) (D7 (R6 rfl Z.n_str A3u) G5))) (A1W (A0j gk hu (A4 (pv 0)) (A4 (pv 1))))))) W5)
  (E2 (R1 (AW.ap (A9N (A15 gk hu (K5 call_isi Q9 rfl Z.n_isinstance N2 (D7 (A4 (pv 1)) (D7 (R6 rfl Z.n_tuple A3O) G5))) (K5 call_isi Q9 rfl Z.n_isinstance N2 (D7 (A4 (pv 0)) (D7 (R6 rfl Z.n_tuple A3O) G5)))) (A8E (A15 gk hu (K5 call_isi Q9 rfl Z.n_isinstance N2 (D7 (A4 (pv 1)) (D7 (R6 rfl Z.n_list A1X) G5))) (K5 call_isi Q9 rfl Z.n_isinstance N2 (D7 (A4 (pv 0)) (D7 (R6 rfl Z.n_list A1X) G5))))))) (I6 (M4 A0n)) W5)
  (E2 (R1 (A15 gk hu (K5 call_len A0S rfl Z.n_len A0Q (D7 (A4 (pv 0)) G5)) (K5 call_len A0S rfl Z.n_len A0Q (D7 (A4 (pv 1)) G5))) (I6 (M4 A0n)) W5)
  (I6 (M4 (K5 (cr_all rfl) A8L rfl Z.n_all A84 (D7 (A1p (own:=[("_law_at",2)]) rfl sc.nd (A1G rfl Z.n_range (D7 (K5 call_len A0S rfl Z.n_len A0Q (D7 (A4 (pv 1)) G5)) G5)) (blkOk_by (by first | (show blkC A0B (defScope O6) _ _=true;decide+kernel) | rfl)) (by decide) (λ_ _ _ _ _=> (K7 2 sc.nd)) (λ_ _ _ _ _=> A1Q) (λ_ _ _ _ _=> (A8 (c6 gk yah A0A hr (by omega) rfl A7L (G4 (A8 (E6 gk (A4 (pv 0)) (A4 (pv 2)) (λ_ _=> rfl))) (G4 (A8 (E6 gk (A4 (pv 1)) (A4 (pv 2)) (λ_ _=> rfl))) L8)))))) G5))))))))))end Ab
namespace Ab
open PySem PySem.Spec PyProof.Rows L2 RZ
section
variable (P:Program) (w:World) (K:PySem.W.Frag) (mg:Str->Option Value) (base:Heap)
abbrev TO0:Prop:=Ok P w K mg base "_law_open" o7 1 1 A1B (upc o6)
abbrev TO1:Prop:=Ok P w K mg base "_law_take" o5 1 2 A1E (upc i5)
abbrev TO2:Prop:=Ok P w K mg base "_law_flags" o0 1 1 A1A (upc i3)
end
abbrev FD (K:PySem.W.Frag) (x:Str) (s:Stmt) (f:Addr) (fd:FuncData):Prop:=FunD K x x (defArgs s) (defBody s) (defScope s) [] [] f fd
section
end
section
variable {P:Program} {w:World} {K:PySem.W.Frag} {mg:Str->Option Value} {base:Heap} {f:Addr} {fd:FuncData}
theorem A57 (Z:Blt K w mg) (F:FD K "_law_open" o7 f fd) (hm:mg "_law_open"=some (.ref f)):TO0 P w K mg base:=
 Ok.mk' upc.m hm F A2v rfl (λcdv A outer s H EX G E hr gk tk=> by
  subst gk
  have gk:G.K=G.K:=rfl
  have sc:=A2v
  have hu:=hr.units
  exact (I6 (M4 (M6 (B5 (A8 (A6Q call_list_of A8r rfl Z.n_list A1X (D7 (A67 gk (A4 (pv 0)) A7j (A7X wab)) G5))) (B5 (A8 wab) (B5 (A8 wab) (B5 (A8 wab) (B5 (A8 wab) L6))))))))) A53
theorem A59 (Z:Blt K w mg) (F:FD K "_law_take" o5 f fd) (hm:mg "_law_take"=some (.ref f)):TO1 P w K mg base:=
 Ok.mk' upc.m hm F A2z rfl (λcdv A outer s H EX G E hr gk tk=> by
  subst gk
  have gk:G.K=G.K:=rfl
  have sc:=A2z
  have hu:=hr.units
  exact (E2 (R1 (AW.ap (A8B (A4j (E6 gk (A4 (pv 0)) wab (λ_ _=> rfl)) (A4 (pv 1))) (A7E (A4j (E6 gk (A4 (pv 0)) wab (λ_ _=> rfl)) (K5 call_len A0S rfl Z.n_len A0Q (D7 (E6 gk (A4 (pv 0)) wab (λ_ _=> rfl)) G5)))))) (E2 (H8 (A8 (E6 gk (E6 gk (A4 (pv 0)) wab (λ_ _=> rfl)) (E6 gk (A4 (pv 0)) wab (λ_ _=> rfl)) (λ_ _=> rfl))) (K7 2 sc.nd))
   (E2 (H8 (A8 (L7 gk (E6 gk (A4 (pv 0)) wab (λ_ _=> rfl)) wab)) (d9 (A4 (pv 0)) wab (pg_sub (A4 (pv 0)).pe wab.pe set_list)))
   (E2 (H8 (A8 wab) (d9 (A4 (pv 0)) wab (pg_sub (A4 (pv 0)).pe wab.pe set_list)))
   (I6 (R1 (A4Y (A4 (pv 2)) (A32 wab wab)) (I6 (H8 (G9 (pv 2)) (d9 (A4 (pv 0)) wab (pg_sub (A4 (pv 0)).pe wab.pe set_list)))) (I6 (H8 (A8 (Z5 (L7 gk (L7 gk (d0 gk (E6 gk (A4 (pv 0)) wab (λ_ _=> rfl)) wab) (d0 gk (Z5 (A4 (pv 2)) wab) wab)) wab) wab)) (d9 (A4 (pv 0)) wab (pg_sub (A4 (pv 0)).pe wab.pe set_list))))))))) W5)
   (E2 (R1 (A4Y (E6 gk (A4 (pv 0)) wab (λ_ _=> rfl)) (A4 (pv 1))) (E2 (H8 (A8 (Z5 (E6 gk (A4 (pv 0)) wab (λ_ _=> rfl)) (A4 (pv 1)))) (K7 3 sc.nd))
   (E2 (H8 (A8 (A3Z (E6 gk (A4 (pv 0)) wab (λ_ _=> rfl)) (A4 (pv 1)))) (d9 (A4 (pv 0)) wab (pg_sub (A4 (pv 0)).pe wab.pe set_list)))
   (I6 (M4 (A4 (pv 3)))))) W5)
   (E2 (H8 (A8 (L7 gk (E6 gk (A4 (pv 0)) wab (λ_ _=> rfl)) wab)) (d9 (A4 (pv 0)) wab (pg_sub (A4 (pv 0)).pe wab.pe set_list)))
   (E2 (H8 (A8 (E6 gk (A4 (pv 0)) wab (λ_ _=> rfl))) (K7 4 sc.nd))
   (E2 (H8 (A8 (Z5 (L7 gk (L7 gk (L7 gk (d0 gk (Z5 (d0 gk (A4 (pv 4)) (A4 (pv 4))) wab) wab) (d0 gk (A4 (pv 4)) wab)) (d0 gk wab (E6 gk (A4 (pv 0)) wab (λ_ _=> rfl)))) wab) wab)) (d9 (A4 (pv 0)) wab (pg_sub (A4 (pv 0)).pe wab.pe set_list)))
   (I6 (M4 (Z5 (L7 gk (A3Z (E6 gk (A4 (pv 0)) wab (λ_ _=> rfl)) wab) (d0 gk (Z5 (E6 gk (A4 (pv 0)) wab (λ_ _=> rfl)) wab) wab)) (A4 (pv 1))))))))))) A55
theorem A2w (Z:Blt K w mg) (F:FD K "_law_same" O6 f fd) (hm:mg "_law_same"=some (.ref f)):∀d,Ok P w K mg base "_law_same" O6 (1+d) 2 i4 (upc (m__law_same d))
 | 0=> (A7f (n:=2) (ps:=i4) hm F).up (by omega) upc.m (λ_ _ _ _ ⟨_,_,_,_,z⟩=> z)
 | d+1=> Ok.mk' (k:=1+d) upc.m hm F A2y rfl (λcdv A outer s H EX G E hr gk tk=> A5x (d:=d) (j:=1+d) Z (A2w Z F hm d) (hr.mono (by omega)) gk tk) (A50 d)
theorem A5w (Z:Blt K w mg) (F:FD K "_law_flags" o0 f fd) (hm:mg "_law_flags"=some (.ref f)):TO2 P w K mg base:=
 Ok.mk' upc.m hm F A2r rfl (λcdv A outer s H EX G E hr gk tk=> by
  subst gk
  have gk:G.K=G.K:=rfl
  have sc:=A2r
  have hu:=hr.units
  exact (E2 (H8 (A8 (M6 (B5 (A8 (W8 gk (λc h=> ⟨Z.xi c h,Z.is_InUse c h⟩) Z.ig_InUse rfl Z.n_isinstance rfl (A4 (pv 0)))) (B5 (A8 (W8 gk (λc h=> ⟨Z.xi c h,Z.is_NoCask c h⟩) Z.ig_NoCask rfl Z.n_isinstance rfl (A4 (pv 0)))) (B5 (A8 (W8 gk (λc h=> ⟨Z.xi c h,Z.is_NoDrop c h⟩) Z.ig_NoDrop rfl Z.n_isinstance rfl (A4 (pv 0)))) (B5 (A8 (W8 gk (λc h=> ⟨Z.xi c h,Z.is_NoRound c h⟩) Z.ig_NoRound rfl Z.n_isinstance rfl (A4 (pv 0)))) L6)))))) (K7 1 sc.nd))
   (E2 (H8 (A8 (L7 gk (A4 (pv 1)) (M6 (B5 (A8 (W8 gk (λc h=> ⟨Z.xi c h,Z.is_Taken c h⟩) Z.ig_Taken rfl Z.n_isinstance rfl (A4 (pv 0)))) (B5 (A8 (W8 gk (λc h=> ⟨Z.xi c h,Z.is_Tapped c h⟩) Z.ig_Tapped rfl Z.n_isinstance rfl (A4 (pv 0)))) (B5 (A8 (W8 gk (λc h=> ⟨Z.xi c h,Z.is_TooLong c h⟩) Z.ig_TooLong rfl Z.n_isinstance rfl (A4 (pv 0)))) (B5 (A8 (W8 gk (λc h=> ⟨Z.xi c h,Z.is_TooMany c h⟩) Z.ig_TooMany rfl Z.n_isinstance rfl (A4 (pv 0)))) L6))))))) (K7 1 sc.nd))
   (I6 (M4 (L7 gk (A4 (pv 1)) (M6 (B5 (A8 (W8 gk (λc h=> ⟨Z.xi c h,Z.is_Unlike c h⟩) Z.ig_Unlike rfl Z.n_isinstance rfl (A4 (pv 0)))) (B5 (A8 (W8 gk (λc h=> ⟨Z.xi c h,Z.is_HideError c h⟩) Z.ig_HideError rfl Z.n_isinstance rfl (A4 (pv 0)))) (B5 (A8 (A7S gk (λc h=> ⟨Z.xi c h,Z.is_LookupError c h⟩) rfl Z.n_isinstance rfl Z.n_LookupError A5t (A4 (pv 0)))) L6)))))))))) A5r
theorem o_law (Z:Blt K w mg) (F:FD K "law" j9 f fd) (hm:mg "law"=some (.ref f)) (yao:TO0 P w K mg base) (yap:TO1 P w K mg base) (yah:Ok P w K mg base "_law_same" O6 9 2 i4 (upc (m__law_same 8))) (yan:TO2 P w K mg base) (yas:XkOk P w K mg base "TooLong" "too long" ["most"]) (yav:XkOk P w K mg base "Tapped" "tapped" ["step"]) (yaz:XkOk P w K mg base "Taken" "taken" ["name"]) (yat:XkOk P w K mg base "NoRound" "no round" ["name"]) (yaw:XkOk P w K mg base "NoDrop" "no drop" ["rank"]) (yax:XkOk P w K mg base "NoCask" "no cask" ["cask"]) (yaA:XkOk P w K mg base "InUse" "in use" ["name"]) (yay:XkOk P w K mg base "Unlike" "unlike" []) (yau:XkOk P w K mg base "TooMany" "too many" ["most"]):Ok P w K mg base "law" j9 10 1 A0l (upc m_law):=
 Ok.mk' upc.m hm F A4e rfl (λcdv A outer s H EX G E hr gk tk=> by
  subst gk
  have gk:G.K=G.K:=rfl
  have sc:=A4e
  have hu:=hr.units
  exact (E2 (A87 (i:=1) sc.nd rfl (by first | exact .inl rfl | exact .inr rfl) (c6 gk yao A5z hr (by decide) rfl tk (G4 (G9 (pv 0)) L8)))
   (E2 (A7R 1 (H8 (A8 (c6 gk yap A56 hr (by decide) rfl tk (G4 (G9 (pv 1)) (G4 (A8 (A32 wab wab)) L8)))) (K7 2 sc.nd)))
   (E2 (H8 (A8 (A7W W9 (L7 gk wab (Z5 (A4 (pv 2)) wab)))) (K7 3 sc.nd))
   (E2 (H8 (A8 (M6 (B5 (A8 (Z7 yaA gk hr (by decide) rfl (G4 (G9 (pv 3)) L8))) (B5 (A8 (Z7 yax gk hr (by decide) rfl (G4 (G9 (pv 2)) L8))) (B5 (A8 (Z7 yaw gk hr (by decide) rfl (G4 (G9 (pv 2)) L8))) (B5 (A8 (Z7 yat gk hr (by decide) rfl (G4 (G9 (pv 3)) L8))) (B5 (A8 (Z7 yaz gk hr (by decide) rfl (G4 (G9 (pv 3)) L8))) (B5 (A8 (Z7 yav gk hr (by decide) rfl (G4 (G9 (pv 2)) L8))) (B5 (A8 (Z7 yas gk hr (by decide) rfl (G4 (G9 (pv 2)) L8))) L6))))))))) (K7 4 sc.nd))
   (E2 (H8 (A8 (L7 gk (A4 (pv 4)) (M6 (B5 (A8 (Z7 yau gk hr (by decide) rfl (G4 (G9 (pv 2)) L8))) (B5 (A8 (A72 yay gk hr (by decide) rfl)) L6))))) (K7 4 sc.nd))
   (E2 (A8v (passes_of rfl) rfl (A1G rfl Z.n_range (D7 wab G5)) (K7 5 sc.nd) (E2 (H8 (A8 (M6 (B5 (A8 (A4E gk hu (A4 (pv 5)) (M6 (B5 (A8 wab) (B5 (A8 wab) (B5 (A8 wab) (B5 (A8 wab) (B5 (A8 wab) (B5 (A8 wab) L6))))))))) (B5 (A8 (A4E gk hu (A4 (pv 5)) (M6 (B5 (A8 wab) (B5 (A8 wab) (B5 (A8 wab) L6)))))) L6)))) (K7 6 sc.nd))
   (I6 (R1 (A36 (v8 (c6 gk yah A0A hr (by decide) rfl tk (G4 (A8 (c6 gk yan A5v hr (by decide) rfl tk (G4 (A8 (E6 gk (A4 (pv 4)) (A4 (pv 5)) (λ_ _=> rfl))) L8))) (G4 (A8 (L7 gk (A1p (own:=[("_law_spot",7)]) rfl sc.nd (A1G rfl Z.n_range (D7 wab G5)) (blkOk_by (by first | (show blkC A1u (defScope j9) _ _=true;decide+kernel) | rfl)) (by decide) (λ_ _ _ _ _=> (K7 7 sc.nd)) (λ_ _ _ _ _=> A1Q) (λ_ _ _ _ _=> (A8 (A0j gk hu (A4 (pv 5)) (A4 (pv 7)))))) (A4 (pv 6)))) L8))))) (I6 (M4 A0n)) W5))))
   (E2 (H8 (A8 (M6 (B5 (A8 (Y5 gk Z.f_name (E6 gk (A4 (pv 4)) wab (λ_ _=> rfl)))) (B5 (A8 (Y5 gk Z.f_cask (E6 gk (A4 (pv 4)) wab (λ_ _=> rfl)))) (B5 (A8 (Y5 gk Z.f_rank (E6 gk (A4 (pv 4)) wab (λ_ _=> rfl)))) (B5 (A8 (Y5 gk Z.f_name (E6 gk (A4 (pv 4)) wab (λ_ _=> rfl)))) (B5 (A8 (Y5 gk Z.f_name (E6 gk (A4 (pv 4)) wab (λ_ _=> rfl)))) (B5 (A8 (Y5 gk Z.f_step (E6 gk (A4 (pv 4)) wab (λ_ _=> rfl)))) (B5 (A8 (Y5 gk Z.f_most (E6 gk (A4 (pv 4)) wab (λ_ _=> rfl)))) L6))))))))) (K7 8 sc.nd))
   (E2 (R1 (A36 (v8 (c6 gk yah A0A hr (by decide) rfl tk (G4 (A8 (L7 gk (A4 (pv 8)) (M6 (B5 (A8 (Y5 gk Z.f_most (E6 gk (A4 (pv 4)) wab (λ_ _=> rfl)))) L6)))) (G4 (A8 (M6 (B5 (G9 (pv 3)) (B5 (G9 (pv 2)) (B5 (G9 (pv 2)) (B5 (G9 (pv 3)) (B5 (G9 (pv 3)) (B5 (G9 (pv 2)) (B5 (G9 (pv 2)) (B5 (G9 (pv 2)) L6)))))))))) L8))))) (I6 (M4 A0n)) W5)
   (E2 (H8 (A8 (M6 (B5 (A8 W9) (B5 (A8 W9) (B5 (A8 W9) (B5 (A8 W9) (B5 (A8 W9) (B5 (A8 W9) (B5 (A8 W9) (B5 (A8 W9) L6)))))))))) (K7 9 sc.nd))
   (I6 (M4 (c6 gk yah A0A hr (by decide) rfl tk (G4 (A8 (A1p (own:=[("_law_e",10)]) rfl sc.nd (B0I gk (G9 (pv 4))) (blkOk_by (by first | (show blkC A1u (defScope j9) _ _=true;decide+kernel) | rfl)) (by decide) (λ_ _ _ _ _=> (K7 10 sc.nd)) (λ_ _ _ _ _=> A1Q) (λ_ _ _ _ _=> (A8 (Y5 gk Z.f_word (A4 (pv 10))))))) (G4 (A8 (L7 gk (A4 (pv 9)) (M6 (B5 (A8 W9) L6)))) L8))))))))))))))) A9S
end
theorem hFacts {P:Program} {w:World} {K:PySem.W.Frag} {h:Heap} {mg:Str->Option Value} {f:Addr} (X:K.In h) (G:h.Ns mainGlobals mg) (hfa:mg ("law":Str)=some (.ref f)) (c:He.SaysD hFa hFn K) (x:hEx K=true):
  ∃fd:FuncData,(∀(s:Shared) (v:Value),BindsTo s fd ⟨[v],[]⟩ [("_law_script",v)])/\∀base:Heap,(∀p∈(b5 K).map (·.1),LamX.TabB base mg p.1 p.2)->FnOk P w K mg base (Ab.CX P w) 10 f fd A0l (M0 K 1 (upc m_law)):=by
 obtain ⟨yaJ,yaD⟩:=c.def_ 0 (d:=A20) rfl
 have g__law_open:=He.glo_ok X G (c.fact 0 (f:= .glo "_law_open") rfl)
 obtain ⟨yaK,yaE⟩:=c.def_ 1 (d:=A2x) rfl
 have g__law_take:=He.glo_ok X G (c.fact 1 (f:= .glo "_law_take") rfl)
 obtain ⟨yaL,yaF⟩:=c.def_ 2 (d:=A2u) rfl
 have g__law_same:=He.glo_ok X G (c.fact 2 (f:= .glo "_law_same") rfl)
 obtain ⟨yaI,yaC⟩:=c.def_ 3 (d:=A2q) rfl
 have g__law_flags:=He.glo_ok X G (c.fact 3 (f:= .glo "_law_flags") rfl)
 obtain ⟨yaH,yaG⟩:=c.def_ 4 (d:=A4h) rfl
 have g_law:=He.glo_ok X G (c.fact 4 (f:= .glo "law") rfl)
 unfold hEx at x
 simp only [Bool.and_eq_true] at x
 have h_InUse:=He.glo_ok X G (c.fact 15 (f:= .glo "InUse") rfl)
 obtain ⟨fdi_InUse,Fi_InUse⟩:=c.def_ 5 (d:=A3L) rfl
 have h_NoCask:=He.glo_ok X G (c.fact 16 (f:= .glo "NoCask") rfl)
 obtain ⟨fdi_NoCask,Fi_NoCask⟩:=c.def_ 6 (d:=A3A) rfl
 have h_NoDrop:=He.glo_ok X G (c.fact 17 (f:= .glo "NoDrop") rfl)
 obtain ⟨fdi_NoDrop,Fi_NoDrop⟩:=c.def_ 7 (d:=A27) rfl
 have h_NoRound:=He.glo_ok X G (c.fact 18 (f:= .glo "NoRound") rfl)
 obtain ⟨fdi_NoRound,Fi_NoRound⟩:=c.def_ 8 (d:=A23) rfl
 have h_Taken:=He.glo_ok X G (c.fact 19 (f:= .glo "Taken") rfl)
 obtain ⟨fdi_Taken,Fi_Taken⟩:=c.def_ 9 (d:=A3G) rfl
 have h_Tapped:=He.glo_ok X G (c.fact 20 (f:= .glo "Tapped") rfl)
 obtain ⟨fdi_Tapped,Fi_Tapped⟩:=c.def_ 10 (d:=A3E) rfl
 have h_TooLong:=He.glo_ok X G (c.fact 21 (f:= .glo "TooLong") rfl)
 obtain ⟨fdi_TooLong,Fi_TooLong⟩:=c.def_ 11 (d:=A24) rfl
 have h_TooMany:=He.glo_ok X G (c.fact 22 (f:= .glo "TooMany") rfl)
 obtain ⟨fdi_TooMany,Fi_TooMany⟩:=c.def_ 12 (d:=A22) rfl
 have h_Unlike:=He.glo_ok X G (c.fact 23 (f:= .glo "Unlike") rfl)
 obtain ⟨fdi_Unlike,Fi_Unlike⟩:=c.def_ 13 (d:=A25) rfl
 have Z:Blt K w mg:=⟨He.free_ok X G (c.fact 5 (f:= .free "LookupError") rfl),
  He.free_ok X G (c.fact 6 (f:= .free "all") rfl),
  He.free_ok X G (c.fact 7 (f:= .free "bool") rfl),
  He.free_ok X G (c.fact 8 (f:= .free "int") rfl),
  He.free_ok X G (c.fact 9 (f:= .free "isinstance") rfl),
  He.free_ok X G (c.fact 10 (f:= .free "len") rfl),
  He.free_ok X G (c.fact 11 (f:= .free "list") rfl),
  He.free_ok X G (c.fact 12 (f:= .free "range") rfl),
  He.free_ok X G (c.fact 13 (f:= .free "str") rfl),
  He.free_ok X G (c.fact 14 (f:= .free "tuple") rfl),
  j2 x.1.1.1.1.1.1.1.1.1.1.1.1.1.1.1.1.1.2,
  j2 x.1.1.1.1.1.1.1.1.1.1.1.1.1.1.1.1.2,
  j2 x.1.1.1.1.1.1.1.1.1.1.1.1.1.1.1.2,
  j2 x.1.1.1.1.1.1.1.1.1.1.1.1.1.1.2,
  j2 x.1.1.1.1.1.1.1.1.1.1.1.1.1.2,
  j2 x.1.1.1.1.1.1.1.1.1.1.1.1.2,
  A8W x.1.1.1.1.1.1.1.1.1.1.1.2,
  He.glo_ok X G (c.fact 24 (f:= .glo "HideError") rfl),
  h_InUse,
  h_NoCask,
  h_NoDrop,
  h_NoRound,
  h_Taken,
  h_Tapped,
  h_TooLong,
  h_TooMany,
  h_Unlike,
  Q7 x.1.1.1.1.1.1.1.1.1.1.2,
  Q7 x.1.1.1.1.1.1.1.1.1.2,
  Q7 x.1.1.1.1.1.1.1.1.2,
  Q7 x.1.1.1.1.1.1.1.2,
  Q7 x.1.1.1.1.1.1.2,
  Q7 x.1.1.1.1.1.2,
  Q7 x.1.1.1.1.2,
  Q7 x.1.1.1.2,
  Q7 x.1.1.2,
  Q7 x.1.2,
  Q7 x.2⟩
 have e:=hfa.symm.trans g_law
 cases e
 have b:=FunD.bindsA (ps:=A0l) yaG λ_ _ _ _ _ _ us hl=> match us,hl with | [_],_=> rfl
 refine ⟨yaH,λs v=> b s [v] rfl,λbase TBs=> ?_⟩
 have yaA:XkOk P w K mg base "InUse" "in use" ["name"]:=b7 (Y8 x.1.1.1.1.1.1.1.1.1.1.1.1.1.1.1.1.1.1.1.1.1.1.1.1.1.1) h_InUse Fi_InUse A6j (λ_ _ _ _ _ _ us hl=> match us,hl with | [_,_],_=> rfl)
 have yax:XkOk P w K mg base "NoCask" "no cask" ["cask"]:=b7 (Y8 x.1.1.1.1.1.1.1.1.1.1.1.1.1.1.1.1.1.1.1.1.1.1.1.1.1.2) h_NoCask Fi_NoCask A6R (λ_ _ _ _ _ _ us hl=> match us,hl with | [_,_],_=> rfl)
 have yaw:XkOk P w K mg base "NoDrop" "no drop" ["rank"]:=b7 (Y8 x.1.1.1.1.1.1.1.1.1.1.1.1.1.1.1.1.1.1.1.1.1.1.1.1.2) h_NoDrop Fi_NoDrop A6J (λ_ _ _ _ _ _ us hl=> match us,hl with | [_,_],_=> rfl)
 have yat:XkOk P w K mg base "NoRound" "no round" ["name"]:=b7 (Y8 x.1.1.1.1.1.1.1.1.1.1.1.1.1.1.1.1.1.1.1.1.1.1.1.2) h_NoRound Fi_NoRound A6F (λ_ _ _ _ _ _ us hl=> match us,hl with | [_,_],_=> rfl)
 have yaz:XkOk P w K mg base "Taken" "taken" ["name"]:=b7 (Y8 x.1.1.1.1.1.1.1.1.1.1.1.1.1.1.1.1.1.1.1.1.1.1.2) h_Taken Fi_Taken A6s (λ_ _ _ _ _ _ us hl=> match us,hl with | [_,_],_=> rfl)
 have yav:XkOk P w K mg base "Tapped" "tapped" ["step"]:=b7 (Y8 x.1.1.1.1.1.1.1.1.1.1.1.1.1.1.1.1.1.1.1.1.1.2) h_Tapped Fi_Tapped A6K (λ_ _ _ _ _ _ us hl=> match us,hl with | [_,_],_=> rfl)
 have yas:XkOk P w K mg base "TooLong" "too long" ["most"]:=b7 (Y8 x.1.1.1.1.1.1.1.1.1.1.1.1.1.1.1.1.1.1.1.1.2) h_TooLong Fi_TooLong A6C (λ_ _ _ _ _ _ us hl=> match us,hl with | [_,_],_=> rfl)
 have yau:XkOk P w K mg base "TooMany" "too many" ["most"]:=b7 (Y8 x.1.1.1.1.1.1.1.1.1.1.1.1.1.1.1.1.1.1.1.2) h_TooMany Fi_TooMany A6G (λ_ _ _ _ _ _ us hl=> match us,hl with | [_,_],_=> rfl)
 have yay:XkOk P w K mg base "Unlike" "unlike" []:=xk0 (Y8 x.1.1.1.1.1.1.1.1.1.1.1.1.1.1.1.1.1.1.2) h_Unlike Fi_Unlike A6I (λ_ _ _ _ _ _ us hl=> match us,hl with | [_],_=> rfl)
 have yao:=A57 (P:=P) (w:=w) (base:=base) Z yaD g__law_open
 have yap:=A59 (P:=P) (w:=w) (base:=base) Z yaE g__law_take
 have yah:=A2w (P:=P) (w:=w) (base:=base) Z yaF g__law_same 8
 have yan:=A5w (P:=P) (w:=w) (base:=base) Z yaC g__law_flags
 have yaM:=o_law (P:=P) (w:=w) (base:=base) Z yaG g_law yao yap yah yan yas yav yaz yat yaw yax yaA yay yau
 obtain ⟨f2,fd2,hm2,FD2,F2⟩:=yaM.ex
 have e2:=hm2.symm.trans g_law
 cases e2
 have e3:fd2=yaH:=FunD.one FD2 yaG
 rw [<-e3]
 exact F2
end Ab
open PySem PySem.W PySem.Calls PyProof.Rows
theorem PySem.Challenge.cw_hidelater_k69_classes_apart_holds : PySem.Challenge.rw_hidelater_k69_classes_apart.Holds := by
 w_on;o_law
 refine HandSHeadRun.head_any (r:=OpenLaw.row PySem.Challenge.rw_hidelater_k69_classes_apart) (q:=view (OpenLaw.row PySem.Challenge.rw_hidelater_k69_classes_apart).prog [17]) (H:=Ab.hHk) (ob:=Ab.hOb) (M:=3000) (loose:=Ab.hNms) (d:=HandSHeadRun.topDef (OpenLaw.row PySem.Challenge.rw_hidelater_k69_classes_apart).prog 17) (kwd:=[]) Ab.hOb_eq
  (by kernel_rfl) (λs=> by kernel_rfl) Ab.hRun (by kernel_rfl) (by kernel_rfl) (by kernel_rfl) (by rfl) (by first | assumption | decide+kernel) (by decide+kernel) ⟨rfl,rfl,rfl,rfl,rfl,by decide+kernel⟩ ?hw ?hc
 case hw=> w_witness2
 case hc=>
  refine Ab.walk_end (l:=PySem.Challenge.rw_hidelater_k69_classes_apart) (j:=10) (y:="_law_script") rfl (by kernel_rfl) ⟨rfl,by decide,by decide⟩ ?F
  intro w mg fa h Y G hmg0
  obtain ⟨K,KX,⟨c,ex⟩,no,te⟩:=Y
  have hmg:mg ("law":PySem.Str)=some (.ref fa):=by
   have e:(HandSHeadRun.topDef (OpenLaw.row PySem.Challenge.rw_hidelater_k69_classes_apart).prog 17).name=("law":PySem.Str):=by kernel_rfl
   rw [<-e]
   exact hmg0
  obtain ⟨fd,hb,hF⟩:=Ab.hFacts (P:=(PySem.Challenge.rw_hidelater_k69_classes_apart).prog) (w:=w) KX G hmg c ex
  exact ⟨K,fd,Ab.upc Ab.m_law,KX,no,te,Ab.law_says,hb,hF⟩
