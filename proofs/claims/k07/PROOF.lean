import PyProof.Rows.All
import Wide.All
import OpenK.AllK
import Wide.FinOn
import HandS.ForExc
import HandS.ForMost
import HandS.Defaults
import HandS.Lambda
import HandS.HeadHook1
import KE.DataEq
import HandS.TupAny
import HandS.IsInst
import HandS.Wide
import HandS.TupMul
import HandS.Codes
import HandS.Zip
import PyProof.CollectIter
import PyProof.WalksMore
import KE.GoesEnum
import KE.GoesZip
import KE.KItemsList
import HandS.Conv
import HandS.TryOnly
import HandS.SortInts
import HandS.Dict
import HandS.Head0
import HandS.Head1
import HandS.Head2
import HandS.HeadEnd
import HandS.HeadHook2
import HandS.HeadHook4
import HandS.HeadWalk
import HandS.EndTab
import HandS.ExcInit
import HandS.ExcField
import KE.KMinKey
import HandS.SortKw
import HandS.NoneIn
import KE.KDictDisplayH
import HandS.Style
import HandS.SetFor
import HandS.CallSlots
import HandS.WordsDict
import HandS.DictComp
import HandS.Iter
import HandS.OwnEq
import KE.KFmtOwn
import PyProof.InstNe
import HandS.MakeKwOnly
import HandS.FStr
import KE.KEqDict
import PyProof.NeKinds
import HandS.Small
import HandS.Finally
import HandS.More
import HandS.Text
import HandS.RaiseMore
import HandS.MapJoin
import HandS.HeadHook3
import KE.KIntText
import KE.IntTextText
import PySem.Challenge.RW_hidelater_k07_texts_that_are_no_steps
set_option Elab.async false
set_option linter.all false
set_option maxRecDepth 100000
set_option maxHeartbeats 0
namespace Ab
open PySem PySem.Spec PyProof.Rows L2
inductive W where
  | non | bl (b:Bool) | int (i:Int) | str (x:Str) | tup (xs:List W) | lst (xs:List W) | dct (ks vs:List W) | ref (a:Addr) | ty (n:String)
instance:Inhabited W:=⟨.non⟩
def V7:W→Option Key
  | .int i=> some (.inl i)
  | .str x=> some (.inr x)
  | _=> none
def A9u:List W→Option (List Key)
  | []=> some []
  | w::ws=> match V7 w,A9u ws with
    | some k,some ks=> some (k::ks)
    | _,_=> none
def A6s:W→Option (List Key)
  | .tup ws=> A9u ws
  | _=> none
def Imm:HO→Prop
  | .tup _=> True
  | .frz _ _=> True
  | _=> False
def LsF (H:Hp) (a:Addr) (vs:List V):Prop:=∃o,H a=some (.frz o (.lst vs))
theorem LsF.sq {K:PySem.W.Frag} {H:Hp} {a:Addr} {vs:List V} (h:LsF H a vs):SqL K H a vs:=let ⟨o,h⟩:=h;.inl (.inr ⟨o,h⟩)
def TqT (K:PySem.W.Frag) (H:Hp) (a:Addr) (xs:List V):Prop:=
  H a=some (.tup xs)∨xs≠[]∧∃(o:Obj) (its:Array Value) (n:Nat),K.lookup a=some o∧o.cls= .type "tuple"∧o.data= .seq its n∧its.size≤sizeLine∧Vals xs its.toList
theorem TqT.sq {K:PySem.W.Frag} {H:Hp} {a:Addr} {xs:List V} (h:TqT K H a xs):SqT K H a xs:=h.imp .inl (·.2)
mutual
def Rep (K:PySem.W.Frag) (H:Hp):W→V→Prop
  | .non,v=> v= .non
  | .bl b,v=> v= .bl b
  | .int i,v=> v= .int i
  | .str x,v=> v= .str x
  | .tup ws,v=> ∃a vs,v= .ref a∧TqT K H a vs∧RepL K H ws vs
  | .lst ws,v=> ∃a vs,v= .ref a∧LsF H a vs∧RepL K H ws vs
  | .dct ks ws,v=> ∃a,v= .ref a∧((∃o kvs,H a=some (.frz o (.dK kvs))∧ks.map V7=kvs.map (fun p=> some p.1)∧RepL K H ws (kvs.map (·.2)))∨
      ∃o kvs,H a=some (.frz o (.dT kvs))∧(∃r,ks= .lst []::r∧r.map A6s=kvs.map (fun p=> some p.1))∧RepL K H ws (.non::kvs.map (·.2)))
  | .ref a,v=> v= .ref a
  | .ty n,v=> v= .ty n
def RepL (K:PySem.W.Frag) (H:Hp):List W→List V→Prop
  | [],vs=> vs=[]
  | w::ws,vs=> ∃v r,vs=v::r∧Rep K H w v∧RepL K H ws r
end
def Keeps (H H':Hp):Prop:=∀a o,H a=some o→Imm o→H' a=some o
theorem Keeps.refl (H:Hp):Keeps H H:=fun _ _ h _=> h
theorem Keeps.trans {H H1 H2:Hp} (a:Keeps H H1) (b:Keeps H1 H2):Keeps H H2:=fun p o h i=> b p o (a p o h i) i
theorem Keeps.tqT {K:PySem.W.Frag} {H H':Hp} (k:Keeps H H') {a:Addr} {vs:List V} (h:TqT K H a vs):TqT K H' a vs:=h.imp (fun e=> k _ _ e trivial) id
theorem Keeps.sqT {K:PySem.W.Frag} {H H':Hp} (k:Keeps H H') {a:Addr} {vs:List V} (h:SqT K H a vs):SqT K H' a vs:=by
  rcases h with (h | ⟨o,h⟩) | h
  · exact .inl (.inl (k _ _ h trivial))
  · exact .inl (.inr ⟨o,k _ _ h trivial⟩)
  · exact .inr h
theorem Keeps.lsF {H H':Hp} (k:Keeps H H') {a:Addr} {vs:List V} (h:LsF H a vs):LsF H' a vs:=let ⟨o,h⟩:=h;⟨o,k _ _ h trivial⟩
mutual
theorem Rep.mono {K:PySem.W.Frag} {H H':Hp} (k:Keeps H H'):∀(w:W) (v:V),Rep K H w v→Rep K H' w v
  | .non,_,h=> by simpa only [Rep] using h
  | .bl _,_,h=> by simpa only [Rep] using h
  | .int _,_,h=> by simpa only [Rep] using h
  | .str _,_,h=> by simpa only [Rep] using h
  | .ref _,_,h=> by simpa only [Rep] using h
  | .ty _,_,h=> by simpa only [Rep] using h
  | .tup ws,v,h=> by
    simp only [Rep] at h ⊢
    obtain ⟨a,vs,e,s,r⟩:=h
    exact ⟨a,vs,e,k.tqT s,RepL.mono k ws vs r⟩
  | .lst ws,v,h=> by
    simp only [Rep] at h ⊢
    obtain ⟨a,vs,e,s,r⟩:=h
    exact ⟨a,vs,e,k.lsF s,RepL.mono k ws vs r⟩
  | .dct ks ws,v,h=> by
    simp only [Rep] at h ⊢
    obtain ⟨a,e,⟨o,kvs,s,t,r⟩ | ⟨o,kvs,s,t,r⟩⟩:=h
    · exact ⟨a,e,.inl ⟨o,kvs,k _ _ s trivial,t,RepL.mono k ws _ r⟩⟩
    · exact ⟨a,e,.inr ⟨o,kvs,k _ _ s trivial,t,RepL.mono k ws _ r⟩⟩
theorem RepL.mono {K:PySem.W.Frag} {H H':Hp} (k:Keeps H H'):∀(ws:List W) (vs:List V),RepL K H ws vs→RepL K H' ws vs
  | [],vs,h=> by simpa only [RepL] using h
  | w::ws,vs,h=> by
    simp only [RepL] at h ⊢
    obtain ⟨v,r,e,a,b⟩:=h
    exact ⟨v,r,e,Rep.mono k w v a,RepL.mono k ws r b⟩
end
section
variable {K:PySem.W.Frag} {H:Hp}
theorem Rep.of_int {i:Int} {v:V} (h:Rep K H (.int i) v):v= .int i:=by simpa only [Rep] using h
theorem Rep.of_str {i:Str} {v:V} (h:Rep K H (.str i) v):v= .str i:=by simpa only [Rep] using h
theorem Rep.of_bl {i:Bool} {v:V} (h:Rep K H (.bl i) v):v= .bl i:=by simpa only [Rep] using h
theorem Rep.of_non {v:V} (h:Rep K H .non v):v= .non:=by simpa only [Rep] using h
theorem Rep.of_ref {a:Addr} {v:V} (h:Rep K H (.ref a) v):v= .ref a:=by simpa only [Rep] using h
theorem Rep.of_ty {n:String} {v:V} (h:Rep K H (.ty n) v):v= .ty n:=by simpa only [Rep] using h
theorem Rep.of_tupT {ws:List W} {v:V} (h:Rep K H (.tup ws) v):∃a vs,v= .ref a∧TqT K H a vs∧RepL K H ws vs:=by simpa only [Rep] using h
theorem Rep.of_tup {ws:List W} {v:V} (h:Rep K H (.tup ws) v):∃a vs,v= .ref a∧SqT K H a vs∧RepL K H ws vs:=let ⟨a,vs,e,s,r⟩:=h.of_tupT;⟨a,vs,e,s.sq,r⟩
theorem Rep.of_lst {ws:List W} {v:V} (h:Rep K H (.lst ws) v):∃a vs,v= .ref a∧LsF H a vs∧RepL K H ws vs:=by simpa only [Rep] using h
theorem Rep.int {i:Int}:Rep K H (.int i) (.int i):=by simp only [Rep]
theorem Rep.str {i:Str}:Rep K H (.str i) (.str i):=by simp only [Rep]
theorem Rep.bl {i:Bool}:Rep K H (.bl i) (.bl i):=by simp only [Rep]
theorem Rep.non:Rep K H .non .non:=by simp only [Rep]
theorem Rep.ref {a:Addr}:Rep K H (.ref a) (.ref a):=by simp only [Rep]
theorem Rep.ty {n:String}:Rep K H (.ty n) (.ty n):=by simp only [Rep]
theorem Rep.tup {ws:List W} {a:Addr} {vs:List V} (s:TqT K H a vs) (r:RepL K H ws vs):Rep K H (.tup ws) (.ref a):=by
  simp only [Rep];exact ⟨a,vs,rfl,s,r⟩
theorem Rep.lst {ws:List W} {a:Addr} {vs:List V} (s:LsF H a vs) (r:RepL K H ws vs):Rep K H (.lst ws) (.ref a):=by
  simp only [Rep];exact ⟨a,vs,rfl,s,r⟩
theorem RepL.nil:RepL K H [] []:=by simp only [RepL]
theorem RepL.cons {w:W} {ws:List W} {v:V} {vs:List V} (a:Rep K H w v) (b:RepL K H ws vs):RepL K H (w::ws) (v::vs):=by
  simp only [RepL];exact ⟨v,vs,rfl,a,b⟩
theorem RepL.of_nil {vs:List V} (h:RepL K H [] vs):vs=[]:=by simpa only [RepL] using h
theorem RepL.of_cons {w:W} {ws:List W} {vs:List V} (h:RepL K H (w::ws) vs):∃v r,vs=v::r∧Rep K H w v∧RepL K H ws r:=by simpa only [RepL] using h
theorem RepL.length:∀{ws:List W} {vs:List V},RepL K H ws vs→ws.length=vs.length
  | [],vs,h=> by rw [h.of_nil];rfl
  | w::ws,vs,h=> by
    obtain ⟨v,r,e,_,t⟩:=h.of_cons
    rw [e,List.length_cons,List.length_cons,t.length]
theorem RepL.get:∀{ws:List W} {vs:List V} {i:Nat} {w:W},RepL K H ws vs→ws[i]? =some w→∃v,vs[i]? =some v∧Rep K H w v
  | [],_,_,_,_,e=> by simp at e
  | w::ws,vs,0,x,h,e=> by
    obtain ⟨v,r,rfl,a,_⟩:=h.of_cons
    simp at e;subst e;exact ⟨v,rfl,a⟩
  | w::ws,vs,i+1,x,h,e=> by
    obtain ⟨v,r,rfl,_,t⟩:=h.of_cons
    obtain ⟨u,h1,h2⟩:=t.get (i:=i) (by simpa using e)
    exact ⟨u,by simpa using h1,h2⟩
theorem RepL.append:∀{ws xs:List W} {vs us:List V},RepL K H ws vs→RepL K H xs us→RepL K H (ws++xs) (vs++us)
  | [],xs,vs,us,h,g=> by rw [h.of_nil];exact g
  | w::ws,xs,vs,us,h,g=> by
    obtain ⟨v,r,rfl,a,t⟩:=h.of_cons
    exact .cons a (t.append g)
theorem RepL.set:∀{ws:List W} {vs:List V} (i:Nat) {w:W} {v:V},RepL K H ws vs→Rep K H w v→RepL K H (ws.set i w) (vs.set i v)
  | [],vs,i,w,v,h,g=> by rw [h.of_nil];exact .nil
  | x::ws,vs,0,w,v,h,g=> by
    obtain ⟨u,r,rfl,a,t⟩:=h.of_cons
    exact .cons g t
  | x::ws,vs,i+1,w,v,h,g=> by
    obtain ⟨u,r,rfl,a,t⟩:=h.of_cons
    exact .cons a (t.set i g)
theorem RepL.take:∀{ws:List W} {vs:List V} (n:Nat),RepL K H ws vs→RepL K H (ws.take n) (vs.take n)
  | _,_,0,_=> .nil
  | [],vs,n+1,h=> by rw [h.of_nil];exact .nil
  | w::ws,vs,n+1,h=> by
    obtain ⟨v,r,rfl,a,t⟩:=h.of_cons
    exact .cons a (t.take n)
theorem RepL.drop:∀{ws:List W} {vs:List V} (n:Nat),RepL K H ws vs→RepL K H (ws.drop n) (vs.drop n)
  | _,_,0,h=> h
  | [],vs,n+1,h=> by rw [h.of_nil];exact .nil
  | w::ws,vs,n+1,h=> by
    obtain ⟨v,r,rfl,a,t⟩:=h.of_cons
    exact t.drop n
theorem RepL.eraseIdx:∀{ws:List W} {vs:List V} (i:Nat),RepL K H ws vs→RepL K H (ws.eraseIdx i) (vs.eraseIdx i)
  | [],vs,i,h=> by rw [h.of_nil];exact .nil
  | w::ws,vs,0,h=> by
    obtain ⟨v,r,rfl,a,t⟩:=h.of_cons
    exact t
  | w::ws,vs,i+1,h=> by
    obtain ⟨v,r,rfl,a,t⟩:=h.of_cons
    exact .cons a (t.eraseIdx i)
theorem RepL.rep {ws:List W} {vs:List V} (h:RepL K H ws vs):∀k:Nat,RepL K H (List.replicate k ws).flatten (List.replicate k vs).flatten
  | 0=> .nil
  | k+1=> by
    rw [List.replicate_succ,List.replicate_succ,List.flatten_cons,List.flatten_cons]
    exact h.append (h.rep k)
theorem RepL.ints {ns:List Int}:RepL K H (ns.map W.int) (ns.map V.int):=by
  induction ns with
  | nil=> exact .nil
  | cons n r ih=> exact .cons .int ih
theorem RepL.of_ints {ns:List Int} {vs:List V} (h:RepL K H (ns.map W.int) vs):vs=ns.map V.int:=by
  induction ns generalizing vs with
  | nil=> exact h.of_nil
  | cons n r ih=>
    obtain ⟨v,t,rfl,a,b⟩:=h.of_cons
    rw [a.of_int,ih b];rfl
theorem RepL.of_bls {ns:List Bool} {vs:List V} (h:RepL K H (ns.map W.bl) vs):vs=ns.map V.bl:=by
  induction ns generalizing vs with
  | nil=> exact h.of_nil
  | cons n r ih=>
    obtain ⟨v,t,rfl,a,b⟩:=h.of_cons
    rw [a.of_bl,ih b];rfl
theorem RepL.of_strs {ns:List Str} {vs:List V} (h:RepL K H (ns.map W.str) vs):vs=ns.map V.str:=by
  induction ns generalizing vs with
  | nil=> exact h.of_nil
  | cons n r ih=>
    obtain ⟨v,t,rfl,a,b⟩:=h.of_cons
    rw [a.of_str,ih b];rfl
end
inductive Cont where
  | seq (ws:List W) | map (kvs:List (W×W))
def Cont.fz:Cont→W
  | .seq ws=> .lst ws
  | .map kvs=> .dct (kvs.map (·.1)) (kvs.map (·.2))
inductive AO where
  | cont (c:Cont) | ins (C:Str) (fs:List (Str×W))
abbrev AH:=Addr→Option AO
inductive SV where
  | val (w:W) | own (c:Cont)
abbrev A1:=List (Option SV)
def CRep (K:PySem.W.Frag) (H:Hp) (p:Addr):Cont→Prop
  | .seq ws=> ∃vs,H p=some (.lst vs)∧RepL K H ws vs
  | .map kvs=> (∃ks,H p=some (.dK ks)∧(kvs.map (·.1)).map V7=ks.map (fun q=> some q.1)∧RepL K H (kvs.map (·.2)) (ks.map (·.2)))∨
      ∃ks,H p=some (.dT ks)∧(∃r,kvs.map (·.1)= .lst []::r∧r.map A6s=ks.map (fun q=> some q.1))∧RepL K H (kvs.map (·.2)) (.non::ks.map (·.2))
def FRep (K:PySem.W.Frag) (H:Hp) (fs:List (Str×W)) (vs:List (Str×V)):Prop:=fs.map (·.1)=vs.map (·.1)∧RepL K H (fs.map (·.2)) (vs.map (·.2))
def ORep (K:PySem.W.Frag) (H:Hp) (a:Addr):AO→Prop
  | .cont c=> CRep K H a c
  | .ins C fs=> ∃dx vs,H a=some (.ins (He.ga K C) dx vs)∧FRep K H fs vs
def Mu:HO→Prop
  | .lst _=> True
  | .dK _=> True
  | .dT _=> True
  | .ins _ _ _=> True
  | _=> False
theorem Mu.mut {o:HO} (h:Mu o):Mut (some o):=by cases o <;> first | trivial | exact h.elim
def NT (o:HO):Prop:=∀ps,o≠ .tbl ps
theorem Mu.nt {o:HO} (h:Mu o):NT o:=fun _ e=> by subst e;exact h
theorem Imm.nt {o:HO} (h:Imm o):NT o:=fun _ e=> by subst e;exact h
def B0E:Addr:=builtinsNs
def cs1 (K:PySem.W.Frag) (p:Addr×Obj):Option ((Addr×Addr)×Str):=match p.2.data with
  | .fields vs=> (match vs.getD 11 .none,vs.getD 1 .none with
    | .ref P,.str q _=> some ((p.1,P),q++".<locals>."++"<lambda>")
    | _,_=> none)
  | _=> none
def A0V (K:PySem.W.Frag):List ((Addr×Addr)×Str):=((K.dropWhile fun p=> decide (p.1≠B0E)).tail).filterMap (cs1 K)
def A2e (K:PySem.W.Frag):List (Addr×Str):=(A0V K).map fun p=> (p.1.2,p.2)
abbrev TabsK (K:PySem.W.Frag) (H:Hp):Prop:=LamX.Tabs (A2e K) H
theorem TabsK.keep {K:PySem.W.Frag} {H H':Hp} (t:TabsK K H) (k:∀a o,H a=some o→(¬Mu o)→H' a=some o):TabsK K H':=fun p hp=> by
  obtain ⟨ps,h1,h2,h3⟩:=t p hp
  refine ⟨ps,k _ _ h1 (fun z=> z),h2,fun pos cv hc=> ?_⟩
  obtain ⟨c,e1,e2⟩:=h3 pos cv hc
  exact ⟨c,e1,k _ _ e2 (fun z=> z)⟩
theorem TabsK.upd {K:PySem.W.Frag} {H:Hp} {p:Addr} {u:HO} (t:TabsK K H) (n:∀o,H p=some o→Mu o):TabsK K (upd H p u):=t.keep fun a o e m=> by
  have ne:a≠p:=fun z=> m (n o (z▸e))
  rw [upd_ne ne];exact e
theorem Mu.imm {o:HO} (h:Mu o):¬Imm o:=by cases o <;> first | exact h.elim | (intro z;exact z)
theorem CRep.there {K:PySem.W.Frag} {H:Hp} {p:Addr} {c:Cont} (h:CRep K H p c):∃o,H p=some o∧Mu o:=by
  cases c with
  | seq ws=> obtain ⟨vs,e,_⟩:=h;exact ⟨_,e,trivial⟩
  | map kvs=>
    rcases h with ⟨ks,e,_⟩ | ⟨ks,e,_⟩
    · exact ⟨_,e,trivial⟩
    · exact ⟨_,e,trivial⟩
theorem CRep.mu_at {K:PySem.W.Frag} {H:Hp} {p:Addr} {c:Cont} {o:HO} (h:CRep K H p c) (e:H p=some o):Mu o:=by
  obtain ⟨u,e',m⟩:=h.there
  rw [e] at e';cases e';exact m
theorem ORep.there {K:PySem.W.Frag} {H:Hp} {p:Addr} {o:AO} (h:ORep K H p o):∃u,H p=some u∧Mu u:=by
  cases o with
  | cont c=> exact CRep.there h
  | ins C fs=> obtain ⟨dx,vs,e,_⟩:=h;exact ⟨_,e,trivial⟩
theorem CRep.mono {K:PySem.W.Frag} {H H':Hp} (k:Keeps H H') {p:Addr} (s:H' p=H p) {c:Cont} (h:CRep K H p c):CRep K H' p c:=by
  cases c with
  | seq ws=> obtain ⟨vs,e,r⟩:=h;exact ⟨vs,s.trans e,RepL.mono k _ _ r⟩
  | map kvs=>
    rcases h with ⟨ks,e,t,r⟩ | ⟨ks,e,t,r⟩
    · exact .inl ⟨ks,s.trans e,t,RepL.mono k _ _ r⟩
    · exact .inr ⟨ks,s.trans e,t,RepL.mono k _ _ r⟩
theorem ORep.mono {K:PySem.W.Frag} {H H':Hp} (k:Keeps H H') {p:Addr} (s:H' p=H p) {o:AO} (h:ORep K H p o):ORep K H' p o:=by
  cases o with
  | cont c=> exact CRep.mono k s h
  | ins C fs=> obtain ⟨dx,vs,e,t,r⟩:=h;exact ⟨dx,vs,s.trans e,t,RepL.mono k _ _ r⟩
structure AExc where
  n:Str
  fs:List (Str×W)
structure Gx where
  K:PySem.W.Frag
  h0:AH
  H0:Hp
def OwnAt (env:A1) (σ:L2.St) (p:Addr):Prop:=∃(i:Nat) (c:Cont),env[i]? =some (some (SV.own c))∧σ[i]? =some (some (V.ref p))
structure BS (G:Gx) (env:A1) (h:AH) (σ:L2.St) (H:Hp):Prop where
  len:env.length=σ.length
  val:∀(i:Nat) (w:W),env[i]? =some (some (SV.val w))→∃v,σ[i]? =some (some v)∧Rep G.K H w v
  own:∀(i:Nat) (c:Cont),env[i]? =some (some (SV.own c))→∃p,σ[i]? =some (some (V.ref p))∧CRep G.K H p c∧h p=none∧G.H0 p=none
  uni:∀(i j:Nat) (c c':Cont) (p:Addr),env[i]? =some (some (SV.own c))→env[j]? =some (some (SV.own c'))→σ[i]? =some (some (V.ref p))→σ[j]? =some (some (V.ref p))→i=j
  hp:∀a o,h a=some o→ORep G.K H a o
  fr:∀p o,G.H0 p=some o→G.h0 p=none→NT o→H p=some o
  ext:∀a o,h a=some o→G.h0 a=none→G.H0 a=none
  tr:∀p o,G.H0 p=some o→∃u,H p=some u
  tabs:TabsK G.K H
structure Xt (env:A1) (h:AH) (σ:L2.St) (H:Hp) (env':A1) (h':AH) (H':Hp):Prop where
  fr:∀p o,H p=some o→h p=none→¬OwnAt env σ p→NT o→H' p=some o
  hn:∀p o,h' p=some o→h p=none→H p=none
  th:∀p o,H p=some o→∃o',H' p=some o'
  sl:∀(i:Nat) (c':Cont),env'[i]? =some (some (SV.own c'))→∃c,env[i]? =some (some (SV.own c))
section
variable {G:Gx} {env env' env2:A1} {h h' h2:AH} {σ:L2.St} {H H' H2:Hp}
theorem BS.imm (S:BS G env h σ H) {p:Addr} {o:HO} (e:H p=some o) (i:Imm o):h p=none∧¬OwnAt env σ p:=by
  refine ⟨?_,fun ⟨j,c,a,b⟩=> ?_⟩
  · cases q:h p with
    | none=> rfl
    | some u=>
      obtain ⟨o',e',m⟩:=(S.hp p u q).there
      rw [e] at e';cases e'
      exact absurd i m.imm
  · obtain ⟨p',b',cr,_⟩:=S.own j c a
    rw [b] at b';cases b'
    obtain ⟨o',e',m⟩:=cr.there
    rw [e] at e';cases e'
    exact absurd i m.imm
theorem Xt.keeps (x:Xt env h σ H env' h' H') (S:BS G env h σ H):Keeps H H':=fun p o e i=> x.fr p o e (S.imm e i).1 (S.imm e i).2 i.nt
theorem Xt.refl:Xt env h σ H env h H:=⟨fun _ _ e _ _ _=> e,fun p o e n=> (by rw [n] at e;cases e),fun _ o e=> ⟨o,e⟩,fun i c e=> ⟨c,e⟩⟩
theorem Xt.own (x:Xt env h σ H env' h' H') {p:Addr} (o:OwnAt env' σ p):OwnAt env σ p:=by
  obtain ⟨i,c,e1,e2⟩:=o
  obtain ⟨c0,z⟩:=x.sl i c e1
  exact ⟨i,c0,z,e2⟩
theorem Xt.trans (a:Xt env h σ H env' h' H') (b:Xt env' h' σ H' env2 h2 H2):Xt env h σ H env2 h2 H2:=by
  refine ⟨fun p o e n w nt=> ?_,fun p o e n=> ?_,fun p o e=> ?_,fun i c e=> ?_⟩
  · refine b.fr p o (a.fr p o e n w nt) ?_ (fun q=> w (a.own q)) nt
    cases q:h' p with
    | none=> rfl
    | some u=> rw [a.hn p u q n] at e;cases e
  · cases q:h' p with
    | none=>
      have z:=b.hn p o e q
      cases q2:H p with
      | none=> rfl
      | some u=>
        obtain ⟨o',e'⟩:=a.th p u q2
        rw [z] at e';cases e'
    | some u=> exact a.hn p u q n
  · obtain ⟨o',e'⟩:=a.th p o e
    exact b.th p o' e'
  · obtain ⟨c1,z⟩:=b.sl i c e
    exact a.sl i c1 z
end
end Ab
namespace Ab
open PySem PySem.Spec PyProof.Rows L2
inductive RV where
  | val (w:W) | own (c:Cont) | slot (i:Nat)
inductive Vw where
  | wv (x:W) | cv (x:Cont) | bad
def A6K:Option (Option SV)→Vw
  | some (some (.val w))=> .wv w
  | some (some (.own c))=> .cv c
  | _=> .bad
def viewW (h:AH):W→Vw
  | .ref a=> match h a with
    | some (.cont c)=> .cv c
    | _=> .wv (.ref a)
  | w=> .wv w
def view (env:A1) (h:AH):RV→Vw
  | .val w=> viewW h w
  | .own c=> .cv c
  | .slot i=> A6K env[i]?
def Vw.toW:Vw→W
  | .wv w=> w
  | .cv c=> c.fz
  | .bad=> .non
def RvRep (G:Gx) (env:A1) (h:AH) (σ:L2.St) (H:Hp):RV→V→Prop
  | .val w,v=> Rep G.K H w v
  | .own c,v=> ∃p,v= .ref p∧CRep G.K H p c∧h p=none∧G.H0 p=none∧¬OwnAt env σ p
  | .slot i,v=> σ[i]? =some (some v)
def VR (K:PySem.W.Frag) (H:Hp):Vw→V→Prop
  | .wv w,v=> Rep K H w v
  | .cv c,v=> ∃p,v= .ref p∧CRep K H p c
  | .bad,_=> True
section
variable {G:Gx} {env env':A1} {h h':AH} {σ:L2.St} {H H':Hp}
theorem VR.viewW (S:BS G env h σ H) {w:W} {v:V} (x:Rep G.K H w v):VR G.K H (viewW h w) v:=by
  cases w with
  | ref a=>
    have e:v= .ref a:=Rep.of_ref x
    subst e
    show VR G.K H (match h a with
      | some (.cont c)=> .cv c
      | _=> .wv (.ref a)) _
    cases q:h a with
    | none=> exact x
    | some o=>
      cases o with
      | cont c=> exact ⟨a,rfl,S.hp a _ q⟩
      | ins C fs=> exact x
  | _=> exact x
theorem RvRep.vr (S:BS G env h σ H) {r:RV} {v:V} (x:RvRep G env h σ H r v):VR G.K H (view env h r) v:=by
  cases r with
  | val w=> exact VR.viewW S x
  | own c=> obtain ⟨p,e,c,_⟩:=x;exact ⟨p,e,c⟩
  | slot i=>
    have e1:σ[i]? =some (some v):=x
    show VR G.K H (A6K env[i]?) v
    cases e2:env[i]? with
    | none=> trivial
    | some o=>
      cases o with
      | none=> trivial
      | some sv=>
        cases sv with
        | val w=>
          obtain ⟨u,e3,r⟩:=S.val i w e2
          rw [e1] at e3;cases e3
          exact r
        | own c=>
          obtain ⟨p,e3,r,_⟩:=S.own i c e2
          rw [e1] at e3;cases e3
          exact ⟨p,rfl,r⟩
theorem RvRep.xt (S:BS G env h σ H) (x:Xt env h σ H env' h' H') {r:RV} {v:V} (a:RvRep G env h σ H r v):RvRep G env' h' σ H' r v:=by
  cases r with
  | val w=> exact Rep.mono (x.keeps S) w v a
  | own c=>
    obtain ⟨p,e,c,n,n0,no⟩:=a
    obtain ⟨o,eo,_⟩:=c.there
    refine ⟨p,e,c.mono (x.keeps S) ((x.fr p o eo n no (c.mu_at eo).nt).trans eo.symm),?_,n0,fun q=> no (x.own q)⟩
    cases q:h' p with
    | none=> rfl
    | some u=> rw [x.hn p u q n] at eo;cases eo
  | slot i=> exact a
def New (H H':Hp):Prop:=∀p o,H p=some o→H' p=some o
theorem New.refl (H:Hp):New H H:=fun _ _ e=> e
theorem New.upd {p:Addr} {o:HO} (n:H p=none):New H (upd H p o):=fun q u e=> by rw [upd_ne (ne_of_none e n)];exact e
theorem New.keeps (n:New H H'):Keeps H H':=fun p o e _=> n p o e
theorem New.xt (n:New H H'):Xt env h σ H env h H':=⟨fun p o e _ _ _=> n p o e,fun p o e q=> (by rw [q] at e;cases e),fun p o e=> ⟨o,n p o e⟩,fun i c e=> ⟨c,e⟩⟩
theorem New.bs (n:New H H') (S:BS G env h σ H):BS G env h σ H' where
  len:=S.len
  val:=fun i w e=> let ⟨v,a,b⟩:=S.val i w e;⟨v,a,Rep.mono n.keeps w v b⟩
  own:=fun i c e=> by
    obtain ⟨p,a,b,d,f⟩:=S.own i c e
    obtain ⟨o,eo,_⟩:=b.there
    exact ⟨p,a,b.mono n.keeps ((n p o eo).trans eo.symm),d,f⟩
  uni:=S.uni
  hp:=fun a o e=> by
    obtain ⟨u,eu,_⟩:=(S.hp a o e).there
    exact (S.hp a o e).mono n.keeps ((n a u eu).trans eu.symm)
  fr:=fun p o e q t=> n p o (S.fr p o e q t)
  ext:=S.ext
  tr:=fun p o e=> let ⟨u,q⟩:=S.tr p o e;⟨u,n p u q⟩
  tabs:=S.tabs.keep fun a o e _=> n a o e
end
abbrev AT:=A1→AH→(RV→A1→AH→Prop)→Prop
abbrev B9:=A1→AH→(W→A1→AH→Prop)→Prop
abbrev E4:=A1→AH→(List W→A1→AH→Prop)→Prop
abbrev G3:=A1→AH→(Bool→A1→AH→Prop)→Prop
def B0 {α:Type} (t:A1→AH→(α→A1→AH→Prop)→Prop):Prop:=∀env h Q Q',(∀r e k,Q r e k→Q' r e k)→t env h Q→t env h Q'
def Q4 (H:Hp):RV→V→Prop
  | .own _,v=> ∀p,v= .ref p→H p=none
  | _,_=> True
def cE (G:Gx) (t:AT):TE:=fun σ H Q=> ∃env h,BS G env h σ H∧t env h fun r env' h'=> ∀v H',BS G env' h' σ H'→Xt env h σ H env' h' H'→RvRep G env' h' σ H' r v→Q4 H r v→Q v H'
def cV (G:Gx) (t:B9):TE:=fun σ H Q=> ∃env h,BS G env h σ H∧t env h fun w env' h'=> ∀v H',BS G env' h' σ H'→Xt env h σ H env' h' H'→Rep G.K H' w v→Q v H'
def cA (G:Gx) (t:E4):TA:=fun σ H Q=> ∃env h,BS G env h σ H∧t env h fun ws env' h'=> ∀vs H',BS G env' h' σ H'→Xt env h σ H env' h' H'→RepL G.K H' ws vs→Q vs H'
def cT (G:Gx) (t:G3):TT:=fun σ H Q=> ∃env h,BS G env h σ H∧t env h fun b env' h'=> ∀H',BS G env' h' σ H'→Xt env h σ H env' h' H'→Q b H'
structure AE (X:Cx) (G:Gx) (e:Expr) (t:AT):Prop where
  mono:B0 t
  pe:PE X e (cE G t)
structure AV (X:Cx) (G:Gx) (e:Expr) (t:B9):Prop where
  mono:B0 t
  pe:PE X e (cV G t)
structure AA (X:Cx) (G:Gx) (es:List Expr) (t:E4):Prop where
  mono:B0 t
  pa:PA X es (cA G t)
structure AP (X:Cx) (G:Gx) (e:Expr) (t:G3):Prop where
  mono:B0 t
  pt:PT X e (cT G t)
theorem PE.imp {X:Cx} {e:Expr} {t t':TE} (h:PE X e t) (i:∀σ H Q,t' σ H Q→t σ H Q):PE X e t':=⟨fun pins s σ H Q I q=> h.run pins s σ H Q I (i σ H Q q)⟩
theorem PA.imp {X:Cx} {e:List Expr} {t t':TA} (h:PA X e t) (i:∀σ H Q,t' σ H Q→t σ H Q):PA X e t':=⟨fun pos pins s σ H Q I q=> h.run pos pins s σ H Q I (i σ H Q q)⟩
theorem PT.imp {X:Cx} {e:Expr} {t t':TT} (h:PT X e t) (i:∀σ H Q,t' σ H Q→t σ H Q):PT X e t':=⟨fun pins s σ H Q I q=> h.run pins s σ H Q I (i σ H Q q)⟩
theorem PS.imp {X:Cx} {e:Stmt} {t t':TS} (h:PS X e t) (i:∀D σ H,t' D σ H→t D σ H):PS X e t':=⟨fun pins s σ H Q I q=> h.run pins s σ H Q I (i Q σ H q)⟩
theorem PSs.imp {X:Cx} {e:List Stmt} {t t':TS} (h:PSs X e t) (i:∀D σ H,t' D σ H→t D σ H):PSs X e t':=⟨fun pins s σ H Q I q=> h.run pins s σ H Q I (i Q σ H q)⟩
section
variable {X:Cx} {G:Gx}
def aVar (i:Nat):AT:=fun env h Q=> match env[i]? with
  | some (some (.val w))=> Q (.val w) env h
  | some (some (.own _))=> Q (.slot i) env h
  | _=> False
def aC (w:W):AT:=fun env h Q=> Q (.val w) env h
theorem aVar.mono {i:Nat}:B0 (aVar i):=fun env h Q Q' k q=> by
  unfold aVar at q ⊢
  split at q
  · exact k _ _ _ q
  · exact k _ _ _ q
  · exact q
theorem aC.mono {w:W}:B0 (aC w):=fun env h Q Q' k q=> k _ _ _ q
theorem A3 {e:Expr} {i:Nat} (h:PE X e (tVar i)):AE X G e (aVar i):=by
  refine ⟨aVar.mono,PE.imp h fun σ H Q ⟨env,k,S,q⟩=> ?_⟩
  unfold aVar at q
  split at q
  · rename_i w e
    obtain ⟨v,e1,r⟩:=S.val i w e
    exact ⟨v,e1,q v H S .refl r trivial⟩
  · rename_i c e
    obtain ⟨p,e1,r⟩:=S.own i c e
    exact ⟨_,e1,q _ H S .refl e1 trivial⟩
  · exact q.elim
theorem A1D {e:Expr} {w:W} {v:V} (h:PE X e (tC v)) (r:∀H,Rep G.K H w v):AE X G e (aC w):=
  ⟨aC.mono,PE.imp h fun σ H Q ⟨env,k,S,q⟩=> q v H S .refl (r H) trivial⟩
theorem ae_int {i j pos}:AE X G (.Constant (.int i) j pos) (aC (.int i)):=A1D pe_int fun _=> .int
theorem A09 {i j pos}:AE X G (.Constant (.bool i) j pos) (aC (.bl i)):=A1D pe_bl fun _=> .bl
theorem p9 {j pos}:AE X G (.Constant .none j pos) (aC .non):=A1D pe_non fun _=> .non
theorem E9 {i j pos}:AE X G (.Constant (.str i) j pos) (aC (.str i)):=A1D pe_str fun _=> .str
def aFz (t:AT):B9:=fun env h Q=> t env h fun r env' h'=> match r with
  | .val w=> Q w env' h'
  | .own c=> Q c.fz env' h'
  | .slot i=> match env'[i]? with
    | some (some (.val w))=> Q w env' h'
    | some (some (.own c))=> Q c.fz (env'.set i (some (.val c.fz))) h'
    | _=> False
theorem aFz.mono {t:AT} (m:B0 t):B0 (aFz t):=fun env h Q Q' k q=> by
  refine m env h _ _ (fun r e g z=> ?_) q
  cases r with
  | val w=> exact k _ _ _ z
  | own c=> exact k _ _ _ z
  | slot i=>
    show match e[i]? with
      | some (some (.val w))=> Q' w e g
      | some (some (.own c))=> Q' c.fz (e.set i (some (.val c.fz))) g
      | _=> False
    have z:match e[i]? with
      | some (some (.val w))=> Q w e g
      | some (some (.own c))=> Q c.fz (e.set i (some (.val c.fz))) g
      | _=> False:=z
    split at z
    · exact k _ _ _ z
    · exact k _ _ _ z
    · exact z
theorem A9N {K:PySem.W.Frag} {H:Hp} {p:Addr} {c:Cont} (r:CRep K H p c) (hp:∃u,H p=some u∧Mu u):∃u,H p=some u∧Mu u∧∀od,Rep K (upd H p (.frz od u)) c.fz (.ref p):=by
  have keep:∀(u:HO) (od:Obj),H p=some u→Mu u→Keeps H (upd H p (.frz od u)):=fun u od e m q o e' i=> by
    have n:q≠p:=fun z=> by rw [z,e] at e';cases e';exact m.imm i
    rw [upd_ne n];exact e'
  cases c with
  | seq ws=>
    obtain ⟨vs,e,r⟩:=r
    refine ⟨_,e,trivial,fun od=> ?_⟩
    exact .lst ⟨od,upd_same⟩ (RepL.mono (keep _ od e trivial) _ _ r)
  | map kvs=>
    rcases r with ⟨ks,e,t,r⟩ | ⟨ks,e,t,r⟩
    · refine ⟨_,e,trivial,fun od=> ?_⟩
      show Rep K _ (.dct _ _) _
      simp only [Rep]
      exact ⟨p,rfl,.inl ⟨od,ks,upd_same,t,RepL.mono (keep _ od e trivial) _ _ r⟩⟩
    · refine ⟨_,e,trivial,fun od=> ?_⟩
      show Rep K _ (.dct _ _) _
      simp only [Rep]
      exact ⟨p,rfl,.inr ⟨od,ks,upd_same,t,RepL.mono (keep _ od e trivial) _ _ r⟩⟩
theorem BS.freeze {env env':A1} {h:AH} {σ:L2.St} {H:Hp} (S:BS G env h σ H) {p:Addr} {u:HO} (od:Obj) (e:H p=some u) (m:Mu u) (n:h p=none) (n0:G.H0 p=none)
    (len:env'.length=env.length)
    (v':∀(i:Nat) (w:W),env'[i]? =some (some (SV.val w))→env[i]? =some (some (SV.val w))∨∃v,σ[i]? =some (some v)∧Rep G.K (upd H p (.frz od u)) w v)
    (o':∀(i:Nat) (c:Cont),env'[i]? =some (some (SV.own c))→env[i]? =some (some (SV.own c))∧σ[i]? ≠some (some (V.ref p))):BS G env' h σ (upd H p (.frz od u)):=by
  have keep:Keeps H (upd H p (.frz od u)):=fun q o e' i=> by
    have n:q≠p:=fun z=> by rw [z,e] at e';cases e';exact m.imm i
    rw [upd_ne n];exact e'
  refine ⟨len.trans S.len,fun i w z=> ?_,fun i c z=> ?_,fun i j c c' q a b=> ?_,fun a o z=> ?_,fun q o z y t=> ?_,S.ext,fun q o z=> ?_,S.tabs.upd fun o z=> (by rw [e] at z;cases z;exact m)⟩
  · rcases v' i w z with z | z
    · obtain ⟨v,a,b⟩:=S.val i w z
      exact ⟨v,a,Rep.mono keep w v b⟩
    · exact z
  · obtain ⟨z,ne⟩:=o' i c z
    obtain ⟨q,a,b,d,f⟩:=S.own i c z
    have nq:q≠p:=fun y=> ne (by rw [a,y])
    exact ⟨q,a,b.mono keep (upd_ne nq),d,f⟩
  · exact S.uni i j c c' q (o' i c a).1 (o' j c' b).1
  · have na:a≠p:=fun y=> by rw [y,n] at z;cases z
    exact (S.hp a o z).mono keep (upd_ne na)
  · have nq:q≠p:=fun x=> by rw [x,n0] at z;cases z
    rw [upd_ne nq];exact S.fr q o z y t
  · by_cases hq:q=p
    · subst hq;exact ⟨_,upd_same⟩
    · obtain ⟨u',e'⟩:=S.tr q o z
      exact ⟨u',by rw [upd_ne hq];exact e'⟩
theorem Xt.freeze {env env' env2:A1} {h h':AH} {σ:L2.St} {H H1:Hp} {p:Addr} {u:HO} {od:Obj} (x:Xt env h σ H env' h' H1) (e:H1 p=some u) (f:H p=none∨OwnAt env σ p)
    (sl:∀(i:Nat) (c:Cont),env2[i]? =some (some (SV.own c))→env'[i]? =some (some (SV.own c))):Xt env h σ H env2 h' (upd H1 p (.frz od u)):=by
  refine ⟨fun q o e n w t=> ?_,x.hn,fun q o e=> ?_,fun i c e=> x.sl i c (sl i c e)⟩
  · have nq:q≠p:=fun y=> by
      rcases f with f | f
      · rw [y,f] at e;cases e
      · exact w (y▸f)
    rw [upd_ne nq];exact x.fr q o e n w t
  · by_cases hq:q=p
    · subst hq;exact ⟨_,upd_same⟩
    · rw [upd_ne hq];exact x.th q o e
theorem A2V {env:A1} {i j:Nat} {sv sv':SV} (e:env[i]? =some (some sv)):(env.set i (some sv'))[j]? =if j=i then some (some sv') else env[j]? :=by
  have hi:i < env.length:=(List.getElem?_eq_some_iff.mp e).1
  by_cases hj:j=i
  · subst hj;rw [if_pos rfl,List.getElem?_set_self hi]
  · rw [if_neg hj,List.getElem?_set_ne (Ne.symm hj)]
theorem A5C {env env':A1} {h h':AH} {σ:L2.St} {H H1:Hp} {i:Nat} {c:Cont} {pins:List (Addr×Obj)} {s:Shared} (S:BS G env' h' σ H1) (x:Xt env h σ H env' h' H1) (I:Inv X pins σ H1 s) (e:env'[i]? =some (some (.own c))):
    ∃p H2,σ[i]? =some (some (V.ref p))∧Inv X pins σ H2 s∧BS G (env'.set i (some (.val c.fz))) h' σ H2∧Xt env h σ H (env'.set i (some (.val c.fz))) h' H2∧Rep G.K H2 c.fz (.ref p):=by
  obtain ⟨p,es,cr,n,n0⟩:=S.own i c e
  obtain ⟨u,eu,mu,fr⟩:=A9N cr cr.there
  obtain ⟨od,I2⟩:=I.lock eu mu.mut
  refine ⟨p,_,es,I2,S.freeze od eu mu n n0 (by simp) (fun j w z=> ?_) (fun j d z=> ?_),x.freeze eu (.inr ?_) (fun j d z=> ?_),fr od⟩
  · rw [A2V e] at z
    by_cases hj:j=i
    · rw [if_pos hj] at z
      cases z
      exact .inr ⟨_,hj▸es,fr od⟩
    · rw [if_neg hj] at z;exact .inl z
  · rw [A2V e] at z
    by_cases hj:j=i
    · rw [if_pos hj] at z;cases z
    · rw [if_neg hj] at z
      exact ⟨z,fun y=> hj (S.uni j i d c p z e y es)⟩
  · exact x.own ⟨i,c,e,es⟩
  · rw [A2V e] at z
    by_cases hj:j=i
    · rw [if_pos hj] at z;cases z
    · rw [if_neg hj] at z;exact z
theorem B2v {env env':A1} {h h':AH} {σ:L2.St} {H H1:Hp} {c:Cont} {v:V} {pins:List (Addr×Obj)} {s:Shared} (S:BS G env' h' σ H1) (x:Xt env h σ H env' h' H1) (I:Inv X pins σ H1 s) (r:RvRep G env' h' σ H1 (.own c) v) (f:Q4 H (.own c) v):
    ∃H2,Inv X pins σ H2 s∧BS G env' h' σ H2∧Xt env h σ H env' h' H2∧Rep G.K H2 c.fz v:=by
  obtain ⟨p,ex,cr,n,n0,no⟩:=r
  obtain ⟨u,eu,mu,fr⟩:=A9N cr cr.there
  obtain ⟨od,I2⟩:=I.lock eu mu.mut
  subst ex
  exact ⟨_,I2,S.freeze od eu mu n n0 rfl (fun i w e=> .inl e) fun i c e=> ⟨e,fun y=> no ⟨i,c,e,y⟩⟩,x.freeze eu (.inl (f p rfl)) fun i c e=> e,fr od⟩
theorem A4 {e:Expr} {t:AT} (a:AE X G e t):AV X G e (aFz t):=by
  refine ⟨aFz.mono a.mono,⟨fun pins s σ H Q I ⟨env,h,S,q⟩=> ?_⟩⟩
  refine thn (a.pe.run pins s σ H (fun v H1=> ∃r env' h',BS G env' h' σ H1∧Xt env h σ H env' h' H1∧RvRep G env' h' σ H1 r v∧Q4 H r v∧match r with
    | .val w=> ∀v H',BS G env' h' σ H'→Xt env h σ H env' h' H'→Rep G.K H' w v→Q v H'
    | .own c=> ∀v H',BS G env' h' σ H'→Xt env h σ H env' h' H'→Rep G.K H' c.fz v→Q v H'
    | .slot i=> match env'[i]? with
      | some (some (.val w))=> ∀v H',BS G env' h' σ H'→Xt env h σ H env' h' H'→Rep G.K H' w v→Q v H'
      | some (some (.own c))=> ∀v H',BS G (env'.set i (some (.val c.fz))) h' σ H'→Xt env h σ H (env'.set i (some (.val c.fz))) h' H'→Rep G.K H' c.fz v→Q v H'
      | _=> False) I ⟨env,h,S,a.mono env h _ _ (fun r env' h' z v H1 S1 x1 r1 f1=> ⟨r,env',h',S1,x1,r1,f1,z⟩) q⟩) fun v s1 ⟨x,H1,I1,r1,r,env',h',S1,x1,rr,f1,z⟩=> ?_
  cases r with
  | val w=> exact ⟨x,H1,I1,r1,z x H1 S1 x1 rr⟩
  | own c=>
    obtain ⟨H2,I2,S2,x2,r2⟩:=B2v S1 x1 I1 rr f1
    exact ⟨x,H2,I2,r1,z x H2 S2 x2 r2⟩
  | slot i=>
    have es:σ[i]? =some (some x):=rr
    have z:match env'[i]? with
      | some (some (.val w))=> ∀v H',BS G env' h' σ H'→Xt env h σ H env' h' H'→Rep G.K H' w v→Q v H'
      | some (some (.own c))=> ∀v H',BS G (env'.set i (some (.val c.fz))) h' σ H'→Xt env h σ H (env'.set i (some (.val c.fz))) h' H'→Rep G.K H' c.fz v→Q v H'
      | _=> False:=z
    split at z
    · rename_i w e
      obtain ⟨u,e3,r⟩:=S1.val i w e
      rw [es] at e3;cases e3
      exact ⟨x,H1,I1,r1,z x H1 S1 x1 r⟩
    · rename_i c e
      obtain ⟨p,H2,ep,I2,S2,x2,r2⟩:=A5C S1 x1 I1 e
      rw [es] at ep;cases ep
      exact ⟨_,H2,I2,r1,z _ H2 S2 x2 r2⟩
    · exact z.elim
def aNil:E4:=fun env h Q=> Q [] env h
def aCons (t:B9) (u:E4):E4:=fun env h Q=> t env h fun w env' h'=> u env' h' fun ws env2 h2=> Q (w::ws) env2 h2
theorem aNil.mono:B0 aNil:=fun env h Q Q' k q=> k _ _ _ q
theorem aCons.mono {t:B9} {u:E4} (m:B0 t) (n:B0 u):B0 (aCons t u):=fun env h Q Q' k q=> m env h _ _ (fun w e g z=> n e g _ _ (fun ws e2 g2 z2=> k _ _ _ z2) z) q
theorem L8:AA X G [] aNil:=⟨aNil.mono,PA.imp pa_nil fun σ H Q ⟨env,h,S,q⟩=> q [] H S .refl .nil⟩
theorem B6 {e:Expr} {es:List Expr} {t:B9} {u:E4} (a:AV X G e t) (b:AA X G es u) (hs:starEach (e::es) X.env=(false,eval e X.env)::starEach es X.env:=by rfl):AA X G (e::es) (aCons t u):=by
  refine ⟨aCons.mono a.mono b.mono,PA.imp (pa_cons a.pe b.pa hs) fun σ H Q ⟨env,h,S,q⟩=> ?_⟩
  refine ⟨env,h,S,a.mono env h _ _ (fun w env1 h1 z v H1 S1 x1 r1=> ?_) q⟩
  refine ⟨env1,h1,S1,b.mono env1 h1 _ _ (fun ws env2 h2 z vs H2 S2 x2 r2=> ?_) z⟩
  exact z (v::vs) H2 S2 (x1.trans x2) (.cons (Rep.mono (x2.keeps S1) w v r1) r2)
def aTup (t:E4):AT:=fun env h Q=> t env h fun ws env' h'=> ws.length≤sizeLine∧Q (.val (.tup ws)) env' h'
def aLst (t:E4):AT:=fun env h Q=> t env h fun ws env' h'=> ws.length≤sizeLine∧Q (.own (.seq ws)) env' h'
theorem aTup.mono {t:E4} (m:B0 t):B0 (aTup t):=fun env h Q Q' k q=> m env h _ _ (fun ws e g z=> ⟨z.1,k _ _ _ z.2⟩) q
theorem aLst.mono {t:E4} (m:B0 t):B0 (aLst t):=fun env h Q Q' k q=> m env h _ _ (fun ws e g z=> ⟨z.1,k _ _ _ z.2⟩) q
section
variable {env:A1} {h:AH} {σ:L2.St} {H:Hp}
theorem BS.noAt (S:BS G env h σ H) {p:Addr} (n:H p=none):h p=none∧G.H0 p=none∧¬OwnAt env σ p:=by
  refine ⟨?_,?_,fun ⟨i,c,e1,e2⟩=> ?_⟩
  · cases q:h p with
    | none=> rfl
    | some u=> obtain ⟨o,e,_⟩:=(S.hp p u q).there;rw [n] at e;cases e
  · cases q:G.H0 p with
    | none=> rfl
    | some o=> obtain ⟨u,e⟩:=S.tr p o q;rw [n] at e;cases e
  · obtain ⟨q,e3,cr,_⟩:=S.own i c e1
    rw [e2] at e3;cases e3
    obtain ⟨o,e,_⟩:=cr.there;rw [n] at e;cases e
theorem p8 {es:List Expr} {t:E4} {x1 pos} (a:AA X G es t):AE X G (.Tuple es x1 pos) (aTup t):=by
  refine ⟨aTup.mono a.mono,PE.imp (pe_tup a.pa) fun σ H Q ⟨env,h,S,q⟩=> ?_⟩
  refine ⟨env,h,S,a.mono env h _ _ (fun ws env1 h1 z vs H1 S1 x1 r1=> ⟨by rw [←r1.length];exact z.1,fun p n=> ?_⟩) q⟩
  have nw:New H1 (upd H1 p (.tup vs)):=New.upd n
  exact z.2 (.ref p) _ (nw.bs S1) (x1.trans nw.xt) (.tup (.inl upd_same) (RepL.mono nw.keeps _ _ r1)) trivial
theorem Xt.fresh {env env':A1} {h':AH} {H':Hp} (x:Xt env h σ H env' h' H') {p:Addr} (n:H' p=none):H p=none:=by
  cases q:H p with
  | none=> rfl
  | some o=> obtain ⟨u,e⟩:=x.th p o q;rw [n] at e;cases e
theorem A8s {env env1:A1} {h h1:AH} {σ:L2.St} {H H1:Hp} {p:Addr} {o:HO} {c:Cont} (S:BS G env1 h1 σ H1) (x:Xt env h σ H env1 h1 H1) (n:H1 p=none) (r:New H1 (upd H1 p o)→CRep G.K (upd H1 p o) p c):
    BS G env1 h1 σ (upd H1 p o)∧Xt env h σ H env1 h1 (upd H1 p o)∧RvRep G env1 h1 σ (upd H1 p o) (.own c) (.ref p)∧Q4 H (.own c) (.ref p):=by
  have nw:New H1 (upd H1 p o):=New.upd n
  obtain ⟨a,b,d⟩:=S.noAt n
  exact ⟨nw.bs S,x.trans nw.xt,⟨p,rfl,r nw,a,b,d⟩,fun q e=> by cases e;exact x.fresh n⟩
theorem W5 {es:List Expr} {t:E4} {pos} (a:AA X G es t):AE X G (.List es pos) (aLst t):=by
  refine ⟨aLst.mono a.mono,PE.imp (pe_lst a.pa) fun σ H Q ⟨env,h,S,q⟩=> ?_⟩
  refine ⟨env,h,S,a.mono env h _ _ (fun ws env1 h1 z vs H1 S1 x1 r1=> ⟨by rw [←r1.length];exact z.1,fun p n=> ?_⟩) q⟩
  obtain ⟨S2,x2,r2,f2⟩:=A8s S1 x1 n (o:= .lst vs) (c:= .seq ws) fun nw=> ⟨vs,upd_same,RepL.mono nw.keeps _ _ r1⟩
  exact z.2 _ _ S2 x2 r2 f2
end
end
end Ab
namespace Ab
open PySem PySem.Spec PyProof.Rows L2
def Vw.seq:Vw→Option (List W)
  | .wv (.lst xs)=> some xs
  | .cv (.seq xs)=> some xs
  | _=> none
def Vw.tpl:Vw→Option (List W)
  | .wv (.tup xs)=> some xs
  | _=> none
section
variable {K:PySem.W.Frag} {H:Hp} {a:Vw} {v:V} {xs:List W}
theorem VR.seq (r:VR K H a v) (e:a.seq=some xs):∃p vs,v= .ref p∧Rd H p (.lst vs)∧RepL K H xs vs:=by
  cases a with
  | wv w=>
    cases w with
    | lst ys=>
      cases e
      obtain ⟨p,vs,e1,⟨o,l⟩,r⟩:=Rep.of_lst r
      exact ⟨p,vs,e1,.inr ⟨o,l⟩,r⟩
    | _=> cases e
  | cv c=>
    cases c with
    | seq ys=>
      cases e
      obtain ⟨p,e1,vs,l,r⟩:=r
      exact ⟨p,vs,e1,.inl l,r⟩
    | map _=> cases e
  | bad=> cases e
theorem VR.tplT (r:VR K H a v) (e:a.tpl=some xs):∃p vs,v= .ref p∧TqT K H p vs∧RepL K H xs vs:=by
  cases a with
  | wv w=>
    cases w with
    | tup ys=> cases e;exact Rep.of_tupT r
    | _=> cases e
  | _=> cases e
theorem VR.tpl (r:VR K H a v) (e:a.tpl=some xs):∃p vs,v= .ref p∧SqT K H p vs∧RepL K H xs vs:=let ⟨p,vs,e,s,r⟩:=r.tplT e;⟨p,vs,e,s.sq,r⟩
theorem VR.int {i:Int} (r:VR K H (.wv (.int i)) v):v= .int i:=Rep.of_int (K:=K) (H:=H) r
theorem VR.str {i:Str} (r:VR K H (.wv (.str i)) v):v= .str i:=Rep.of_str (K:=K) (H:=H) r
theorem VR.bl {i:Bool} (r:VR K H (.wv (.bl i)) v):v= .bl i:=Rep.of_bl (K:=K) (H:=H) r
theorem VR.non (r:VR K H (.wv .non) v):v= .non:=Rep.of_non (K:=K) (H:=H) r
end
def OutR (K:PySem.W.Frag) (H:Hp) (Q:RV→Prop) (v:V) (H':Hp):Prop:=
  (H'=H∧∃w,Q (.val w)∧Rep K H w v)∨∃p o,H p=none∧H'=upd H p o∧v= .ref p∧((∃w,Q (.val w)∧Rep K H' w v)∨∃c,Q (.own c)∧CRep K H' p c)
theorem OutR.val {K:PySem.W.Frag} {H:Hp} {Q:RV→Prop} {w:W} {v:V} (q:Q (.val w)) (r:Rep K H w v):OutR K H Q v H:= .inl ⟨rfl,w,q,r⟩
theorem OutR.tup {K:PySem.W.Frag} {H:Hp} {Q:RV→Prop} {ws:List W} {vs:List V} {p:Addr} (n:H p=none) (q:Q (.val (.tup ws))) (r:RepL K H ws vs):OutR K H Q (.ref p) (upd H p (.tup vs)):=
  .inr ⟨p,_,n,rfl,rfl,.inl ⟨_,q,.tup (.inl upd_same) (RepL.mono (New.upd n).keeps _ _ r)⟩⟩
theorem OutR.lst {K:PySem.W.Frag} {H:Hp} {Q:RV→Prop} {ws:List W} {vs:List V} {p:Addr} (n:H p=none) (q:Q (.own (.seq ws))) (r:RepL K H ws vs):OutR K H Q (.ref p) (upd H p (.lst vs)):=
  .inr ⟨p,_,n,rfl,rfl,.inr ⟨_,q,vs,upd_same,RepL.mono (New.upd n).keeps _ _ r⟩⟩
section
variable {G:Gx} {env env1:A1} {h h1:AH} {σ:L2.St} {H H1 H2:Hp}
theorem OutR.end {Q0:RV→Prop} {v:V} (S:BS G env1 h1 σ H1) (x:Xt env h σ H env1 h1 H1) (o:OutR G.K H1 Q0 v H2):
    ∃r,Q0 r∧BS G env1 h1 σ H2∧Xt env h σ H env1 h1 H2∧RvRep G env1 h1 σ H2 r v∧Q4 H r v:=by
  rcases o with ⟨rfl,w,q,r⟩ | ⟨p,o,n,rfl,rfl,⟨w,q,r⟩ | ⟨c,q,r⟩⟩
  · exact ⟨_,q,S,x,r,trivial⟩
  · have nw:New H1 (upd H1 p o):=New.upd n
    exact ⟨_,q,nw.bs S,x.trans nw.xt,r,trivial⟩
  · obtain ⟨a,b,c,d⟩:=A8s S x n fun _=> r
    exact ⟨_,q,a,b,c,d⟩
end
abbrev I7:=Vw→Vw→(RV→Prop)→Prop
structure OpA (K:PySem.W.Frag) (r:R2) (o:I7):Prop where
  mono:∀a b Q Q',(∀r,Q r→Q' r)→o a b Q→o a b Q'
  ok:∀a b x y H Q0 Q,VR K H a x→VR K H b y→o a b Q0→(∀v H',OutR K H Q0 v H'→Q v H')→r x y H Q
def aOp2 (o:I7) (ta tb:AT):AT:=fun env h Q=> ta env h fun rx env1 h1=> tb env1 h1 fun ry env2 h2=> o (view env2 h2 rx) (view env2 h2 ry) fun r=> Q r env2 h2
theorem aOp2.mono {K:PySem.W.Frag} {r:R2} {o:I7} (oa:OpA K r o) {ta tb:AT} (a:B0 ta) (b:B0 tb):B0 (aOp2 o ta tb):=fun env h Q Q' k q=>
  a env h _ _ (fun rx e g z=> b e g _ _ (fun ry e2 g2 z2=> oa.mono _ _ _ _ (fun r z3=> k _ _ _ z3) z2) z) q
section
variable {X:Cx} {G:Gx}
theorem A3g {ta tb:AT} {o:I7} {r:R2} (ma:B0 ta) (mb:B0 tb) (oa:OpA G.K r o) {σ:L2.St} {H:Hp} {Q:VK} (q:cE G (aOp2 o ta tb) σ H Q):tOp r (cE G ta) (cE G tb) σ H Q:=by
  obtain ⟨env,h,S,q⟩:=q
  refine ⟨env,h,S,ma env h _ _ (fun rx env1 h1 z x H1 S1 x1 r1 f1=> ?_) q⟩
  refine ⟨env1,h1,S1,mb env1 h1 _ _ (fun ry env2 h2 z2 y H2 S2 x2 r2 f2=> ?_) z⟩
  refine oa.ok _ _ _ _ _ _ _ ((r1.xt S1 x2).vr S2) (r2.vr S2) z2 fun v H3 out=> ?_
  obtain ⟨res,q0,S3,x3,r3,f3⟩:=out.end S2 (x1.trans x2)
  exact q0 v H3 S3 x3 r3 f3
theorem A08 {op:Operator} {r:R2} {o:I7} {a b:Expr} {ta tb:AT} {pos:Pos} (ho:OpR X (binaryOp op) r) (oa:OpA G.K r o) (ha:AE X G a ta) (hb:AE X G b tb):AE X G (.BinOp a op b pos) (aOp2 o ta tb):=
  ⟨aOp2.mono oa ha.mono hb.mono,PE.imp (pe_op ho ha.pe hb.pe) fun _ _ _ q=> A3g ha.mono hb.mono oa q⟩
theorem A4H {op:CmpOp} {r:R2} {o:I7} {a b:Expr} {ta tb:AT} {pos:Pos} (ho:OpR X (compareOp op) r) (oa:OpA G.K r o) (ha:AE X G a ta) (hb:AE X G b tb) (hm:behindInMarks op b=false):AE X G (.Compare a [op] [b] pos) (aOp2 o ta tb):=
  ⟨aOp2.mono oa ha.mono hb.mono,PE.imp (pe_cmpR ho ha.pe hb.pe hm) fun _ _ _ q=> A3g ha.mono hb.mono oa q⟩
end
theorem OpA.or {K:PySem.W.Frag} {r r':R2} {o o':I7} (a:OpA K r o) (b:OpA K r' o'):OpA K (fun x y H Q=> r x y H Q∨r' x y H Q) (fun x y Q=> o x y Q∨o' x y Q):=
  ⟨fun x y Q Q' k q=> q.elim (fun z=> .inl (a.mono x y Q Q' k z)) fun z=> .inr (b.mono x y Q Q' k z),fun x y u v H Q0 Q r1 r2 q k=> q.elim (fun z=> .inl (a.ok x y u v H Q0 Q r1 r2 z k)) fun z=> .inr (b.ok x y u v H Q0 Q r1 r2 z k)⟩
theorem OpA.as {K:PySem.W.Frag} {r:R2} {o o':I7} (a:OpA K r o) (i:∀x y Q,o' x y Q→o x y Q) (m:∀a b Q Q',(∀r,Q r→Q' r)→o' a b Q→o' a b Q'):OpA K r o':=⟨m,fun x y u v H Q0 Q r1 r2 q k=> a.ok x y u v H Q0 Q r1 r2 (i _ _ _ q) k⟩
def oII (C:Int→Int→Prop) (g:Int→Int→W):I7:=fun a b Q=> match a,b with
  | .wv (.int i),.wv (.int j)=> C i j∧Q (.val (g i j))
  | _,_=> False
theorem oII.mono {C:Int→Int→Prop} {g:Int→Int→W} (a b:Vw) (Q Q':RV→Prop) (k:∀r,Q r→Q' r) (q:oII C g a b Q):oII C g a b Q':=by
  unfold oII at q ⊢
  split at q
  · exact ⟨q.1,k _ q.2⟩
  · exact q.elim
theorem oII.get {C:Int→Int→Prop} {g:Int→Int→W} {a b:Vw} {Q:RV→Prop} (q:oII C g a b Q):∃i j,a= .wv (.int i)∧b= .wv (.int j)∧C i j∧Q (.val (g i j)):=by
  unfold oII at q
  split at q
  · exact ⟨_,_,rfl,rfl,q⟩
  · exact q.elim
theorem A5e {K:PySem.W.Frag} {C:Int→Int→Prop} {g:Int→Int→V} {g':Int→Int→W} (hg:∀H i j,Rep K H (g' i j) (g i j)):OpA K (rI C g) (oII C g'):=
  ⟨fun a b Q Q' k q=> oII.mono a b Q Q' k q,fun a b x y H Q0 Q ra rb q k=> by
    obtain ⟨i,j,rfl,rfl,c,q⟩:=q.get
    exact ⟨i,j,ra.int,rb.int,c,k _ _ (.val q (hg H i j))⟩⟩
theorem A3n {K:PySem.W.Frag} {g:Int→Int→V} {g':Int→Int→W} (hg:∀H i j,Rep K H (g' i j) (g i j)):OpA K (rI0 g) (oII (fun _ _=> True) g'):=
  ⟨fun a b Q Q' k q=> oII.mono a b Q Q' k q,fun a b x y H Q0 Q ra rb q k=> by
    obtain ⟨i,j,rfl,rfl,c,q⟩:=q.get
    exact ⟨i,j,ra.int,rb.int,k _ _ (.val q (hg H i j))⟩⟩
def B0S (_ j:Int):Prop:=0 < j
section
variable {X:Cx} {G:Gx} {a b:Expr} {ta tb:AT} {pos:Pos}
theorem A9k (ha:AE X G a ta) (hb:AE X G b tb):AE X G (.BinOp a .Sub b pos) (aOp2 (oII (fun _ _=> True) fun i j=> .int (i - j)) ta tb):=A08 op_sub (A3n fun _ _ _=> .int) ha hb
theorem A0z (ha:AE X G a ta) (hb:AE X G b tb):AE X G (.BinOp a .Mod b pos) (aOp2 (oII B0S fun i j=> .int (i % j)) ta tb):=A08 op_mod (A5e (C:=fun _ j=> 0 < j) fun _ _ _=> .int) ha hb
theorem A5a (ha:AE X G a ta) (hb:AE X G b tb):AE X G (.BinOp a .FloorDiv b pos) (aOp2 (oII CDivW fun i j=> .int (i / j)) ta tb):=A08 op_fdivW (A5e fun _ _ _=> .int) ha hb
end
end Ab
namespace Ab
open PySem PySem.Spec PyProof.Rows L2
section
variable {X:Cx}
theorem A55 {pins:List (Addr×Obj)} {σ:L2.St} {H:Hp} {s:Shared} {l:Addr} {xs:List V} (I:Inv X pins σ H s) (r:Rd H l (.lst xs)):
    xs.length≤sizeLine∧∃(us:List Value) (n:Nat),Vals xs us∧s.heap.get? l=some { cls:= .type "list",data:= .seq us.toArray n }:=r.ok I.hok
def A96:R2:=fun x y H Q=> ∃l b xs zs,x= .ref l∧y= .ref b∧Rd H l (.lst xs)∧Rd H b (.lst zs)∧xs.length+zs.length≤sizeLine∧∀p,H p=none→Q (.ref p) (upd H p (.lst (xs++zs)))
theorem B4n:OpR X (binaryOp .Add) A96:=fun pins s σ H x y v u Q I rx ry h=> by
  obtain ⟨l,b,xs,zs,rfl,rfl,h1,h2,hz,q⟩:=h
  obtain rfl:v= .ref l:=rx
  obtain rfl:u= .ref b:=ry
  obtain ⟨_,us,n,r1,e1⟩:=A55 I h1
  obtain ⟨_,ws,m,r2,e2⟩:=A55 I h2
  have z:us.toArray.size+ws.toArray.size≤sizeLine:=by
    rw [List.size_toArray,List.size_toArray,←r1.length,←r2.length];exact hz
  have w:=r1.append r2
  refine PySem.P.add_list e1 e2 ?_ z
  rw [show us.toArray++ws.toArray=(us++ws).toArray from by simp]
  refine ⟨.ref _,_,I.lnew (t':=s.toks) w ?_,rfl,q _ I.fresh⟩
  rw [List.length_append];exact hz
end
def B0o:I7:=fun a b Q=> ∃xs ys,a.seq=some xs∧b.seq=some ys∧xs.length+ys.length≤sizeLine∧Q (.own (.seq (xs++ys)))
theorem B4W {K:PySem.W.Frag}:OpA K A96 B0o:=
  ⟨fun a b Q Q' k ⟨xs,ys,e,f,z,q⟩=> ⟨xs,ys,e,f,z,k _ q⟩,fun a b x y H Q0 Q ra rb q k=> by
    obtain ⟨xs,ys,e,f,z,q⟩:=q
    obtain ⟨p,vs,rfl,d1,r1⟩:=ra.seq e
    obtain ⟨p',us,rfl,d2,r2⟩:=rb.seq f
    exact ⟨p,p',vs,us,rfl,rfl,d1,d2,by rw [←r1.length,←r2.length];exact z,fun l n=> k _ _ (.lst n q (r1.append r2))⟩⟩
def B0B:I7:=fun a b Q=> ∃xs ys,a.tpl=some xs∧b.tpl=some ys∧xs.length+ys.length≤sizeLine∧Q (.val (.tup (xs++ys)))
theorem B3r {K:PySem.W.Frag}:OpA K (rCatA K) B0B:=
  ⟨fun a b Q Q' k ⟨xs,ys,e,f,z,q⟩=> ⟨xs,ys,e,f,z,k _ q⟩,fun a b x y H Q0 Q ra rb q k=> by
    obtain ⟨xs,ys,e,f,z,q⟩:=q
    obtain ⟨p,vs,rfl,d1,r1⟩:=ra.tplT e
    obtain ⟨p',us,rfl,d2,r2⟩:=rb.tplT f
    refine ⟨p,p',vs,us,rfl,rfl,d1.sq,d2.sq,by rw [←r1.length,←r2.length];exact z,fun h0=> ?_,fun _ h0=> ?_,fun _ _ l n=> k _ _ (.tup n q (r1.append r2))⟩
    · have e0:xs=[]:=List.eq_nil_of_length_eq_zero (by rw [r1.length,h0];rfl)
      subst e0
      exact k _ _ (.val q (.tup d2 r2))
    · have e0:ys=[]:=List.eq_nil_of_length_eq_zero (by rw [r2.length,h0];rfl)
      subst e0
      rw [List.append_nil] at q
      exact k _ _ (.val q (.tup d1 r1))⟩
def A4P:I7:=fun a b Q=> match a,b with
  | .wv (.str x),.wv (.str y)=> x.length+y.length≤sizeLine∧Q (.val (.str (x++y)))
  | _,_=> False
theorem B3o {K:PySem.W.Frag}:OpA K (fun x y H Q=> ∃i j,x= .str i∧y= .str j∧i.length+j.length≤sizeLine∧Q (.str (i++j)) H) A4P:=
  ⟨fun a b Q Q' k q=> by
    unfold A4P at q ⊢
    split at q
    · exact ⟨q.1,k _ q.2⟩
    · exact q.elim,fun a b x y H Q0 Q ra rb q k=> by
    unfold A4P at q
    split at q
    · exact ⟨_,_,ra.str,rb.str,q.1,k _ _ (.val q.2 .str)⟩
    · exact q.elim⟩
def oAdd:I7:=fun a b Q=> match a,b with
  | .wv (.int i),.wv (.int j)=> Q (.val (.int (i+j)))
  | .wv (.str x),.wv (.str y)=> x.length+y.length≤sizeLine∧Q (.val (.str (x++y)))
  | .wv (.tup xs),.wv (.tup ys)=> xs.length+ys.length≤sizeLine∧Q (.val (.tup (xs++ys)))
  | .wv (.lst xs),.wv (.lst ys)=> xs.length+ys.length≤sizeLine∧Q (.own (.seq (xs++ys)))
  | .wv (.lst xs),.cv (.seq ys)=> xs.length+ys.length≤sizeLine∧Q (.own (.seq (xs++ys)))
  | .cv (.seq xs),.wv (.lst ys)=> xs.length+ys.length≤sizeLine∧Q (.own (.seq (xs++ys)))
  | .cv (.seq xs),.cv (.seq ys)=> xs.length+ys.length≤sizeLine∧Q (.own (.seq (xs++ys)))
  | _,_=> False
theorem oAdd.as (a b:Vw) (Q:RV→Prop) (q:oAdd a b Q):((oII (fun _ _=> True) (fun i j=> .int (i+j)) a b Q∨A4P a b Q)∨B0B a b Q)∨B0o a b Q:=by
  unfold oAdd at q
  split at q
  · exact .inl (.inl (.inl ⟨trivial,q⟩))
  · exact .inl (.inl (.inr q))
  · exact .inl (.inr ⟨_,_,rfl,rfl,q⟩)
  · exact .inr ⟨_,_,rfl,rfl,q⟩
  · exact .inr ⟨_,_,rfl,rfl,q⟩
  · exact .inr ⟨_,_,rfl,rfl,q⟩
  · exact .inr ⟨_,_,rfl,rfl,q⟩
  · exact q.elim
theorem oAdd.mono (a b:Vw) (Q Q':RV→Prop) (k:∀r,Q r→Q' r) (q:oAdd a b Q):oAdd a b Q':=by
  unfold oAdd at q ⊢
  split at q <;> first | exact ⟨q.1,k _ q.2⟩ | exact k _ q | exact q.elim
section
variable {X:Cx} {G:Gx} {a b c:Expr} {ta tb tc:AT} {pos:Pos}
theorem N6 (gk:G.K=X.K) (ha:AE X G a ta) (hb:AE X G b tb):AE X G (.BinOp a .Add b pos) (aOp2 oAdd ta tb):=
  A08 (((op_add.or op_add_str).or op_catA).or B4n) ((((A3n fun _ _ _=> .int).or B3o).or (gk▸B3r)).or B4W |>.as (o':=oAdd) oAdd.as oAdd.mono) ha hb
end
mutual
def W.pd:W→PyData
  | .non=> .none
  | .bl b=> .bool b
  | .int i=> .int i
  | .str x=> .str x
  | .tup xs=> .tuple (W.pds xs)
  | .lst xs=> .list (W.pds xs)
  | .dct _ _=> .none
  | .ref _=> .none
  | .ty _=> .none
def W.pds:List W→List PyData
  | []=> []
  | x::xs=> x.pd::W.pds xs
end
def W.dat:Nat→W→Bool
  | _,.non=> true
  | _,.bl _=> true
  | _,.int _=> true
  | _,.str _=> true
  | n+1,.tup xs=> xs.all (W.dat n)
  | n+1,.lst xs=> xs.all (W.dat n)
  | _,_=> false
theorem W.depth_all {n:Nat}:∀xs:List W,(∀x∈xs,x.pd.depth≤n)→PyData.depthAll (W.pds xs)≤n
  | [],_=> Nat.zero_le _
  | x::xs,h=> by
    simp only [W.pds,PyData.depthAll]
    exact Nat.max_le.mpr ⟨h x List.mem_cons_self,W.depth_all xs fun y hy=> h y (List.mem_cons_of_mem _ hy)⟩
theorem W.dat_depth:∀(n:Nat) (w:W),w.dat n=true→w.pd.depth≤n
  | _,.non,_=> by simp only [W.pd,PyData.depth];omega
  | _,.bl _,_=> by simp only [W.pd,PyData.depth];omega
  | _,.int _,_=> by simp only [W.pd,PyData.depth];omega
  | _,.str _,_=> by simp only [W.pd,PyData.depth];omega
  | 0,.tup _,h=> by simp [W.dat] at h
  | 0,.lst _,h=> by simp [W.dat] at h
  | n+1,.tup xs,h=> by
    simp only [W.pd,PyData.depth]
    have z:=W.depth_all xs fun x hx=> W.dat_depth n x (List.all_eq_true.mp (by simpa only [W.dat] using h) x hx)
    omega
  | n+1,.lst xs,h=> by
    simp only [W.pd,PyData.depth]
    have z:=W.depth_all xs fun x hx=> W.dat_depth n x (List.all_eq_true.mp (by simpa only [W.dat] using h) x hx)
    omega
  | n,.dct _ _,h=> by simp [W.dat] at h
  | n,.ref _,h=> by simp [W.dat] at h
  | n,.ty _,h=> by simp [W.dat] at h
mutual
theorem W.pd_plain:∀w:W,w.pd.plain=true
  | .non=> rfl
  | .bl _=> rfl
  | .int _=> rfl
  | .str _=> rfl
  | .tup xs=> by simp only [W.pd,PyData.plain];exact W.pds_plain xs
  | .lst xs=> by simp only [W.pd,PyData.plain];exact W.pds_plain xs
  | .dct _ _=> rfl
  | .ref _=> rfl
  | .ty _=> rfl
theorem W.pds_plain:∀ws:List W,PyData.plainAll (W.pds ws)=true
  | []=> rfl
  | w::ws=> by simp only [W.pds,PyData.plainAll,Bool.and_eq_true];exact ⟨W.pd_plain w,W.pds_plain ws⟩
end
section
variable {K:PySem.W.Frag} {H:Hp}
theorem f9 {a:Addr} {vs:List V} (h:Rd H a (.lst vs)):SqL K H a vs:= .inl h
theorem RepL.dp {n:Nat} (ih:∀(w:W) (v:V),Rep K H w v→w.dat n=true→Dp K H v w.pd):∀(ws:List W) (vs:List V),RepL K H ws vs→ws.all (W.dat n)=true→DpAll K H vs (W.pds ws)
  | [],vs,r,_=> by rw [r.of_nil];exact .nil
  | w::ws,vs,r,d=> by
    obtain ⟨v,t,rfl,a,b⟩:=r.of_cons
    rw [List.all_cons,Bool.and_eq_true] at d
    exact .cons (ih w v a d.1) (RepL.dp ih ws t b d.2)
theorem Rep.dp:∀(n:Nat) (w:W) (v:V),Rep K H w v→w.dat n=true→Dp K H v w.pd
  | _,.non,_,r,_=> by rw [Rep.of_non (K:=K) (H:=H) r];exact .non
  | _,.bl _,_,r,_=> by rw [Rep.of_bl (K:=K) (H:=H) r];exact .bl _
  | _,.int _,_,r,_=> by rw [Rep.of_int (K:=K) (H:=H) r];exact .int _
  | _,.str _,_,r,_=> by rw [Rep.of_str (K:=K) (H:=H) r];exact .str _
  | n+1,.tup xs,v,r,d=> by
    obtain ⟨a,vs,rfl,s,r⟩:=Rep.of_tup r
    simp only [W.pd]
    exact .tup s (RepL.dp (Rep.dp n) xs vs r (by simpa only [W.dat] using d))
  | n+1,.lst xs,v,r,d=> by
    obtain ⟨a,vs,rfl,⟨o,s⟩,r⟩:=Rep.of_lst r
    simp only [W.pd]
    exact .lst (f9 (.inr ⟨o,s⟩)) (RepL.dp (Rep.dp n) xs vs r (by simpa only [W.dat] using d))
  | 0,.tup _,_,_,d=> by simp [W.dat] at d
  | 0,.lst _,_,_,d=> by simp [W.dat] at d
  | _,.dct _ _,_,_,d=> by simp [W.dat] at d
  | _,.ref _,_,_,d=> by simp [W.dat] at d
  | _,.ty _,_,_,d=> by simp [W.dat] at d
end
theorem VR.dp {K:PySem.W.Frag} {H:Hp} {a:Vw} {v:V} {n:Nat} (r:VR K H a v) (d:a.toW.dat n=true) (nb:a≠ .bad):Dp K H v a.toW.pd:=by
  cases a with
  | wv w=> exact Rep.dp n w v r d
  | bad=> exact absurd rfl nb
  | cv c=>
    cases c with
    | map kvs=> simp [Vw.toW,Cont.fz,W.dat] at d
    | seq ws=>
      obtain ⟨p,rfl,vs,e,r⟩:=r
      have d:(W.lst ws).dat n=true:=d
      cases n with
      | zero=> simp [W.dat] at d
      | succ n=>
        simp only [W.dat] at d
        show Dp K H _ (W.lst ws).pd
        simp only [W.pd]
        exact .lst (f9 (.inl e)) (RepL.dp (Rep.dp n) ws vs r d)
def K5 (a b:W):Bool:=PyData.eqv a.pd b.pd
def Vw.ok:Vw→Bool
  | .bad=> false
  | v=> v.toW.dat 60
theorem Vw.of_ok {a:Vw} (h:a.ok=true):a.toW.dat 60=true∧a≠ .bad:=by
  cases a with
  | bad=> cases h
  | wv w=> exact ⟨h,fun z=> nomatch z⟩
  | cv c=> exact ⟨h,fun z=> nomatch z⟩
def B5 (neg:Bool):I7:=fun a b Q=> a.ok=true∧b.ok=true∧Q (.val (.bl (if neg then !K5 a.toW b.toW else K5 a.toW b.toW)))
def A6o (K:PySem.W.Frag) (neg:Bool):R2:=fun x y H Q=> ∃d e,Dp K H x d∧Dp K H y e∧d.plain=true∧e.plain=true∧d.depth≤60∧Q (.bl (if neg then !PyData.eqv d e else PyData.eqv d e)) H
theorem A4F {K:PySem.W.Frag} {neg:Bool}:OpA K (A6o K neg) (B5 neg):=
  ⟨fun a b Q Q' k ⟨x,y,q⟩=> ⟨x,y,k _ q⟩,fun a b x y H Q0 Q ra rb ⟨da,db,q⟩ k=>
    ⟨_,_,ra.dp (Vw.of_ok da).1 (Vw.of_ok da).2,rb.dp (Vw.of_ok db).1 (Vw.of_ok db).2,W.pd_plain _,W.pd_plain _,W.dat_depth _ _ (Vw.of_ok da).1,k _ _ (.val q .bl)⟩⟩
section
variable {X:Cx} {G:Gx} {a b c:Expr} {ta tb tc:AT} {pos:Pos}
theorem A9H (hu:X.A.units+64 < cLine):OpR X (compareOp .Eq) (A6o X.K false):=fun pins s σ H x y v u Q I rx ry ⟨d,e,hd,he,pd,pe,dp,q⟩=> by
  obtain ⟨as,r1⟩:=Dp.reads I d x v hd rx
  obtain ⟨bs,r2⟩:=Dp.reads I e y u he ry
  have z:=Nat.min_le_left d.depth e.depth
  exact SeqAt.eq_plain r1 r2 pd pe (by omega) ⟨.bl _,H,I,rfl,q⟩
theorem A9i (hu:X.A.units+64 < cLine):OpR X (compareOp .NotEq) (A6o X.K true):=fun pins s σ H x y v u Q I rx ry ⟨d,e,hd,he,pd,pe,dp,q⟩=> by
  obtain ⟨as,r1⟩:=Dp.reads I d x v hd rx
  obtain ⟨bs,r2⟩:=Dp.reads I e y u he ry
  have z:=Nat.min_le_left d.depth e.depth
  exact SeqAt.ne_plain r1 r2 pd pe (by omega) ⟨.bl _,H,I,rfl,q⟩
theorem A1e (gk:G.K=X.K) (hu:X.A.units+64 < cLine) (ha:AE X G a ta) (hb:AE X G b tb):AE X G (.Compare a [.Eq] [b] pos) (aOp2 (B5 false) ta tb):=A4H (A9H hu) (gk▸A4F) ha hb (nomark _)
theorem A9w (gk:G.K=X.K) (hu:X.A.units+64 < cLine) (ha:AE X G a ta) (hb:AE X G b tb):AE X G (.Compare a [.NotEq] [b] pos) (aOp2 (B5 true) ta tb):=A4H (A9i hu) (gk▸A4F) ha hb (nomark _)
end
end Ab
namespace Ab
open PySem PySem.Spec PyProof.Rows L2
def Vw.isNon:Vw→Bool
  | .wv .non=> true
  | _=> false
def L1 (neg:Bool):I7:=fun a b Q=> b= .wv .non∧a≠ .bad∧Q (.val (.bl (if neg then !a.isNon else a.isNon)))
theorem VR.isN {K:PySem.W.Frag} {H:Hp}:∀{a:Vw} {v:V},VR K H a v→a≠ .bad→decide (v= .non)=a.isNon
  | .bad,_,_,nb=> absurd rfl nb
  | .cv c,v,r,_=> by obtain ⟨p,e,_⟩:=r;subst e;rfl
  | .wv .non,v,r,_=> by have e:=r.non;subst e;rfl
  | .wv (.bl b),v,r,_=> by have e:=r.bl;subst e;rfl
  | .wv (.int b),v,r,_=> by have e:=r.int;subst e;rfl
  | .wv (.str b),v,r,_=> by have e:=r.str;subst e;rfl
  | .wv (.tup b),v,r,_=> by obtain ⟨p,vs,e,_⟩:=Rep.of_tup (K:=K) (H:=H) r;subst e;rfl
  | .wv (.lst b),v,r,_=> by obtain ⟨p,vs,e,_⟩:=Rep.of_lst (K:=K) (H:=H) r;subst e;rfl
  | .wv (.ref a),v,r,_=> by have e:=Rep.of_ref (K:=K) (H:=H) r;subst e;rfl
  | .wv (.ty a),v,r,_=> by have e:=Rep.of_ty (K:=K) (H:=H) r;subst e;rfl
  | .wv (.dct ks vs),v,r,_=> by
    have z:Rep K H (.dct ks vs) v:=r
    simp only [Rep] at z
    obtain ⟨p,e,_⟩:=z;subst e;rfl
theorem A8h {K:PySem.W.Frag}:OpA K (fun x y H Q=> y= .non∧Q (.bl (decide (x= .non))) H) (L1 false):=
  ⟨fun a b Q Q' k ⟨x,y,q⟩=> ⟨x,y,k _ q⟩,fun a b x y H Q0 Q ra rb ⟨e,nb,q⟩ k=> by
    subst e
    refine ⟨rb.non,k _ _ (.val q ?_)⟩
    rw [ra.isN nb]
    exact .bl⟩
theorem B4G {K:PySem.W.Frag}:OpA K (fun x y H Q=> y= .non∧Q (.bl (!decide (x= .non))) H) (L1 true):=
  ⟨fun a b Q Q' k ⟨x,y,q⟩=> ⟨x,y,k _ q⟩,fun a b x y H Q0 Q ra rb ⟨e,nb,q⟩ k=> by
    subst e
    refine ⟨rb.non,k _ _ (.val q ?_)⟩
    rw [ra.isN nb]
    exact .bl⟩
def Vw.items:Vw→Option (List W)
  | .wv (.lst xs)=> some xs
  | .wv (.tup xs)=> some xs
  | .cv (.seq xs)=> some xs
  | _=> none
theorem VR.itemsT {K:PySem.W.Frag} {H:Hp} {a:Vw} {v:V} {xs:List W} (r:VR K H a v) (e:a.items=some xs):∃p vs,v= .ref p∧(Rd H p (.lst vs)∨TqT K H p vs)∧RepL K H xs vs:=by
  cases a with
  | bad=> cases e
  | cv c=>
    cases c with
    | map _=> cases e
    | seq ws=> obtain ⟨p,vs,a,b,c⟩:=r.seq e;exact ⟨p,vs,a,.inl b,c⟩
  | wv w=>
    cases w with
    | lst ws=> obtain ⟨p,vs,a,b,c⟩:=r.seq e;exact ⟨p,vs,a,.inl b,c⟩
    | tup ws=> obtain ⟨p,vs,a,b,c⟩:=r.tplT e;exact ⟨p,vs,a,.inr b,c⟩
    | _=> cases e
theorem VR.items {K:PySem.W.Frag} {H:Hp} {a:Vw} {v:V} {xs:List W} (r:VR K H a v) (e:a.items=some xs):∃p vs,v= .ref p∧(Rd H p (.lst vs)∨SqT K H p vs)∧RepL K H xs vs:=let ⟨p,vs,q,s,r⟩:=r.itemsT e;⟨p,vs,q,s.imp id TqT.sq,r⟩
def B0W (x:W) (xs:List W):Bool:=xs.any fun y=> K5 y x
def A6i (neg:Bool):I7:=fun a b Q=> ∃xs,b.items=some xs∧a.ok=true∧xs.all (W.dat 60)=true∧Q (.val (.bl (if neg then !B0W a.toW xs else B0W a.toW xs)))
section
variable {X:Cx}
end
def aTst (t:AT):G3:=fun env h Q=> t env h fun r env' h'=> match view env' h' r with
  | .wv (.bl b)=> Q b env' h'
  | _=> False
theorem aTst.mono {t:AT} (m:B0 t):B0 (aTst t):=fun env h Q Q' k q=> m env h _ _ (fun r e g z=> by
  show match view e g r with
    | .wv (.bl b)=> Q' b e g
    | _=> False
  have z:match view e g r with
    | .wv (.bl b)=> Q b e g
    | _=> False:=z
  split at z
  · exact k _ _ _ z
  · exact z) q
def aAndT (t u:G3):G3:=fun env h Q=> t env h fun b env' h'=> if b=true then u env' h' Q else Q false env' h'
def aOrT (t u:G3):G3:=fun env h Q=> t env h fun b env' h'=> if b=true then Q true env' h' else u env' h' Q
def aNotT (t:G3):G3:=fun env h Q=> t env h fun b env' h'=> Q (!b) env' h'
def aIfE (t:G3) (a b:AT):AT:=fun env h Q=> t env h fun c env' h'=> if c=true then a env' h' Q else b env' h' Q
theorem aAndT.mono {t u:G3} (m:B0 t) (n:B0 u):B0 (aAndT t u):=fun env h Q Q' k q=> m env h _ _ (fun b e g z=> by
  cases b with
  | true=> exact iteT (n e g _ _ k (by simpa using z))
  | false=> exact iteF (k _ _ _ (by simpa using z))) q
theorem aOrT.mono {t u:G3} (m:B0 t) (n:B0 u):B0 (aOrT t u):=fun env h Q Q' k q=> m env h _ _ (fun b e g z=> by
  cases b with
  | true=> exact iteT (k _ _ _ (by simpa using z))
  | false=> exact iteF (n e g _ _ k (by simpa using z))) q
theorem aNotT.mono {t:G3} (m:B0 t):B0 (aNotT t):=fun env h Q Q' k q=> m env h _ _ (fun b e g z=> k _ _ _ z) q
theorem aIfE.mono {t:G3} {a b:AT} (m:B0 t) (n:B0 a) (o:B0 b):B0 (aIfE t a b):=fun env h Q Q' k q=> m env h _ _ (fun c e g z=> by
  cases c with
  | true=> exact iteT (n e g _ _ k (by simpa using z))
  | false=> exact iteF (o e g _ _ k (by simpa using z))) q
section
variable {X:Cx} {G:Gx} {a b c:Expr} {ta tb tc:AT} {t u:G3} {pos:Pos} {rest:List Expr}
theorem B53 (h:AE X G a ta) (hv:∀t:TE,PE X a t→PT X a (tTest t)):AP X G a (aTst ta):=by
  refine ⟨aTst.mono h.mono,PT.imp (hv _ h.pe) fun σ H Q ⟨env,k,S,q⟩=> ?_⟩
  refine ⟨env,k,S,h.mono env k _ _ (fun r env1 h1 z v H1 S1 x1 r1 f1=> ?_) q⟩
  have r2:=r1.vr S1
  split at z
  · rename_i b e
    rw [e] at r2
    exact ⟨b,r2.bl,z H1 S1 x1⟩
  · exact z.elim
theorem A1T {op:CmpOp} {r:R2} {o:I7} (ho:OpR X (compareOp op) r) (oa:OpA G.K r o) (ha:AE X G a ta) (hb:AE X G b tb) (hm:behindInMarks op b=false):AP X G (.Compare a [op] [b] pos) (aTst (aOp2 o ta tb)):=by
  refine ⟨aTst.mono (aOp2.mono oa ha.mono hb.mono),PT.imp (pt_cmpR ho ha.pe hb.pe hm) fun σ H Q ⟨env,k,S,q⟩=> ?_⟩
  refine A3g ha.mono hb.mono oa ⟨env,k,S,aOp2.mono oa ha.mono hb.mono env k _ _ (fun r env1 h1 z v H1 S1 x1 r1 f1=> ?_) q⟩
  have r2:=r1.vr S1
  split at z
  · rename_i b e
    rw [e] at r2
    exact ⟨b,r2.bl,z H1 S1 x1⟩
  · exact z.elim
theorem c9 (h:AP X G a t):AP X G (.UnaryOp .Not a pos) (aNotT t):=
  ⟨aNotT.mono h.mono,PT.imp (pt_not h.pt) fun σ H Q ⟨env,k,S,q⟩=> ⟨env,k,S,q⟩⟩
structure AW (X:Cx) (G:Gx) (e:Expr) (t:G3):Prop where
  mono:B0 t
  pw:PW X e (cT G t)
theorem PW.imp {e:Expr} {t t':TT} (h:PW X e t) (i:∀σ H Q,t' σ H Q→t σ H Q):PW X e t':=⟨fun w pins s σ H Q I q=> h.run w pins s σ H Q I (i σ H Q q)⟩
theorem AW.ap (h:AW X G a t):AP X G a t:=⟨h.mono,h.pw.pt⟩
theorem A3s (h:AP X G a t):AW X G (.BoolOp .And [a] pos) t:=⟨h.mono,pw_and1 h.pt⟩
theorem A04 (h:AP X G a t):AW X G (.BoolOp .Or [a] pos) t:=⟨h.mono,pw_or1 h.pt⟩
theorem B3l {σ:L2.St} {H:Hp} {Q:Bool→Hp→Prop} (mt:B0 t) (mu:B0 u) (q:cT G (aAndT t u) σ H Q):tAnd (cT G t) (cT G u) σ H Q:=by
  obtain ⟨env,k,S,q⟩:=q
  refine ⟨env,k,S,mt env k _ _ (fun b env1 h1 z H1 S1 x1=> ?_) q⟩
  cases b with
  | true=>
    rw [if_pos rfl] at z
    exact iteT ⟨env1,h1,S1,mu env1 h1 _ _ (fun c env2 h2 z2 H2 S2 x2=> z2 H2 S2 (x1.trans x2)) z⟩
  | false=>
    rw [if_neg Bool.false_ne_true] at z ⊢
    exact z H1 S1 x1
theorem B4j {σ:L2.St} {H:Hp} {Q:Bool→Hp→Prop} (mt:B0 t) (mu:B0 u) (q:cT G (aOrT t u) σ H Q):tOr (cT G t) (cT G u) σ H Q:=by
  obtain ⟨env,k,S,q⟩:=q
  refine ⟨env,k,S,mt env k _ _ (fun b env1 h1 z H1 S1 x1=> ?_) q⟩
  cases b with
  | false=>
    rw [if_neg Bool.false_ne_true] at z
    exact iteF ⟨env1,h1,S1,mu env1 h1 _ _ (fun c env2 h2 z2 H2 S2 x2=> z2 H2 S2 (x1.trans x2)) z⟩
  | true=>
    rw [if_pos rfl] at z ⊢
    exact z H1 S1 x1
theorem A36 (ha:AP X G a t) (hb:AW X G (.BoolOp .And (b::rest) pos) u):AW X G (.BoolOp .And (a::b::rest) pos) (aAndT t u):=
  ⟨aAndT.mono ha.mono hb.mono,PW.imp (pw_and ha.pt hb.pw) fun _ _ _ q=> B3l ha.mono hb.mono q⟩
theorem A0O (ha:AP X G a t) (hb:AW X G (.BoolOp .Or (b::rest) pos) u):AW X G (.BoolOp .Or (a::b::rest) pos) (aOrT t u):=
  ⟨aOrT.mono ha.mono hb.mono,PW.imp (pw_or ha.pt hb.pw) fun _ _ _ q=> B4j ha.mono hb.mono q⟩
theorem A6S (hc:AP X G c t) (ha:AE X G a ta) (hb:AE X G b tb):AE X G (.IfExp c a b pos) (aIfE t ta tb):=by
  refine ⟨aIfE.mono hc.mono ha.mono hb.mono,PE.imp (pe_ifExp hc.pt ha.pe hb.pe) fun σ H Q ⟨env,k,S,q⟩=> ?_⟩
  refine ⟨env,k,S,hc.mono env k _ _ (fun d env1 h1 z H1 S1 x1=> ?_) q⟩
  have fin:∀{t:AT},B0 t→t env1 h1 (fun r env2 h2=> ∀v H',BS G env2 h2 σ H'→Xt env k σ H env2 h2 H'→RvRep G env2 h2 σ H' r v→Q4 H r v→Q v H')→cE G t σ H1 Q:=fun m y=>
    ⟨env1,h1,S1,m env1 h1 _ _ (fun r env2 h2 z2 v H2 S2 x2 r2 f2=> z2 v H2 S2 (x1.trans x2) r2 (by
      cases r with
      | own c=> exact fun p e=> x1.fresh (f2 p e)
      | _=> trivial)) y⟩
  cases d with
  | true=> exact iteT (fin ha.mono (by simpa using z))
  | false=> exact iteF (fin hb.mono (by simpa using z))
end
end Ab
namespace Ab
open PySem PySem.Spec PyProof.Rows L2
theorem RepL.atI {K:PySem.W.Frag} {H:Hp} {ws:List W} {vs:List V} {i:Int} {w:W} (r:RepL K H ws vs) (e:L2.atI ws i=some w):∃v,L2.atI vs i=some v∧Rep K H w v:=by
  unfold L2.atI at e ⊢
  rw [←r.length]
  cases q:ixN ws.length i with
  | none=> rw [q] at e;cases e
  | some j=>
    rw [q] at e
    exact r.get (i:=j) e
def oIx:I7:=fun a b Q=> match b with
  | .wv (.int i)=> match a with
    | .wv (.str x)=> x.length≤sizeLine∧∃c,L2.atI x.cps.toList i=some c∧Q (.val (.str ⟨#[c]⟩))
    | a=> ∃xs w,a.items=some xs∧L2.atI xs i=some w∧Q (.val w)
  | _=> False
theorem oIx.mono (a b:Vw) (Q Q':RV→Prop) (k:∀r,Q r→Q' r) (q:oIx a b Q):oIx a b Q':=by
  unfold oIx at q ⊢
  split at q
  · split at q
    · obtain ⟨z,c,e,q⟩:=q;exact ⟨z,c,e,k _ q⟩
    · obtain ⟨xs,w,e,f,q⟩:=q;exact ⟨xs,w,e,f,k _ q⟩
  · exact q
theorem A9Z {K:PySem.W.Frag}:OpA K (rIx K) oIx:=
  ⟨oIx.mono,fun a b x y H Q0 Q ra rb q k=> by
    unfold oIx at q
    split at q
    · rename_i i
      split at q
      · obtain ⟨z,c,e,q⟩:=q
        exact .inr (.inr ⟨_,i,c,ra.str,rb.int,z,e,k _ _ (.val q .str)⟩)
      · obtain ⟨xs,w,e,f,q⟩:=q
        obtain ⟨p,vs,rfl,hs,rv⟩:=ra.items e
        obtain ⟨v,g,r⟩:=rv.atI f
        rcases hs with hs | hs
        · exact .inl ⟨p,vs,i,v,rfl,rb.int,f9 hs,g,k _ _ (.val q r)⟩
        · exact .inr (.inl ⟨p,vs,i,v,rfl,rb.int,hs,g,k _ _ (.val q r)⟩)
    · exact q.elim⟩
section
variable {X:Cx} {G:Gx} {a b c:Expr} {ta tb tc:AT} {pos:Pos}
theorem J0 (gk:G.K=X.K) (ha:AE X G a ta) (hb:AE X G b tb) (hs:PlainIx b):AE X G (.Subscript a b pos) (aOp2 oIx ta tb):=
  ⟨aOp2.mono (A9Z (K:=G.K)) ha.mono hb.mono,PE.imp (pe_ix ix_seq ha.pe hb.pe hs) fun _ _ _ q=> A3g ha.mono hb.mono (gk▸A9Z) q⟩
end
abbrev AOT:=A1→AH→(Option Int→A1→AH→Prop)→Prop
def cO (G:Gx) (t:AOT):TO:=fun σ H Q=> ∃env h,BS G env h σ H∧t env h fun o env' h'=> ∀H',BS G env' h' σ H'→Xt env h σ H env' h' H'→Q o H'
structure AOp (X:Cx) (G:Gx) (e:Option Expr) (t:AOT):Prop where
  mono:B0 t
  po:PO X e (cO G t)
def c8:AOT:=fun env h Q=> Q none env h
def f8 (t:AT):AOT:=fun env h Q=> t env h fun r env' h'=> match view env' h' r with
  | .wv (.int i)=> Q (some i) env' h'
  | _=> False
theorem PO.imp {X:Cx} {e:Option Expr} {t t':TO} (h:PO X e t) (i:∀σ H Q,t' σ H Q→t σ H Q):PO X e t':=⟨fun pins s σ H Q I q=> h.run pins s σ H Q I (i σ H Q q)⟩
section
variable {X:Cx} {G:Gx} {a b c:Expr} {ta tb tc:AT} {pos p2:Pos} {lo hi:Option Expr} {tl th:AOT}
theorem v4:AOp X G none c8:=⟨fun env h Q Q' k q=> k _ _ _ q,PO.imp po_none fun σ H Q ⟨env,h,S,q⟩=> q H S .refl⟩
theorem v3 (ha:AE X G a ta):AOp X G (some a) (f8 ta):=by
  refine ⟨fun env h Q Q' k q=> ha.mono env h _ _ (fun r e g z=> ?_) q,PO.imp (po_some ha.pe) fun σ H Q ⟨env,h,S,q⟩=> ?_⟩
  · split at z
    · exact k _ _ _ z
    · exact z
  · refine ⟨env,h,S,ha.mono env h _ _ (fun r env1 h1 z v H1 S1 x1 r1 f1=> ?_) q⟩
    have r2:=r1.vr S1
    split at z
    · rename_i i e
      rw [e] at r2
      exact ⟨i,r2.int,z H1 S1 x1⟩
    · exact z.elim
def T4 (xs:List W) (lo hi:Option Int):List W:=(xs.drop (HT.sIx xs.length 0 lo)).take (HT.sIx xs.length xs.length hi - HT.sIx xs.length 0 lo)
def oSl (a:Vw) (lo hi:Option Int) (Q:RV→Prop):Prop:=match a with
  | .wv (.str x)=> x.length≤sizeLine∧Q (.val (.str (Txt.slice x lo hi)))
  | .wv (.tup xs)=> Q (.val (.tup (T4 xs lo hi)))
  | .wv (.lst xs)=> Q (.own (.seq (T4 xs lo hi)))
  | .cv (.seq xs)=> Q (.own (.seq (T4 xs lo hi)))
  | _=> False
theorem oSl.mono {a:Vw} {lo hi:Option Int} {Q Q':RV→Prop} (k:∀r,Q r→Q' r) (q:oSl a lo hi Q):oSl a lo hi Q':=by
  unfold oSl at q ⊢
  split at q <;> first | exact ⟨q.1,k _ q.2⟩ | exact k _ q | exact q.elim
def i4 (ta:AT) (tl th:AOT):AT:=fun env h Q=> ta env h fun r env1 h1=> tl env1 h1 fun lo env2 h2=> th env2 h2 fun hi env3 h3=> oSl (view env3 h3 r) lo hi fun r=> Q r env3 h3
theorem RepL.cut {K:PySem.W.Frag} {H:Hp} {ws:List W} {vs:List V} (r:RepL K H ws vs) (lo hi:Option Int):RepL K H (T4 ws lo hi) (cutV vs lo hi):=by
  unfold T4 cutV
  rw [←r.length]
  exact (r.drop _).take _
theorem B21 {ws:List W} {lo hi:Option Int} (h:HT.sIx ws.length 0 lo=0∧HT.sIx ws.length ws.length hi=ws.length):T4 ws lo hi=ws:=by
  unfold T4
  rw [h.1,h.2]
  simp
theorem u7 (gk:G.K=X.K) (ha:AE X G a ta) (hl:AOp X G lo tl) (hu:AOp X G hi th):AE X G (.Subscript a (.Slice lo hi none p2) pos) (i4 ta tl th):=by
  refine ⟨fun env h Q Q' k q=> ha.mono env h _ _ (fun r e g z=> hl.mono e g _ _ (fun l e g z=> hu.mono e g _ _ (fun u e g z=> oSl.mono (fun r q=> k _ _ _ q) z) z) z) q,PE.imp (pe_slice ((C8.sl_txt.or sl_tupA).or sl_list) ha.pe hl.po hu.po) fun σ H Q ⟨env,h,S,q⟩=> ?_⟩
  refine ⟨env,h,S,ha.mono env h _ _ (fun r env1 h1 z v H1 S1 x1 r1 f1=> ?_) q⟩
  refine ⟨env1,h1,S1,hl.mono env1 h1 _ _ (fun l env2 h2 z H2 S2 x2=> ?_) z⟩
  refine ⟨env2,h2,S2,hu.mono env2 h2 _ _ (fun u env3 h3 z H3 S3 x3=> ?_) z⟩
  have rr:=((r1.xt S1 x2).xt S2 x3).vr S3
  have fin:∀{v:V} {H':Hp},OutR G.K H3 (fun r=> ∀v H',BS G env3 h3 σ H'→Xt env h σ H env3 h3 H'→RvRep G env3 h3 σ H' r v→Q4 H r v→Q v H') v H'→Q v H':=fun o=> by
    obtain ⟨res,q0,a,b,c,d⟩:=o.end S3 (x1.trans (x2.trans x3))
    exact q0 _ _ a b c d
  unfold oSl at z
  split at z
  · rename_i x e
    rw [e] at rr
    exact .inl (.inl ⟨x,rr.str,z.1,fin (.val z.2 .str)⟩)
  · rename_i xs e
    rw [e] at rr
    obtain ⟨p,vs,rfl,hs,rv⟩:=rr.tplT rfl
    refine .inl (.inr ⟨p,vs,rfl,gk▸hs.sq,fun y=> ?_,fun _ m n=> fin (.tup n z (rv.cut _ _))⟩)
    rw [←rv.length] at y
    rw [B21 y] at z
    exact fin (.val z (.tup hs rv))
  · rename_i xs e
    rw [e] at rr
    obtain ⟨p,vs,rfl,hs,rv⟩:=rr.seq rfl
    exact .inr ⟨p,vs,rfl,f9 hs,fun m n=> fin (.lst n z (rv.cut _ _))⟩
  · rename_i xs e
    rw [e] at rr
    obtain ⟨p,vs,rfl,hs,rv⟩:=rr.seq rfl
    exact .inr ⟨p,vs,rfl,f9 hs,fun m n=> fin (.lst n z (rv.cut _ _))⟩
  · exact z.elim
abbrev R3:=A1→AH→(List RV→A1→AH→Prop)→Prop
inductive RvL (G:Gx) (env:A1) (h:AH) (σ:L2.St) (H:Hp):List RV→List V→Prop where
  | nil:RvL G env h σ H [] []
  | cons {r:RV} {rs:List RV} {v:V} {vs:List V}:RvRep G env h σ H r v→RvL G env h σ H rs vs→RvL G env h σ H (r::rs) (v::vs)
def cR (G:Gx) (t:R3):TA:=fun σ H Q=> ∃env h,BS G env h σ H∧t env h fun rs env' h'=> ∀vs H',BS G env' h' σ H'→Xt env h σ H env' h' H'→RvL G env' h' σ H' rs vs→Q vs H'
structure AR (X:Cx) (G:Gx) (es:List Expr) (t:R3):Prop where
  mono:B0 t
  pa:PA X es (cR G t)
def D6:R3:=fun env h Q=> Q [] env h
def C3 (t:AT) (u:R3):R3:=fun env h Q=> t env h fun r env' h'=> u env' h' fun rs env2 h2=> Q (r::rs) env2 h2
theorem D7:AR X G [] D6:=⟨fun env h Q Q' k q=> k _ _ _ q,PA.imp pa_nil fun σ H Q ⟨env,h,S,q⟩=> q [] H S .refl .nil⟩
theorem C5 {e:Expr} {es:List Expr} {t:AT} {u:R3} (a:AE X G e t) (b:AR X G es u) (hs:starEach (e::es) X.env=(false,eval e X.env)::starEach es X.env:=by rfl):AR X G (e::es) (C3 t u):=by
  refine ⟨fun env h Q Q' k q=> a.mono env h _ _ (fun r e g z=> b.mono e g _ _ (fun rs e2 g2 z2=> k _ _ _ z2) z) q,PA.imp (pa_cons a.pe b.pa hs) fun σ H Q ⟨env,h,S,q⟩=> ?_⟩
  refine ⟨env,h,S,a.mono env h _ _ (fun r env1 h1 z v H1 S1 x1 r1 f1=> ?_) q⟩
  refine ⟨env1,h1,S1,b.mono env1 h1 _ _ (fun rs env2 h2 z vs H2 S2 x2 r2=> ?_) z⟩
  exact z (v::vs) H2 S2 (x1.trans x2) (.cons (r1.xt S1 x2) r2)
inductive VRL (K:PySem.W.Frag) (H:Hp):List Vw→List V→Prop where
  | nil:VRL K H [] []
  | cons {a:Vw} {as:List Vw} {v:V} {vs:List V}:VR K H a v→VRL K H as vs→VRL K H (a::as) (v::vs)
theorem RvL.vrl {env:A1} {h:AH} {σ:L2.St} {H:Hp} (S:BS G env h σ H) {rs:List RV} {vs:List V} (r:RvL G env h σ H rs vs):VRL G.K H (rs.map (view env h)) vs:=by
  induction r with
  | nil=> exact .nil
  | cons a _ ih=> exact .cons (a.vr S) ih
abbrev I6:=List Vw→(RV→Prop)→Prop
structure CallA (K:PySem.W.Frag) (r:List V→Hp→VK→Prop) (o:I6):Prop where
  mono:∀as Q Q',(∀r,Q r→Q' r)→o as Q→o as Q'
  ok:∀as vs H Q0 Q,VRL K H as vs→o as Q0→(∀v H',OutR K H Q0 v H'→Q v H')→r vs H Q
def aCB (o:I6) (t:R3):AT:=fun env h Q=> t env h fun rs env1 h1=> o (rs.map (view env1 h1)) fun r=> Q r env1 h1
theorem CallA.or {K:PySem.W.Frag} {r r':List V→Hp→VK→Prop} {o o':I6} (a:CallA K r o) (b:CallA K r' o'):CallA K (fun vs H Q=> r vs H Q∨r' vs H Q) (fun as Q=> o as Q∨o' as Q):=
  ⟨fun as Q Q' k q=> q.imp (a.mono as Q Q' k) (b.mono as Q Q' k),fun as vs H Q0 Q r q k=> q.imp (fun z=> a.ok as vs H Q0 Q r z k) fun z=> b.ok as vs H Q0 Q r z k⟩
theorem CallA.as {K:PySem.W.Frag} {r:List V→Hp→VK→Prop} {o o':I6} (a:CallA K r o) (i:∀as Q,o' as Q→o as Q) (m:∀as Q Q',(∀r,Q r→Q' r)→o' as Q→o' as Q'):CallA K r o':=⟨m,fun as vs H Q0 Q r q k=> a.ok as vs H Q0 Q r (i _ _ q) k⟩
theorem A8p {r:List V→Hp→VK→Prop} {o:I6} {t:R3} (ca:CallA G.K r o) (m:B0 t) {σ:L2.St} {H:Hp} {Q:VK} (q:cE G (aCB o t) σ H Q):tCB r (cR G t) σ H Q:=by
  obtain ⟨env,h,S,q⟩:=q
  refine ⟨env,h,S,m env h _ _ (fun rs env1 h1 z vs H1 S1 x1 r1=> ?_) q⟩
  refine ca.ok _ _ _ _ _ (r1.vrl S1) z fun v H2 out=> ?_
  obtain ⟨res,q0,a,b,c,d⟩:=out.end S1 x1
  exact q0 v H2 a b c d
theorem aCB.mono {r:List V→Hp→VK→Prop} {o:I6} {t:R3} (ca:CallA G.K r o) (m:B0 t):B0 (aCB o t):=fun env h Q Q' k q=> m env h _ _ (fun rs e g z=> ca.mono _ _ _ (fun r q=> k _ _ _ q) z) q
theorem G4 {id:String} {x:Str} {e:Expr} {es:List Expr} {p:Pos} {r:List V→Hp→VK→Prop} {o:I6} {t:R3} (hc:CallR X (.builtin id) r) (ca:CallA G.K r o) (hg:Gl X x) (hm:X.mg x=none) (hv:bootBuiltins x=some (.builtin id)) (ha:AR X G (e::es) t)
    (hn:x≠"__name__":=by decide) (hdb:(x==("__debug__":Str))=false:=by decide) (he:starEach (e::es) X.env=(false,eval e X.env)::starEach es X.env:=by rfl) (hpl:(backTo pos (starEach es X.env)).any (·.1)=false:=by rfl):
    AE X G (.Call (.Name x p) (e::es) [] pos) (aCB o t):=
  ⟨aCB.mono ca ha.mono,PE.imp (pe_callB hc hg hm hv ha.pa hn hdb he hpl) fun _ _ _ q=> A8p ca ha.mono q⟩
theorem c6 {T:String} {x:Str} {e:Expr} {es:List Expr} {p:Pos} {r:List V→Hp→VK→Prop} {o:I6} {t:R3} (hc:CallR X (.type T) r) (ca:CallA G.K r o) (hg:Gl X x) (hm:X.mg x=none) (hv:bootBuiltins x=some (.type T)) (ha:AR X G (e::es) t)
    (hn:x≠"__name__":=by decide) (hdb:(x==("__debug__":Str))=false:=by decide) (he:starEach (e::es) X.env=(false,eval e X.env)::starEach es X.env:=by rfl) (hpl:(backTo pos (starEach es X.env)).any (·.1)=false:=by rfl):
    AE X G (.Call (.Name x p) (e::es) [] pos) (aCB o t):=
  ⟨aCB.mono ca ha.mono,PE.imp (pe_callTy hc hg hm hv ha.pa hn hdb he hpl) fun _ _ _ q=> A8p ca ha.mono q⟩
end
theorem VRL.one {K:PySem.W.Frag} {H:Hp} {a:Vw} {vs:List V} (r:VRL K H [a] vs):∃v,vs=[v]∧VR K H a v:=by
  cases r with
  | cons r t=> cases t;exact ⟨_,rfl,r⟩
theorem VRL.two {K:PySem.W.Frag} {H:Hp} {a b:Vw} {vs:List V} (r:VRL K H [a,b] vs):∃v u,vs=[v,u]∧VR K H a v∧VR K H b u:=by
  cases r with
  | cons r t=> obtain ⟨u,rfl,q⟩:=t.one;exact ⟨_,u,rfl,r,q⟩
def B4:I6:=fun as Q=> match as with
  | [.wv (.str x)]=> x.length≤sizeLine∧Q (.val (.int x.length))
  | [a]=> ∃xs,a.items=some xs∧Q (.val (.int xs.length))
  | _=> False
theorem M8 {K:PySem.W.Frag}:CallA K (fun xs H Q=> ∃x n,xs=[x]∧LenV K x H n∧Q (.int n) H) B4:=
  ⟨fun as Q Q' k q=> by
    unfold B4 at q ⊢
    split at q
    · exact ⟨q.1,k _ q.2⟩
    · obtain ⟨xs,e,q⟩:=q;exact ⟨xs,e,k _ q⟩
    · exact q,fun as vs H Q0 Q r q k=> by
    unfold B4 at q
    split at q
    · obtain ⟨v,rfl,r1⟩:=r.one
      cases r1.str
      exact ⟨_,_,rfl,⟨q.1,rfl⟩,k _ _ (.val q.2 .int)⟩
    · obtain ⟨v,rfl,r1⟩:=r.one
      obtain ⟨xs,e,q⟩:=q
      obtain ⟨p,us,rfl,hs,rv⟩:=r1.items e
      refine ⟨_,us.length,rfl,?_,k _ _ (.val q (by rw [rv.length];exact .int))⟩
      rcases hs with hs | hs
      · exact .inl ⟨us,f9 hs,rfl⟩
      · exact .inr ⟨us,hs,rfl⟩
    · exact q.elim⟩
def o2I (g:Int→Int→Int):I6:=fun as Q=> match as with
  | [.wv (.int i),.wv (.int j)]=> Q (.val (.int (g i j)))
  | _=> False
def o1I (g:Int→Int):I6:=fun as Q=> match as with
  | [.wv (.int i)]=> Q (.val (.int (g i)))
  | _=> False
def oInts (g:List Int→(RV→Prop)→Prop):I6:=fun as Q=> match as with
  | [a]=> ∃ns:List Int,a.seq=some (ns.map W.int)∧g ns Q
  | _=> False
theorem oInts.mono {g:List Int→(RV→Prop)→Prop} (m:∀ns Q Q',(∀r,Q r→Q' r)→g ns Q→g ns Q') (as:List Vw) (Q Q':RV→Prop) (k:∀r,Q r→Q' r) (q:oInts g as Q):oInts g as Q':=by
  unfold oInts at q ⊢
  split at q
  · obtain ⟨ns,e,q⟩:=q;exact ⟨ns,e,m _ _ _ k q⟩
  · exact q
theorem oInts.get {K:PySem.W.Frag} {H:Hp} {g:List Int→(RV→Prop)→Prop} {as:List Vw} {vs:List V} {Q:RV→Prop} (r:VRL K H as vs) (q:oInts g as Q):∃p ns,vs=[.ref p]∧SqL K H p (ns.map V.int)∧g ns Q:=by
  unfold oInts at q
  split at q
  · obtain ⟨v,rfl,r1⟩:=r.one
    obtain ⟨ns,e,q⟩:=q
    obtain ⟨p,us,rfl,hs,rv⟩:=r1.seq e
    rw [rv.of_ints] at hs
    exact ⟨p,ns,rfl,f9 hs,q⟩
  · exact q.elim
def oBls (g:List Bool→Bool):I6:=fun as Q=> match as with
  | [a]=> ∃bs:List Bool,a.seq=some (bs.map W.bl)∧Q (.val (.bl (g bs)))
  | _=> False
theorem oBls.mono {g:List Bool→Bool} (as:List Vw) (Q Q':RV→Prop) (k:∀r,Q r→Q' r) (q:oBls g as Q):oBls g as Q':=by
  unfold oBls at q ⊢
  split at q
  · obtain ⟨ns,e,q⟩:=q;exact ⟨ns,e,k _ q⟩
  · exact q
theorem oBls.get {K:PySem.W.Frag} {H:Hp} {g:List Bool→Bool} {as:List Vw} {vs:List V} {Q:RV→Prop} (r:VRL K H as vs) (q:oBls g as Q):∃p bs,vs=[.ref p]∧SqL K H p (bs.map V.bl)∧Q (.val (.bl (g bs))):=by
  unfold oBls at q
  split at q
  · obtain ⟨v,rfl,r1⟩:=r.one
    obtain ⟨ns,e,q⟩:=q
    obtain ⟨p,us,rfl,hs,rv⟩:=r1.seq e
    rw [rv.of_bls] at hs
    exact ⟨p,ns,rfl,f9 hs,q⟩
  · exact q.elim
theorem A01 {K:PySem.W.Frag}:CallA K (rAll K) (oBls fun bs=> bs.all id):=
  ⟨oBls.mono,fun as vs H Q0 Q r q k=> by
    obtain ⟨p,ns,rfl,hs,q⟩:=oBls.get r q
    exact ⟨p,ns,rfl,hs,k _ _ (.val q .bl)⟩⟩
def O8:I6:=fun as Q=> match as with
  | [a]=> ∃xs,a.items=some xs∧Q (.val (.tup xs))
  | _=> False
theorem A34 {K:PySem.W.Frag}:CallA K (fun xs H Q=> ∃p ys,xs=[.ref p]∧((SqL K H p ys∧∀l,H l=none→Q (.ref l) (upd H l (.tup ys)))∨(SqT K H p ys∧Q (.ref p) H))) O8:=
  ⟨fun as Q Q' k q=> by
    unfold O8 at q ⊢
    split at q
    · obtain ⟨xs,e,q⟩:=q;exact ⟨xs,e,k _ q⟩
    · exact q,fun as vs H Q0 Q r q k=> by
    unfold O8 at q
    split at q
    · obtain ⟨v,rfl,r1⟩:=r.one
      obtain ⟨xs,e,q⟩:=q
      obtain ⟨p,us,rfl,hs,rv⟩:=r1.itemsT e
      refine ⟨p,us,rfl,?_⟩
      rcases hs with hs | hs
      · exact .inl ⟨f9 hs,fun l n=> k _ _ (.tup n q rv)⟩
      · exact .inr ⟨hs.sq,k _ _ (.val q (.tup hs rv))⟩
    · exact q.elim⟩
def T3:I6:=fun as Q=> match as with
  | [a]=> ∃xs,a.items=some xs∧Q (.own (.seq xs))
  | _=> False
theorem A9f {K:PySem.W.Frag}:CallA K (fun xs H Q=> ∃p ys,xs=[.ref p]∧(SqL K H p ys∨SqT K H p ys)∧∀l,H l=none→Q (.ref l) (upd H l (.lst ys))) T3:=
  ⟨fun as Q Q' k q=> by
    unfold T3 at q ⊢
    split at q
    · obtain ⟨xs,e,q⟩:=q;exact ⟨xs,e,k _ q⟩
    · exact q,fun as vs H Q0 Q r q k=> by
    unfold T3 at q
    split at q
    · obtain ⟨v,rfl,r1⟩:=r.one
      obtain ⟨xs,e,q⟩:=q
      obtain ⟨p,us,rfl,hs,rv⟩:=r1.items e
      exact ⟨p,us,rfl,hs.imp_left f9,fun l n=> k _ _ (.lst n q rv)⟩
    · exact q.elim⟩
def W.tyName:W→Option String
  | .non=> some "NoneType"
  | .bl _=> some "bool"
  | .int _=> some "int"
  | .str _=> some "str"
  | .tup _=> some "tuple"
  | .lst _=> some "list"
  | _=> none
def Vw.tyName:Vw→Option String
  | .wv w=> w.tyName
  | .cv (.seq _)=> some "list"
  | _=> none
def x9:String→String→Option Bool
  | "NoneType","bool"=> some false
  | "NoneType","int"=> some false
  | "NoneType","str"=> some false
  | "NoneType","tuple"=> some false
  | "NoneType","list"=> some false
  | "bool","bool"=> some true
  | "bool","int"=> some true
  | "bool","str"=> some false
  | "bool","tuple"=> some false
  | "bool","list"=> some false
  | "int","bool"=> some false
  | "int","int"=> some true
  | "int","str"=> some false
  | "int","tuple"=> some false
  | "int","list"=> some false
  | "str","bool"=> some false
  | "str","int"=> some false
  | "str","str"=> some true
  | "str","tuple"=> some false
  | "str","list"=> some false
  | "tuple","bool"=> some false
  | "tuple","int"=> some false
  | "tuple","str"=> some false
  | "tuple","tuple"=> some true
  | "tuple","list"=> some false
  | "list","bool"=> some false
  | "list","int"=> some false
  | "list","str"=> some false
  | "list","tuple"=> some false
  | "list","list"=> some true
  | _,_=> none
def D9:I6:=fun as Q=> match as with
  | [a,.wv (.ty T)]=> ∃n b,a.tyName=some n∧x9 n T=some b∧Q (.val (.bl b))
  | _=> False
theorem VR.tyX {K:PySem.W.Frag} {H:Hp}:∀{a:Vw} {v:V} {n:String},VR K H a v→a.tyName=some n→(∀ws,a≠ .wv (.tup ws))→TyX K H v (.type n)
  | .bad,_,_,_,e,_=> by cases e
  | .cv (.seq ws),_,_,r,e,_=> by cases e;obtain ⟨p,rfl,vs,l,_⟩:=r;exact .base (.lst l)
  | .cv (.map _),_,_,_,e,_=> by cases e
  | .wv .non,_,_,r,e,_=> by cases e;cases r.non;exact .base .non
  | .wv (.bl _),_,_,r,e,_=> by cases e;cases r.bl;exact .base (.bl _)
  | .wv (.int _),_,_,r,e,_=> by cases e;cases r.int;exact .base (.int _)
  | .wv (.str _),_,_,r,e,_=> by cases e;cases r.str;exact .base (.str _)
  | .wv (.tup ws),_,_,_,_,h=> absurd rfl (h ws)
  | .wv (.lst ws),_,_,r,e,_=> by cases e;obtain ⟨p,vs,rfl,⟨o,l⟩,_⟩:=Rep.of_lst (K:=K) (H:=H) r;exact .base (.frz l)
  | .wv (.dct _ _),_,_,_,e,_=> by cases e
  | .wv (.ref _),_,_,_,e,_=> by cases e
  | .wv (.ty _),_,_,_,e,_=> by cases e
end Ab
namespace Ab
open PySem PySem.Spec PyProof.Rows L2
theorem B4c {K:PySem.W.Frag} {n T:String} {b:Bool} (h:x9 n T=some b):PySem.W.kitOne K (.type n) (.type T)=some b:=by
  unfold x9 at h
  split at h
  all_goals first
    | (cases h;exact kit_ty (by decide+kernel))
    | cases h
theorem B5n {K:PySem.W.Frag} {H:Hp} {a:Addr} {vs:List V} (h:SqT K H a vs):TyX K H (.ref a) (.type "tuple"):=by
  rcases h with (h | ⟨o,h⟩) | ⟨o,its,n,e,c,_⟩
  · exact .base (.tup h)
  · exact .fTuple h
  · exact .kTuple e c
theorem VR.ty {K:PySem.W.Frag} {H:Hp} {a:Vw} {v:V} {n:String} (r:VR K H a v) (e:a.tyName=some n):TyX K H v (.type n):=by
  by_cases h:∃ws,a= .wv (.tup ws)
  · obtain ⟨ws,rfl⟩:=h
    cases e
    obtain ⟨p,vs,rfl,s,_⟩:=Rep.of_tup (K:=K) (H:=H) r
    exact B5n s
  · exact r.tyX e fun ws z=> h ⟨ws,z⟩
theorem d7 {K:PySem.W.Frag}:CallA K (rIsi K) D9:=
  ⟨fun as Q Q' k q=> by
    unfold D9 at q ⊢
    split at q
    · obtain ⟨n,b,e,f,q⟩:=q;exact ⟨n,b,e,f,k _ q⟩
    · exact q,fun as vs H Q0 Q r q k=> by
    unfold D9 at q
    split at q
    · rename_i a T
      obtain ⟨v,u,rfl,r1,r2⟩:=r.two
      cases Rep.of_ty (K:=K) (H:=H) r2
      obtain ⟨n,b,e,f,q⟩:=q
      exact ⟨v,.ty T,.type n,.type T,b,rfl,ClsV.ty T,r1.ty e,B4c f,k _ _ (.val q .bl)⟩
    · exact q.elim⟩
end Ab
namespace Ab
open PySem PySem.Spec PyProof.Rows L2
structure HS (G:Gx) (h:AH) (H:Hp):Prop where
  hp:∀a o,h a=some o→ORep G.K H a o
  fr:∀p o,G.H0 p=some o→G.h0 p=none→NT o→H p=some o
  ext:∀a o,h a=some o→G.h0 a=none→G.H0 a=none
  tr:∀p o,G.H0 p=some o→∃u,H p=some u
  tabs:TabsK G.K H
theorem BS.hs {G:Gx} {env:A1} {h:AH} {σ:L2.St} {H:Hp} (S:BS G env h σ H):HS G h H:=⟨S.hp,S.fr,S.ext,S.tr,S.tabs⟩
def XRep (K:PySem.W.Frag) (H:Hp) (x:AExc) (cls:Value) (d:Option Addr):Prop:=cls= .ref (He.ga K x.n)∧∃dd vs,d=some dd∧H dd=some (.xd vs)∧FRep K H x.fs vs
inductive RR where
  | val (w:W) | own (c:Cont)
def A9y (G:Gx) (h:AH) (H:Hp):RR→V→Prop
  | .val w,v=> Rep G.K H w v
  | .own c,v=> ∃p,v= .ref p∧CRep G.K H p c∧h p=none∧G.H0 p=none
abbrev F5:=List W→AH→(RR→AH→Prop)→(AExc→AH→Prop)→Prop
def g9 (K:PySem.W.Frag) (n:Nat) (sp:F5):Sp:=fun vs H Q E=> ∃ws h Qa Ea,ws.length=n∧(∀a o,h a=some o→ORep K H a o)∧TabsK K H∧RepL K H ws vs∧sp ws h Qa Ea∧
  (∀r h' v H',Qa r h'→HS ⟨K,h,H⟩ h' H'→A9y ⟨K,h,H⟩ h' H' r v→Q v H')∧
  (∀x h' cls d H',Ea x h'→HS ⟨K,h,H⟩ h' H'→XRep K H' x cls d→E cls d H')
section
variable {G:Gx} {env:A1} {h1 h2:AH} {σ:L2.St} {H1 H2:Hp}
theorem BS.after (S:BS G env h1 σ H1) (c:HS ⟨G.K,h1,H1⟩ h2 H2):BS G env h2 σ H2∧Xt env h1 σ H1 env h2 H2:=by
  have kp:Keeps H1 H2:=fun p o e i=> c.fr p o e (S.imm e i).1 i.nt
  have x:Xt env h1 σ H1 env h2 H2:=by
    refine ⟨fun p o e n _ t=> c.fr p o e n t,fun p o e n=> c.ext p o e n,c.tr,fun i d e=> ⟨d,e⟩⟩
  refine ⟨⟨S.len,fun i w e=> ?_,fun i a e=> ?_,S.uni,c.hp,fun p o e n t=> ?_,fun a o e n=> ?_,fun p o e=> ?_,c.tabs⟩,x⟩
  · obtain ⟨v,a,b⟩:=S.val i w e;exact ⟨v,a,Rep.mono kp w v b⟩
  · obtain ⟨p,q,r,n,n0⟩:=S.own i a e
    obtain ⟨o,eo,_⟩:=r.there
    refine ⟨p,q,r.mono kp ((c.fr p o eo n (r.mu_at eo).nt).trans eo.symm),?_,n0⟩
    cases z:h2 p with
    | none=> rfl
    | some u=> have y:H1 p=none:=c.ext p u z n;rw [y] at eo;cases eo
  · have n1:h1 p=none:=by
      cases z:h1 p with
      | none=> rfl
      | some u=> have y:=S.ext p u z n;rw [y] at e;cases e
    exact c.fr p o (S.fr p o e n t) n1 t
  · cases z:h1 a with
    | some u=> exact S.ext a u z n
    | none=>
      have y:H1 a=none:=c.ext a o e z
      cases w:G.H0 a with
      | none=> rfl
      | some u=> obtain ⟨t,q⟩:=S.tr a u w;rw [y] at q;cases q
  · obtain ⟨u,q⟩:=S.tr p o e;exact c.tr p u q
end
def aCall (E:AExc→A1→AH→Prop) (sp:F5) (t:E4):AT:=fun env h Q=> t env h fun ws env1 h1=> sp ws h1 (fun r h2=> match r with
  | .val w=> Q (.val w) env1 h2
  | .own c=> Q (.own c) env1 h2) fun x h2=> E x env1 h2
def P7 (sp:F5):Prop:=∀ws h Q Q' E E',(∀r k,Q r k→Q' r k)→(∀x k,E x k→E' x k)→sp ws h Q E→sp ws h Q' E'
theorem aCall.mono {E:AExc→A1→AH→Prop} {sp:F5} {t:E4} (m:P7 sp) (n:B0 t):B0 (aCall E sp t):=fun env h Q Q' k q=> n env h _ _ (fun ws e g z=> m _ _ _ _ _ _ (fun r f y=> by
  cases r with
  | val w=> exact k _ _ _ y
  | own c=> exact k _ _ _ y) (fun x f y=> y) z) q
def cW (G:Gx) (E:AExc→A1→AH→Prop):WX:=fun cls d σ H=> ∃x env h,BS G env h σ H∧XRep G.K H x cls d∧E x env h
theorem A2Z {X:Cx} {G:Gx}:Takes X (cW G fun _ _ _=> False):=takes0.imp fun _ _ _ _ ⟨_,_,_,_,_,z⟩=> z
section
variable {X:Cx} {G:Gx} {sp:F5} {k n:Nat} {f:Addr} {fd:FuncData} {ps:List Str} {x:Str} {p pos:Pos} {e:Expr} {es:List Expr} {t:E4} {E:AExc→A1→AH→Prop}
theorem B2y {σ:L2.St} {H:Hp} {Q:VK} (m:B0 t) (sm:P7 sp) (hn:∀env h (R:List W→A1→AH→Prop),t env h R→t env h fun ws e g=> ws.length=n∧R ws e g) (q:cE G (aCall E sp t) σ H Q):
    tCallS (g9 G.K n sp) (WE (cW G E)) (cA G t) σ H Q:=by
  obtain ⟨env,h,S,q⟩:=q
  refine ⟨env,h,S,m env h _ _ (fun ws env1 h1 ⟨hl,z⟩ vs H1 S1 x1 r1=> ?_) (hn _ _ _ q)⟩
  refine ⟨ws,h1,_,_,hl,S1.hp,S1.tabs,r1,z,fun r h' v H' y c rr=> ?_,fun x h' cls d H' y c xr=> ?_⟩
  · obtain ⟨S2,x2⟩:=S1.after c
    cases r with
    | val w=> exact y v H' S2 (x1.trans x2) rr trivial
    | own c0=>
      obtain ⟨p,e,cr,a,b⟩:=rr
      have nw:H1 p=none:=b
      obtain ⟨_,g0,no⟩:=S1.noAt nw
      exact y v H' S2 (x1.trans x2) ⟨p,e,cr,a,g0,no⟩ fun p' e'=> by
        rw [e] at e';cases e';exact x1.fresh nw
  · obtain ⟨S2,x2⟩:=S1.after c
    exact ⟨x,env1,h',S2,xr,y⟩
theorem B4Y (F:FnOk X.prog X.w X.K X.mg X.base (L2.CX X.prog X.w) k f fd ps (g9 G.K n sp)) (sm:P7 sp) (hr:Room k X.A) (hg:Gl X x) (hm:X.mg x=some (.ref f)) (hk:PySem.W.keepIn X.K (.ref f)=true) (hb:Binds X.K fd ps []) (tk:Takes X (cW G E))
    (ha:AA X G (e::es) t) (hn:∀env h (R:List W→A1→AH→Prop),t env h R→t env h fun ws e g=> ws.length=n∧R ws e g)
    (hdb:(x==("__debug__":Str))=false:=by decide) (he:starEach (e::es) X.env=(false,eval e X.env)::starEach es X.env:=by rfl) (hpl:(backTo pos (starEach es X.env)).any (·.1)=false:=by rfl):
    AE X G (.Call (.Name x p) (e::es) [] pos) (aCall E sp t):=
  ⟨aCall.mono sm ha.mono,PE.imp (pe_callS F hr hg hm hk hb (fun σ=> passAt tk σ) ha.pa hdb he hpl) fun _ _ _ q=> B2y ha.mono sm hn q⟩
end
theorem B4p:∀env h (R:List W→A1→AH→Prop),aNil env h R→aNil env h fun ws e g=> ws.length=0∧R ws e g:=fun _ _ _ q=> ⟨rfl,q⟩
theorem B4J {t:B9} {u:E4} {n:Nat} (mt:B0 t) (hu:∀env h (R:List W→A1→AH→Prop),u env h R→u env h fun ws e g=> ws.length=n∧R ws e g) (mu:B0 u):
    ∀env h (R:List W→A1→AH→Prop),aCons t u env h R→aCons t u env h fun ws e g=> ws.length=n+1∧R ws e g:=fun env h R q=>
  mt env h _ _ (fun w e g z=> mu e g _ _ (fun ws e2 g2 ⟨y1,y2⟩=> ⟨by rw [List.length_cons,y1],y2⟩) (hu e g _ z)) q
structure AEnds where
  nx:A1→AH→Prop
  rt:RV→A1→AH→Prop
  bk:A1→AH→Prop:=fun _ _=> False
  ct:A1→AH→Prop:=fun _ _=> False
structure AEnds.Le (D D':AEnds):Prop where
  nx:∀e h,D.nx e h→D'.nx e h
  rt:∀r e h,D.rt r e h→D'.rt r e h
  bk:∀e h,D.bk e h→D'.bk e h
  ct:∀e h,D.ct e h→D'.ct e h
theorem AEnds.Le.refl (D:AEnds):D.Le D:=⟨fun _ _ q=> q,fun _ _ _ q=> q,fun _ _ q=> q,fun _ _ q=> q⟩
abbrev C4:=AEnds→A1→AH→Prop
def Z0 (t:C4):Prop:=∀D D' env h,D.Le D'→t D env h→t D' env h
structure Link (G:Gx) (H0:Hp) (Da:AEnds) (D:Ends):Prop where
  nx:∀env h σ H,BS G env h σ H→Keeps H0 H→Da.nx env h→D.nx σ H
  rt:∀r env h σ H v,BS G env h σ H→Keeps H0 H→RvRep G env h σ H r v→Da.rt r env h→D.rt v H
  bk:∀env h σ H,BS G env h σ H→Keeps H0 H→Da.bk env h→D.bk σ H
  ct:∀env h σ H,BS G env h σ H→Keeps H0 H→Da.ct env h→D.ct σ H
theorem Link.from {G:Gx} {H H1:Hp} {Da:AEnds} {D:Ends} (l:Link G H Da D) (k:Keeps H H1):Link G H1 Da D:=
  ⟨fun e h σ H' S q=> l.nx e h σ H' S (k.trans q),fun r e h σ H' v S q=> l.rt r e h σ H' v S (k.trans q),fun e h σ H' S q=> l.bk e h σ H' S (k.trans q),fun e h σ H' S q=> l.ct e h σ H' S (k.trans q)⟩
def cS (G:Gx) (t:C4):TS:=fun D σ H=> ∃env h Da,BS G env h σ H∧t Da env h∧Link G H Da D
structure AS (X:Cx) (G:Gx) (st:Stmt) (t:C4):Prop where
  mono:Z0 t
  ps:PS X st (cS G t)
structure ASs (X:Cx) (G:Gx) (st:List Stmt) (t:C4):Prop where
  mono:Z0 t
  ps:PSs X st (cS G t)
def L7:C4:=fun D env h=> D.nx env h
def aSeq (t u:C4):C4:=fun D env h=> t { D with nx:=u D } env h
theorem aSeq.mono {t u:C4} (m:Z0 t) (n:Z0 u):Z0 (aSeq t u):=fun D D' env h l q=> m { D with nx:=u D } { D' with nx:=u D' } env h ⟨fun e g z=> n D D' e g l z,l.rt,l.bk,l.ct⟩ q
section
variable {X:Cx} {G:Gx} {st:Stmt} {rest:List Stmt} {t u:C4} {e:Expr} {te:AT} {tv:B9} {pos:Pos}
theorem M1:ASs X G [] L7:=⟨fun D D' env h l q=> l.nx _ _ q,PSs.imp pss_nil fun D σ H ⟨env,h,Da,S,q,l⟩=> l.nx _ _ _ _ S (.refl _) q⟩
theorem D4 (a:AS X G st t) (b:ASs X G rest u):ASs X G (st::rest) (aSeq t u):=
  ⟨aSeq.mono a.mono b.mono,PSs.imp (pss_cons a.ps b.ps) fun D σ H ⟨env,h,Da,S,q,l⟩=> ⟨env,h,{ Da with nx:=u Da },S,q,⟨fun e g σ' H' S' y z=> ⟨e,g,Da,S',z,l.from y⟩,l.rt,l.bk,l.ct⟩⟩⟩
theorem F0 (a:AS X G st t):ASs X G [st] t:=⟨a.mono,pss_one a.ps⟩
def A1c (t:AT):C4:=fun D env h=> t env h fun _ env1 h1=> D.nx env1 h1
theorem A5X (a:AE X G e te) (hs:swapsWith e none pos.line X.env=pure false:=by rfl):AS X G (.Expr e pos) (A1c te):=
  ⟨fun D D' env h l q=> a.mono env h _ _ (fun _ e g z=> l.nx _ _ z) q,PS.imp (ps_expr a.pe hs) fun D σ H ⟨env,h,Da,S,q,l⟩=> ⟨env,h,S,a.mono env h _ _ (fun r e g z v H1 S1 x1 _ _=> l.nx _ _ _ _ S1 (x1.keeps S) z) q⟩⟩
def G1 (t:AT):C4:=fun D env h=> t env h D.rt
theorem G7 (a:AE X G e te):AS X G (.Return (some e) pos) (G1 te):=
  ⟨fun D D' env h l q=> a.mono env h _ _ l.rt q,PS.imp (ps_ret a.pe) fun D σ H ⟨env,h,Da,S,q,l⟩=> ⟨env,h,S,a.mono env h _ _ (fun r e g z v H1 S1 x1 r1 _=> l.rt _ _ _ _ _ _ S1 (x1.keeps S) r1 z) q⟩⟩
def L4 (c:G3) (t u:C4):C4:=fun D env h=> c env h fun b env1 h1=> if b=true then t D env1 h1 else u D env1 h1
theorem L9 {c:Expr} {a b:List Stmt} {tc:G3} (hc:AP X G c tc) (ha:ASs X G a t) (hb:ASs X G b u):AS X G (.If c a b pos) (L4 tc t u):=by
  refine ⟨fun D D' env h l q=> hc.mono env h _ _ (fun d e g z=> ?_) q,PS.imp (ps_if hc.pt ha.ps hb.ps) fun D σ H ⟨env,h,Da,S,q,l⟩=> ⟨env,h,S,hc.mono env h _ _ (fun d e g z H1 S1 x1=> ?_) q⟩⟩
  · cases d with
    | true=> rw [if_pos rfl] at z ⊢;exact ha.mono _ _ _ _ l z
    | false=> rw [if_neg Bool.false_ne_true] at z ⊢;exact hb.mono _ _ _ _ l z
  · cases d with
    | true=> rw [if_pos rfl] at z ⊢;exact ⟨e,g,Da,S1,z,l.from (x1.keeps S)⟩
    | false=> rw [if_neg Bool.false_ne_true] at z ⊢;exact ⟨e,g,Da,S1,z,l.from (x1.keeps S)⟩
def aNs (t:AT):AT:=fun env h Q=> t env h fun r env' h'=> match r with
  | .slot i=> match env'[i]? with
    | some (some (.val w))=> Q (.val w) env' h'
    | some (some (.own c))=> Q (.val c.fz) (env'.set i (some (.val c.fz))) h'
    | _=> False
  | r=> Q r env' h'
def A02:RV→Prop
  | .slot _=> False
  | _=> True
theorem aNs.mono (m:B0 te):B0 (aNs te):=fun env h Q Q' k q=> by
  refine m env h _ _ (fun r e g z=> ?_) q
  cases r with
  | val w=> exact k _ _ _ z
  | own c=> exact k _ _ _ z
  | slot i=>
    show match e[i]? with
      | some (some (.val w))=> Q' (.val w) e g
      | some (some (.own c))=> Q' (.val c.fz) (e.set i (some (.val c.fz))) g
      | _=> False
    have z:match e[i]? with
      | some (some (.val w))=> Q (.val w) e g
      | some (some (.own c))=> Q (.val c.fz) (e.set i (some (.val c.fz))) g
      | _=> False:=z
    split at z
    · exact k _ _ _ z
    · exact k _ _ _ z
    · exact z
def cN (G:Gx) (t:AT):TE:=fun σ H Q=> ∃env h,BS G env h σ H∧t env h fun r env' h'=> ∀v H',BS G env' h' σ H'→Xt env h σ H env' h' H'→RvRep G env' h' σ H' r v→Q4 H r v→A02 r→Q v H'
theorem B6Y (a:AE X G e te):PE X e (cN G (aNs te)):=by
  refine ⟨fun pins s σ H Q I ⟨env,h,S,q⟩=> ?_⟩
  refine thn (a.pe.run pins s σ H (fun v H1=> ∃r env' h',BS G env' h' σ H1∧Xt env h σ H env' h' H1∧RvRep G env' h' σ H1 r v∧Q4 H r v∧match r with
    | .slot i=> match env'[i]? with
      | some (some (.val w))=> ∀v H',BS G env' h' σ H'→Xt env h σ H env' h' H'→RvRep G env' h' σ H' (.val w) v→Q4 H (.val w) v→A02 (.val w)→Q v H'
      | some (some (.own c))=> ∀v H',BS G (env'.set i (some (.val c.fz))) h' σ H'→Xt env h σ H (env'.set i (some (.val c.fz))) h' H'→RvRep G (env'.set i (some (.val c.fz))) h' σ H' (.val c.fz) v→Q4 H (.val c.fz) v→A02 (.val c.fz)→Q v H'
      | _=> False
    | r=> ∀v H',BS G env' h' σ H'→Xt env h σ H env' h' H'→RvRep G env' h' σ H' r v→Q4 H r v→A02 r→Q v H') I ⟨env,h,S,a.mono env h _ _ (fun r env' h' z v H1 S1 x1 r1 f1=> ⟨r,env',h',S1,x1,r1,f1,z⟩) q⟩) fun v s1 ⟨x,H1,I1,r1,r,env',h',S1,x1,rr,f1,z⟩=> ?_
  cases r with
  | val w=> exact ⟨x,H1,I1,r1,z x H1 S1 x1 rr f1 trivial⟩
  | own c=> exact ⟨x,H1,I1,r1,z x H1 S1 x1 rr f1 trivial⟩
  | slot i=>
    have es:σ[i]? =some (some x):=rr
    have z:match env'[i]? with
      | some (some (.val w))=> ∀v H',BS G env' h' σ H'→Xt env h σ H env' h' H'→RvRep G env' h' σ H' (.val w) v→Q4 H (.val w) v→A02 (.val w)→Q v H'
      | some (some (.own c))=> ∀v H',BS G (env'.set i (some (.val c.fz))) h' σ H'→Xt env h σ H (env'.set i (some (.val c.fz))) h' H'→RvRep G (env'.set i (some (.val c.fz))) h' σ H' (.val c.fz) v→Q4 H (.val c.fz) v→A02 (.val c.fz)→Q v H'
      | _=> False:=z
    split at z
    · rename_i w e
      obtain ⟨u,e3,r⟩:=S1.val i w e
      rw [es] at e3;cases e3
      exact ⟨x,H1,I1,r1,z x H1 S1 x1 r trivial trivial⟩
    · rename_i c e
      obtain ⟨p,H2,ep,I2,S2,x2,r2⟩:=A5C S1 x1 I1 e
      rw [es] at ep;cases ep
      exact ⟨_,H2,I2,r1,z _ H2 S2 x2 r2 trivial trivial⟩
    · exact z.elim
def RV.sv:RV→SV
  | .val w=> .val w
  | .own c=> .own c
  | .slot _=> .val .non
theorem BS.set {env:A1} {h:AH} {σ:L2.St} {H:Hp} (S:BS G env h σ H) {r:RV} {v:V} (i:Nat) (rr:RvRep G env h σ H r v) (ns:A02 r):BS G (env.set i (some r.sv)) h (σ.set i (some v)) H:=by
  have at_:∀(j:Nat) (sv:SV),(env.set i (some r.sv))[j]? =some (some sv)→(j=i∧sv=r.sv∧(σ.set i (some v))[j]? =some (some v))∨(j≠i∧env[j]? =some (some sv)∧(σ.set i (some v))[j]? =σ[j]?):=fun j sv e=> by
    by_cases hj:j=i
    · subst hj
      have hl:j < env.length:=by
        cases Nat.lt_or_ge j env.length with
        | inl z=> exact z
        | inr z=> rw [List.getElem?_eq_none (by rw [List.length_set];exact z)] at e;cases e
      rw [List.getElem?_set_self hl] at e
      exact .inl ⟨rfl,by injection e with e;injection e with e;exact e.symm,List.getElem?_set_self (by rw [←S.len];exact hl)⟩
    · rw [List.getElem?_set_ne (Ne.symm hj)] at e
      exact .inr ⟨hj,e,List.getElem?_set_ne (Ne.symm hj)⟩
  refine ⟨by rw [List.length_set,List.length_set];exact S.len,fun j w e=> ?_,fun j c e=> ?_,fun j k c c' p e1 e2 f1 f2=> ?_,S.hp,S.fr,S.ext,S.tr,S.tabs⟩
  · rcases at_ j _ e with ⟨rfl,z,y⟩ | ⟨_,z,y⟩
    · cases r with
      | val w'=> cases z;exact ⟨v,y,rr⟩
      | own c=> cases z
      | slot _=> exact ns.elim
    · obtain ⟨u,a,b⟩:=S.val j w z;exact ⟨u,y.trans a,b⟩
  · rcases at_ j _ e with ⟨rfl,z,y⟩ | ⟨_,z,y⟩
    · cases r with
      | val w'=> cases z
      | own c'=> cases z;obtain ⟨p,rfl,a,b,d,_⟩:=rr;exact ⟨p,y,a,b,d⟩
      | slot _=> exact ns.elim
    · obtain ⟨p,a,b⟩:=S.own j c z;exact ⟨p,y.trans a,b⟩
  · have other:∀(m:Nat) (d:Cont),env[m]? =some (some (SV.own d))→σ[m]? =some (some (V.ref p))→r.sv= .own c∨r.sv= .own c'→v= .ref p→False:=fun m d a b z y=> by
      cases r with
      | val w=> rcases z with z | z <;> cases z
      | slot _=> exact ns
      | own c0=> obtain ⟨q,e,_,_,_,no⟩:=rr;rw [e] at y;cases y;exact no ⟨m,d,a,b⟩
    rcases at_ j _ e1 with ⟨j1,z1,y1⟩ | ⟨j1,z1,y1⟩
    · rcases at_ k _ e2 with ⟨k1,z2,y2⟩ | ⟨k1,z2,y2⟩
      · rw [j1,k1]
      · rw [y1] at f1;injection f1 with f1;injection f1 with f1
        rw [y2] at f2
        exact (other k c' z2 f2 (.inl z1.symm) f1).elim
    · rcases at_ k _ e2 with ⟨k1,z2,y2⟩ | ⟨k1,z2,y2⟩
      · rw [y2] at f2;injection f2 with f2;injection f2 with f2
        rw [y1] at f1
        exact (other j c z1 f1 (.inr z2.symm) f2).elim
      · rw [y1] at f1;rw [y2] at f2
        exact S.uni j k c c' p z1 z2 f1 f2
def A1j (i:Nat) (t:AT):C4:=fun D env h=> aNs t env h fun r env1 h1=> D.nx (env1.set i (some r.sv)) h1
theorem A38 {i:Nat} {x:Str} {pos':Pos} (hN:X.N.Nodup) (hi:X.N[i]? =some x) (hx:Loc X.env.scope x) (a:AE X G e te) (hs:swapsWith e (some (.Name x pos')) pos.line X.env=pure false:=by rfl) (hf:X.fn x=true∨X.env.scope.names.lookup x=some .local:=by first | exact .inl rfl | exact .inr rfl | assumption):
    AS X G (.Assign [.Name x pos'] e pos) (A1j i te):=by
  refine ⟨fun D D' env h l q=> aNs.mono a.mono env h _ _ (fun _ e g z=> l.nx _ _ z) q,PS.imp (ps_set hN hi hx (B6Y a) hs hf) fun D σ H ⟨env,h,Da,S,q,l⟩=> ?_⟩
  exact ⟨env,h,S,aNs.mono a.mono env h _ _ (fun r e g z v H1 S1 x1 r1 _ ns=> l.nx _ _ _ _ (S1.set i r1 ns) (x1.keeps S) z) q⟩
end
end Ab
namespace Ab
open PySem PySem.Spec PyProof.Rows L2
abbrev H8:=W→A1→AH→(A1→AH→Prop)→Prop
abbrev x8:=List W→A1→AH→(A1→AH→Prop)→Prop
def u1 {α:Type} (g:α→A1→AH→(A1→AH→Prop)→Prop):Prop:=∀w env h Q Q',(∀e k,Q e k→Q' e k)→g w env h Q→g w env h Q'
def But (sl:List Nat) (σ σ':L2.St):Prop:=σ'.length=σ.length∧∀i:Nat,i∉sl→σ'[i]? =σ[i]?
theorem But.refl {sl:List Nat} (σ:L2.St):But sl σ σ:=⟨rfl,fun _ _=> rfl⟩
theorem But.trans {sl sl':List Nat} {σ σ1 σ2:L2.St} (a:But sl σ σ1) (b:But sl' σ1 σ2):But (sl++sl') σ σ2:=
  ⟨b.1.trans a.1,fun i hi=> (b.2 i fun z=> hi (List.mem_append_right _ z)).trans (a.2 i fun z=> hi (List.mem_append_left _ z))⟩
structure Xg (sl:List Nat) (env:A1) (h:AH) (σ:L2.St) (H:Hp) (env':A1) (h':AH) (σ':L2.St) (H':Hp):Prop where
  fr:∀p o,H p=some o→h p=none→¬OwnAt env σ p→NT o→H' p=some o
  hn:∀p o,h' p=some o→h p=none→H p=none
  th:∀p o,H p=some o→∃o',H' p=some o'
  ow:∀p,OwnAt env' σ' p→OwnAt env σ p
  so:∀(i:Nat) (c':Cont),env'[i]? =some (some (SV.own c'))→∃c,env[i]? =some (some (SV.own c))
  bt:But sl σ σ'
theorem Xg.keeps {sl:List Nat} {G:Gx} {env env':A1} {h h':AH} {σ σ':L2.St} {H H':Hp} (x:Xg sl env h σ H env' h' σ' H') (S:BS G env h σ H):Keeps H H':=fun p o e i=> x.fr p o e (S.imm e i).1 (S.imm e i).2 i.nt
theorem Xg.refl {sl:List Nat} {env:A1} {h:AH} {σ:L2.St} {H:Hp}:Xg sl env h σ H env h σ H:=⟨fun _ _ e _ _ _=> e,fun p o e n=> (by rw [n] at e;cases e),fun _ o e=> ⟨o,e⟩,fun _ q=> q,fun i c e=> ⟨c,e⟩,.refl σ⟩
theorem Xg.trans {sl sl':List Nat} {env env1 env2:A1} {h h1 h2:AH} {σ σ1 σ2:L2.St} {H H1 H2:Hp} (a:Xg sl env h σ H env1 h1 σ1 H1) (b:Xg sl' env1 h1 σ1 H1 env2 h2 σ2 H2):Xg (sl++sl') env h σ H env2 h2 σ2 H2:=by
  refine ⟨fun p o e n w t=> ?_,fun p o e n=> ?_,fun p o e=> ?_,fun p q=> a.ow p (b.ow p q),fun i c e=> ?_,a.bt.trans b.bt⟩
  · refine b.fr p o (a.fr p o e n w t) ?_ (fun q=> w (a.ow p q)) t
    cases q:h1 p with
    | none=> rfl
    | some u=> rw [a.hn p u q n] at e;cases e
  · cases q:h1 p with
    | some u=> exact a.hn p u q n
    | none=>
      have z:=b.hn p o e q
      cases q2:H p with
      | none=> rfl
      | some u=> obtain ⟨o',e'⟩:=a.th p u q2;rw [z] at e';cases e'
  · obtain ⟨o',e'⟩:=a.th p o e;exact b.th p o' e'
  · obtain ⟨c1,z⟩:=b.so i c e
    exact a.so i c1 z
theorem Xt.xg {env env':A1} {h h':AH} {σ:L2.St} {H H':Hp} (x:Xt env h σ H env' h' H'):Xg [] env h σ H env' h' σ H':=
  ⟨x.fr,x.hn,x.th,fun _ q=> x.own q,x.sl,.refl σ⟩
def cG (G:Gx) (sl:List Nat) (g:H8):TG:=fun v σ H Q=> ∃w env h,Rep G.K H w v∧BS G env h σ H∧g w env h fun env' h'=> ∀σ' H',BS G env' h' σ' H'→Xg sl env h σ H env' h' σ' H'→Q σ' H'
def cGs (G:Gx) (sl:List Nat) (g:x8):TGs:=fun vs σ H Q=> ∃ws env h,RepL G.K H ws vs∧BS G env h σ H∧g ws env h fun env' h'=> ∀σ' H',BS G env' h' σ' H'→Xg sl env h σ H env' h' σ' H'→Q σ' H'
structure AG (X:Cx) (G:Gx) (tg:Expr) (sl:List Nat) (g:H8):Prop where
  mono:u1 g
  pg:PG X tg (cG G sl g)
structure AGs (X:Cx) (G:Gx) (tg:List Expr) (sl:List Nat) (g:x8):Prop where
  mono:u1 g
  pg:PGs X tg (cGs G sl g)
theorem PG.imp {X:Cx} {e:Expr} {t t':TG} (h:PG X e t) (i:∀v σ H Q,t' v σ H Q→t v σ H Q):PG X e t':=⟨fun pins s σ H v u Q I r q=> h.run pins s σ H v u Q I r (i _ _ _ _ q)⟩
theorem PGs.imp {X:Cx} {e:List Expr} {t t':TGs} (h:PGs X e t) (i:∀v σ H Q,t' v σ H Q→t v σ H Q):PGs X e t':=⟨fun pins s σ H v u Q I r q=> h.run pins s σ H v u Q I r (i _ _ _ _ q)⟩
section
variable {X:Cx} {G:Gx} {pos:Pos} {x:Str}
def G8 (i:Nat):H8:=fun w env h Q=> Q (env.set i (some (.val w))) h
theorem H9 {i:Nat} (hN:X.N.Nodup) (hi:X.N[i]? =some x) (hx:Loc X.env.scope x) (hf:X.fn x=true∨X.env.scope.names.lookup x=some .local:=by first | exact .inl rfl | exact .inr rfl | assumption):AG X G (.Name x pos) [i] (G8 i):=by
  refine ⟨fun w env h Q Q' k q=> k _ _ q,PG.imp (pg_name hN hi hx hf) fun v σ H Q ⟨w,env,h,r,S,q⟩=> ?_⟩
  have ne:∀{j:Nat},j∉[i]→i≠j:=fun hj z=> hj (by simp [z])
  refine q _ H (S.set (r:= .val w) i r trivial) ⟨fun _ _ e _ _ _=> e,fun p o e n=> (by rw [n] at e;cases e),fun _ o e=> ⟨o,e⟩,fun p ⟨j,c,e1,e2⟩=> ?_,fun j c e1=> ?_,List.length_set,fun j hj=> List.getElem?_set_ne (ne hj)⟩
  · by_cases hj:i=j
    · subst hj
      have hl:i < env.length:=by
        have:=(List.getElem?_eq_some_iff.mp e1).1
        rwa [List.length_set] at this
      rw [List.getElem?_set_self hl] at e1
      cases e1
    · rw [List.getElem?_set_ne hj] at e1 e2
      exact ⟨j,c,e1,e2⟩
  · by_cases hj:i=j
    · subst hj
      have hl:i < env.length:=by
        have:=(List.getElem?_eq_some_iff.mp e1).1
        rwa [List.length_set] at this
      rw [List.getElem?_set_self hl] at e1
      cases e1
    · rw [List.getElem?_set_ne hj] at e1
      exact ⟨c,e1⟩
def A6M:x8:=fun ws env h Q=> ws=[]∧Q env h
def A2h (t:H8) (u:x8):x8:=fun ws env h Q=> ∃w r,ws=w::r∧t w env h fun env' h'=> u r env' h' Q
theorem B5B:AGs X G [] [] A6M:=⟨fun w env h Q Q' k q=> ⟨q.1,k _ _ q.2⟩,PGs.imp pgs_nil fun v σ H Q ⟨ws,env,h,r,S,e,q⟩=> by
  subst e
  exact ⟨r.of_nil,q σ H S .refl⟩⟩
theorem A8S {e:Expr} {es:List Expr} {t:H8} {u:x8} {sl sl':List Nat} (a:AG X G e sl t) (b:AGs X G es sl' u) (hs:(assignEach (e::es) X.env).map (·.2)=assign e X.env::(assignEach es X.env).map (·.2):=by rfl):AGs X G (e::es) (sl++sl') (A2h t u):=by
  refine ⟨fun w env h Q Q' k ⟨x,r,e,q⟩=> ⟨x,r,e,a.mono _ _ _ _ _ (fun e g z=> b.mono _ _ _ _ _ k z) q⟩,PGs.imp (pgs_cons a.pg b.pg hs) fun v σ H Q ⟨ws,env,h,r,S,w,rs,e,q⟩=> ?_⟩
  subst e
  obtain ⟨v0,vr,rfl,r0,rr⟩:=r.of_cons
  refine ⟨v0,vr,rfl,w,env,h,r0,S,a.mono _ _ _ _ _ (fun env1 h1 z σ1 H1 S1 x1=> ?_) q⟩
  exact ⟨rs,env1,h1,RepL.mono (x1.keeps S) _ _ rr,S1,b.mono _ _ _ _ _ (fun env2 h2 z2 σ2 H2 S2 x2=> z2 σ2 H2 S2 (x1.trans x2)) z⟩
def gTp (n:Nat) (u:x8):H8:=fun w env h Q=> match w with
  | .tup ws=> ws.length=n∧u ws env h Q
  | _=> False
theorem B5l {es:List Expr} {k n:Nat} {u:x8} {sl:List Nat} (gk:G.K=X.K) (hc:X.calm=true) (b:AGs X G es sl u)
    (hn:(assignEach es X.env).length=n:=by rfl) (hst:(assignEach es X.env).findIdx? (·.1)=none:=by rfl):AG X G (.Tuple es k pos) sl (gTp n u):=by
  refine ⟨fun w env h Q Q' k q=> ?_,PG.imp (pg_tup hc b.pg hn hst) fun v σ H Q ⟨w,env,h,r,S,q⟩=> ?_⟩
  · unfold gTp at q ⊢
    split at q
    · exact ⟨q.1,b.mono _ _ _ _ _ k q.2⟩
    · exact q
  · unfold gTp at q
    split at q
    · obtain ⟨a,vs,rfl,s,r⟩:=Rep.of_tup r
      exact ⟨a,vs,rfl,gk▸s,r.length.symm.trans q.1,_,env,h,r,S,q.2⟩
    · exact q.elim
end
abbrev Q9:=A1→AH→(List W→A1→AH→Prop)→Prop
def A2r (K:PySem.W.Frag) (J:It) (H1:Hp) (ws:List W):Prop:=∀H,Keeps H1 H→∀i:Nat,(ws.length≤i→J.stop i H)∧∀w,ws[i]? =some w→J.go i H∧∀x H',J.yld i H x H'→New H H'∧Rep K H' w x
def cI (G:Gx) (t:Q9):TI:=fun σ H R=> ∃env h,BS G env h σ H∧t env h fun ws env' h'=> ∀J H',BS G env' h' σ H'→Xt env h σ H env' h' H'→A2r G.K J H' ws→R J H'
structure AI (X:Cx) (G:Gx) (tg iter:Expr) (t:Q9):Prop where
  mono:B0 t
  pi:PI X tg iter (cI G t)
theorem PI.imp {X:Cx} {tg e:Expr} {t t':TI} (h:PI X tg e t) (i:∀σ H R,t' σ H R→t σ H R):PI X tg e t':=⟨fun pins s σ H R I q=> h.run pins s σ H R I (i _ _ _ q)⟩
section
variable {X:Cx} {G:Gx} {tg e:Expr} {pos:Pos} {x:Str}
def iLst (t:B9):Q9:=fun env h Q=> t env h fun w env' h'=> match w with
  | .lst ws=> Q ws env' h'
  | _=> False
def iTpl (t:B9):Q9:=fun env h Q=> t env h fun w env' h'=> match w with
  | .tup ws=> Q ws env' h'
  | _=> False
theorem iLst.mono {t:B9} (m:B0 t):B0 (iLst t):=fun env h Q Q' k q=> m env h _ _ (fun w e g z=> by
  cases w <;> first | exact k _ _ _ z | exact z) q
theorem iTpl.mono {t:B9} (m:B0 t):B0 (iTpl t):=fun env h Q Q' k q=> m env h _ _ (fun w e g z=> by
  cases w <;> first | exact k _ _ _ z | exact z) q
theorem B2n {K:PySem.W.Frag} {H:Hp} {a:Addr} {ws:List W} {vs:List V} (l:LsF H a vs) (r:RepL K H ws vs):A2r K (Itl K a) H ws:=fun H' k i=> by
  have l':=(k.lsF l).sq (K:=K)
  have r':=RepL.mono k _ _ r
  refine ⟨fun h=> ⟨vs,l',by rw [←r'.length];exact h⟩,fun w e=> ?_⟩
  obtain ⟨v,ev,rv⟩:=r'.get e
  exact ⟨⟨vs,v,l',ev⟩,fun x H2 ⟨e1,q⟩=> by
    subst e1
    have z:=q vs l'
    rw [ev] at z;cases z
    exact ⟨.refl _,rv⟩⟩
theorem B3b {K:PySem.W.Frag} {H:Hp} {a:Addr} {ws:List W} {vs:List V} (l:SqT K H a vs) (r:RepL K H ws vs):A2r K (Itt K a) H ws:=fun H' k i=> by
  have l':=k.sqT l
  have r':=RepL.mono k _ _ r
  refine ⟨fun h=> ⟨vs,l',by rw [←r'.length];exact h⟩,fun w e=> ?_⟩
  obtain ⟨v,ev,rv⟩:=r'.get e
  exact ⟨⟨vs,v,l',ev⟩,fun x H2 ⟨e1,q⟩=> by
    subst e1
    have z:=q vs l'
    rw [ev] at z;cases z
    exact ⟨.refl _,rv⟩⟩
theorem PI.or {t u:TI} (a:PI X tg e t) (b:PI X tg e u):PI X tg e (fun σ H R=> t σ H R∨u σ H R):=⟨fun pins s σ H R I q=> q.elim (fun z=> a.run pins s σ H R I z) fun z=> b.run pins s σ H R I z⟩
def P4 (lo:Int) (n:Nat):List W:=(List.range n).map fun (i:Nat)=> W.int (lo+i)
theorem B2D {K:PySem.W.Frag} {H:Hp} {lo:Int} {n:Nat}:A2r K (Itr lo n) H (P4 lo n):=fun H' k i=> by
  have hl:(P4 lo n).length=n:=by simp [P4]
  refine ⟨fun h=> (show n≤i by omega),fun w e=> ?_⟩
  unfold P4 at e
  rw [List.getElem?_map] at e
  cases q:(List.range n)[i]? with
  | none=> rw [q] at e;cases e
  | some j=>
    rw [q] at e
    obtain ⟨hi,ej⟩:=List.getElem?_eq_some_iff.mp q
    rw [List.getElem_range] at ej
    subst ej
    cases e
    rw [List.length_range] at hi
    exact ⟨hi,fun x H2 ⟨e1,e2⟩=> by subst e1;subst e2;exact ⟨.refl _,.int⟩⟩
def A1B (t:R3):Q9:=fun env h Q=> t env h fun rs env' h'=> match rs.map (view env' h') with
  | [.wv (.int j)]=> -(2 ^ 62)≤j∧j < 2 ^ 62∧Q (P4 0 j.toNat) env' h'
  | _=> False
theorem A2Q {a:Expr} {ta:R3} {p:Pos} (hg:Gl X "range") (hm:X.mg "range"=none) (ha:AR X G [a] ta) (hs:starEach [a] X.env=[(false,eval a X.env)]:=by rfl):AI X G tg (.Call (.Name "range" p) [a] [] pos) (A1B ta):=by
  refine ⟨fun env h Q Q' k q=> ha.mono env h _ _ (fun rs e g z=> ?_) q,PI.imp (pi_range1 hg hm ha.pa hs) fun σ H R ⟨env,h,S,q⟩=> ?_⟩
  · split at z
    · exact ⟨z.1,z.2.1,k _ _ _ z.2.2⟩
    · exact z
  · refine ⟨env,h,S,ha.mono env h _ _ (fun rs env1 h1 z vs H1 S1 x1 r1=> ?_) q⟩
    have rr:=r1.vrl S1
    split at z
    · rename_i j e
      rw [e] at rr
      obtain ⟨v,rfl,rv⟩:=rr.one
      cases rv.int
      exact ⟨j,rfl,z.1,z.2.1,z.2.2 _ H1 S1 x1 B2D⟩
    · exact z.elim
end
def aLoop (g:H8) (tb:C4) (D:AEnds):List W→A1→AH→Prop
  | []=> D.nx
  | w::ws=> fun env h=> g w env h fun env1 h1=> tb { D with nx:=aLoop g tb D ws,ct:=aLoop g tb D ws,bk:=D.nx } env1 h1
def A4l (ti:Q9) (g:H8) (tb:C4):C4:=fun D env h=> ti env h fun ws env1 h1=> aLoop g tb D ws env1 h1
theorem aLoop.mono {g:H8} {tb:C4} (mg:u1 g) (mt:Z0 tb) {D D':AEnds} (l:D.Le D'):∀(ws:List W) env h,aLoop g tb D ws env h→aLoop g tb D' ws env h
  | [],env,h,q=> l.nx _ _ q
  | w::ws,env,h,q=> mg w env h _ _ (fun e k z=> mt { D with nx:=aLoop g tb D ws,ct:=aLoop g tb D ws,bk:=D.nx } { D' with nx:=aLoop g tb D' ws,ct:=aLoop g tb D' ws,bk:=D'.nx } e k ⟨aLoop.mono mg mt l ws,l.rt,l.nx,aLoop.mono mg mt l ws⟩ z) q
section
variable {X:Cx} {G:Gx} {tg iter:Expr} {body:List Stmt} {pos:Pos}
theorem A9c {ti:Q9} {g:H8} {tb:C4} {sl:List Nat} (hp:PassesOwn (model X.prog X.w) X.A X.env X.xe) (hc:X.calm=true) (hi:AI X G tg iter ti) (hg:AG X G tg sl g) (hb:ASs X G body tb)
    (hs:∀x,foldedSetIterable iter X.env x=pure x:=by intro _;rfl):AS X G (.For tg iter body [] pos) (A4l ti g tb):=by
  refine ⟨fun D D' env h l q=> hi.mono env h _ _ (fun ws e k z=> aLoop.mono hg.mono hb.mono l ws e k z) q,PS.imp (ps_for hp hc hi.pi hg.pg hb.ps hs) fun D σ H ⟨env,h,Da,S,q,l⟩=> ?_⟩
  refine ⟨env,h,S,hi.mono env h _ _ (fun ws env1 h1 z J H1 S1 x1 gv=> ?_) q⟩
  have kp:=x1.keeps S
  refine ⟨fun i m σ' H'=> ws.length≤i+m∧Keeps H1 H'∧∃e k,BS G e k σ' H'∧aLoop g tb Da (ws.drop i) e k,⟨ws.length,by omega,.refl H1,env1,h1,S1,by simpa using z⟩,?_⟩
  rintro i m σ2 H2 ⟨hm,k2,e2,g2,S2,z2⟩
  have gi:=gv H2 k2 i
  cases e:ws[i]? with
  | none=>
    have hl:=List.getElem?_eq_none_iff.mp e
    rw [List.drop_eq_nil_of_le hl] at z2
    exact .inl ⟨gi.1 hl,l.nx _ _ _ _ S2 (kp.trans k2) z2⟩
  | some w=>
    obtain ⟨hl,ew⟩:=List.getElem?_eq_some_iff.mp e
    have ed:ws.drop i=w::ws.drop (i+1):=by rw [List.drop_eq_getElem_cons hl,ew]
    rw [ed] at z2
    obtain ⟨go,yl⟩:=gi.2 w e
    refine .inr ⟨go,fun σ' H'=> Keeps H1 H'∧∃e k,BS G e k σ' H'∧aLoop g tb Da (ws.drop (i+1)) e k,fun σ' H' n=> ⟨m - 1,by omega,by omega,n.1,n.2⟩,fun x H3 y=> ?_⟩
    obtain ⟨nw,rx⟩:=yl x H3 y
    have k3:=k2.trans nw.keeps
    refine ⟨w,e2,g2,rx,nw.bs S2,hg.mono w e2 g2 _ _ (fun e4 g4 z4 σ4 H4 S4 x4=> ?_) z2⟩
    have k4:=x4.keeps (nw.bs S2)
    refine ⟨e4,g4,_,S4,z4,⟨fun e k σ H S' kk y=> ⟨(k3.trans k4).trans kk,e,k,S',y⟩,fun r e k σ H v S' kk=> l.rt r e k σ H v S' (kp.trans ((k3.trans k4).trans kk)),fun e k σ H S' kk=> l.nx e k σ H S' (kp.trans ((k3.trans k4).trans kk)),fun e k σ H S' kk y=> ⟨(k3.trans k4).trans kk,e,k,S',y⟩⟩⟩
end
end Ab
namespace Ab
open PySem PySem.Spec PyProof.Rows L2
def T1 (env:A1):List Nat→A1
  | []=> env
  | v::vs=> (T1 env vs).set v none
def B7K:Option (Option SV)→Option SV
  | some (some (.val w))=> some (.val w)
  | _=> none
def mend (env e2:A1):List Nat→A1
  | []=> e2
  | v::vs=> (mend env e2 vs).set v (B7K env[v]?)
theorem A75 (env:A1):∀vs,(T1 env vs).length=env.length
  | []=> rfl
  | v::vs=> by rw [T1,List.length_set,A75 env vs]
theorem A8e (env e2:A1):∀vs,(mend env e2 vs).length=e2.length
  | []=> rfl
  | v::vs=> by rw [mend,List.length_set,A8e env e2 vs]
theorem A0m {env:A1} {i:Nat} {x:SV}:∀{vs:List Nat},(T1 env vs)[i]? =some (some x)→env[i]? =some (some x)∧i∉vs
  | [],h=> ⟨h,by simp⟩
  | v::vs,h=> by
    rw [T1] at h
    by_cases hi:v=i
    · subst hi
      by_cases hl:v < (T1 env vs).length
      · rw [List.getElem?_set_self hl] at h;cases h
      · rw [List.getElem?_eq_none (by rw [List.length_set];omega)] at h;cases h
    · rw [List.getElem?_set_ne hi] at h
      obtain ⟨a,b⟩:=A0m h
      exact ⟨a,by simp only [List.mem_cons,not_or];exact ⟨fun z=> hi z.symm,b⟩⟩
theorem A0p {env e2:A1} {i:Nat}:∀{vs:List Nat},i∉vs→(mend env e2 vs)[i]? =e2[i]?
  | [],_=> rfl
  | v::vs,h=> by
    rw [mend,List.getElem?_set_ne (fun z=> h (by simp [z])),A0p fun z=> h (List.mem_cons_of_mem _ z)]
theorem A0u {env e2:A1} {i:Nat} {x:SV}:∀{vs:List Nat},i∈vs→(mend env e2 vs)[i]? =some (some x)→∃w,x= .val w∧env[i]? =some (some (.val w))
  | v::vs,hi,h=> by
    rw [mend] at h
    by_cases e:v=i
    · subst e
      by_cases hl:v < (mend env e2 vs).length
      · rw [List.getElem?_set_self hl] at h
        cases q:env[v]? with
        | none=> rw [q] at h;cases h
        | some o=>
          cases o with
          | none=> rw [q] at h;cases h
          | some sv=>
            cases sv with
            | val w=> rw [q] at h;cases h;exact ⟨w,rfl,rfl⟩
            | own c=> rw [q] at h;cases h
      · rw [List.getElem?_eq_none (by rw [List.length_set];omega)] at h;cases h
    · rw [List.getElem?_set_ne e] at h
      rcases List.mem_cons.mp hi with z | z
      · exact absurd z.symm e
      · exact A0u z h
theorem A2X (σ:L2.St) (vs:List Nat):(wipe σ vs).length=σ.length:=wipe_length σ vs
theorem u5 {σ:L2.St} {i:Nat}:∀{vs:List Nat},i∉vs→(wipe σ vs)[i]? =σ[i]?
  | [],_=> rfl
  | v::vs,h=> by
    rw [wipe,List.getElem?_set_ne (fun z=> h (by simp [z])),u5 fun z=> h (List.mem_cons_of_mem _ z)]
theorem A5R {σ:L2.St} {i:Nat}:∀{vs:List Nat},i∈vs→(wipe σ vs)[i]? =if i < σ.length then some none else none
  | v::vs,h=> by
    rw [wipe]
    by_cases e:v=i
    · subst e
      by_cases hl:v < σ.length
      · rw [if_pos hl,List.getElem?_set_self (by rw [A2X];exact hl)]
      · rw [if_neg hl,List.getElem?_eq_none (by rw [List.length_set,A2X];omega)]
    · rw [List.getElem?_set_ne e]
      rcases List.mem_cons.mp h with z | z
      · exact absurd z.symm e
      · exact A5R z
theorem B4A {σ σ2:L2.St} {vs sl:List Nat} (b:But sl (wipe σ vs) σ2) (h:∀i∈sl,i∈vs):wipe σ2 vs=wipe σ vs:=by
  have hl:σ2.length=σ.length:=b.1.trans (A2X _ _)
  apply List.ext_getElem?
  intro i
  by_cases hi:i∈vs
  · rw [A5R hi,A5R hi,hl]
  · rw [u5 hi,b.2 i fun z=> hi (h i z)]
section
variable {G:Gx} {env e2:A1} {h h2:AH} {σ σ2:L2.St} {H H2:Hp} {vs sl:List Nat}
theorem OwnAt.wiped {p:Addr} (o:OwnAt (T1 env vs) (wipe σ vs) p):OwnAt env σ p:=by
  obtain ⟨i,c,a,b⟩:=o
  obtain ⟨a1,hi⟩:=A0m a
  rw [u5 hi] at b
  exact ⟨i,c,a1,b⟩
theorem BS.wipe (S:BS G env h σ H):BS G (T1 env vs) h (L2.wipe σ vs) H:=by
  refine ⟨by rw [A75,A2X];exact S.len,fun i w e=> ?_,fun i c e=> ?_,fun i j c c' p e1 e2 f1 f2=> ?_,S.hp,S.fr,S.ext,S.tr,S.tabs⟩
  · obtain ⟨a,hi⟩:=A0m e
    rw [u5 hi];exact S.val i w a
  · obtain ⟨a,hi⟩:=A0m e
    rw [u5 hi];exact S.own i c a
  · obtain ⟨a,hi⟩:=A0m e1
    obtain ⟨b,hj⟩:=A0m e2
    rw [u5 hi] at f1;rw [u5 hj] at f2
    exact S.uni i j c c' p a b f1 f2
theorem BS.mend (S:BS G env h σ H) (S2:BS G e2 h2 σ2 H2) (k:Keeps H H2) (b:But sl (L2.wipe σ vs) σ2) (hs:∀i∈sl,i∈vs):BS G (mend env e2 vs) h2 σ H2:=by
  have at_:∀{i:Nat},i∉vs→σ2[i]? =σ[i]? :=fun {i} hi=> (b.2 i fun z=> hi (hs i z)).trans (u5 hi)
  refine ⟨by rw [A8e,S2.len,b.1,A2X],fun i w e=> ?_,fun i c e=> ?_,fun i j c c' p e1 e2 f1 f2=> ?_,S2.hp,S2.fr,S2.ext,S2.tr,S2.tabs⟩
  · by_cases hi:i∈vs
    · obtain ⟨w',e0,a⟩:=A0u hi e
      cases e0
      obtain ⟨v,x,y⟩:=S.val i w a
      exact ⟨v,x,Rep.mono k w v y⟩
    · rw [A0p hi] at e
      obtain ⟨v,x,y⟩:=S2.val i w e
      exact ⟨v,(at_ hi).symm.trans x,y⟩
  · by_cases hi:i∈vs
    · obtain ⟨w',e0,_⟩:=A0u hi e;cases e0
    · rw [A0p hi] at e
      obtain ⟨p,x,y⟩:=S2.own i c e
      exact ⟨p,(at_ hi).symm.trans x,y⟩
  · by_cases hi:i∈vs
    · obtain ⟨w',e0,_⟩:=A0u hi e1;cases e0
    · by_cases hj:j∈vs
      · obtain ⟨w',e0,_⟩:=A0u hj e2;cases e0
      · rw [A0p hi] at e1;rw [A0p hj] at e2
        exact S2.uni i j c c' p e1 e2 ((at_ hi).trans f1) ((at_ hj).trans f2)
theorem BS.unseen (S:BS G env h σ H) {D:Addr} {o o':HO} (e:H D=some o) (m:Mu o) (n:h D=none) (n0:G.H0 D=none) (no:¬OwnAt env σ D):Keeps H (upd H D o')∧BS G env h σ (upd H D o'):=by
  have k:Keeps H (upd H D o'):=fun p u q i=> by
    have ne:p≠D:=fun z=> by subst z;rw [e] at q;cases q;exact m.imm i
    rw [upd_ne ne];exact q
  refine ⟨k,S.len,fun i w z=> ?_,fun i c z=> ?_,S.uni,fun a u z=> ?_,fun p u z y t=> ?_,S.ext,fun p u z=> ?_,S.tabs.upd fun u z=> (by rw [e] at z;cases z;exact m)⟩
  · obtain ⟨v,x,y⟩:=S.val i w z;exact ⟨v,x,Rep.mono k w v y⟩
  · obtain ⟨p,x,y,a,b⟩:=S.own i c z
    have ne:p≠D:=fun q=> no ⟨i,c,z,q▸x⟩
    exact ⟨p,x,y.mono k (upd_ne ne),a,b⟩
  · have ne:a≠D:=fun q=> by rw [q,n] at z;cases z
    exact (S.hp a u z).mono k (upd_ne ne)
  · have ne:p≠D:=fun q=> by rw [q,n0] at z;cases z
    rw [upd_ne ne];exact S.fr p u z y t
  · by_cases q:p=D
    · subst q;exact ⟨_,upd_same⟩
    · obtain ⟨u',y⟩:=S.tr p u z;exact ⟨u',by rw [upd_ne q];exact y⟩
end
def lcLoop (vs:List Nat) (g:H8) (tt:G3) (te:B9) (Q:List W→A1→AH→Prop):List W→List W→A1→AH→Prop
  | [],acc=> fun env h=> Q acc env h
  | w::ws,acc=> fun env h=> g w (T1 env vs) h fun e1 h1=> tt e1 h1 fun b e2 h2=> if b=true then te e2 h2 fun y e3 h3=> acc.length < sizeLine∧lcLoop vs g tt te Q ws (acc++[y]) (mend env e3 vs) h3 else lcLoop vs g tt te Q ws acc (mend env e2 vs) h2
def P6 (vs:List Nat) (ti:Q9) (g:H8) (tt:G3) (te:B9):AT:=fun env h Q=> ti env h fun ws e1 h1=> lcLoop vs g tt te (fun acc e h=> Q (.own (.seq acc)) e h) ws [] e1 h1
theorem lcLoop.mono {vs:List Nat} {g:H8} {tt:G3} {te:B9} (mg:u1 g) (mt:B0 tt) (me:B0 te) {Q Q':List W→A1→AH→Prop} (k:∀a e h,Q a e h→Q' a e h):∀(ws acc:List W) env h,lcLoop vs g tt te Q ws acc env h→lcLoop vs g tt te Q' ws acc env h
  | [],acc,env,h,q=> k _ _ _ q
  | w::ws,acc,env,h,q=> mg _ _ _ _ _ (fun e1 h1 z=> mt _ _ _ _ (fun b e2 h2 z=> by
    cases b with
    | true=> rw [if_pos rfl] at z ⊢;exact me _ _ _ _ (fun y e3 h3 z=> ⟨z.1,lcLoop.mono mg mt me k ws _ _ _ z.2⟩) z
    | false=> rw [if_neg Bool.false_ne_true] at z ⊢;exact lcLoop.mono mg mt me k ws _ _ _ z) z) q
structure APs (X:Cx) (G:Gx) (ifs:List Expr) (t:G3):Prop where
  mono:B0 t
  pts:PTs X ifs (cT G t)
def U5:G3:=fun env h Q=> Q true env h
theorem X3 {X:Cx} {G:Gx}:APs X G [] U5:=⟨fun env h Q Q' k q=> k _ _ _ q,⟨fun pins s σ H Q I ⟨env,h,S,q⟩=> pts_nil.run pins s σ H Q I (q H S .refl)⟩⟩
theorem B4f {X:Cx} {G:Gx} {c:Expr} {t:G3} (h:AP X G c t):APs X G [c] t:=⟨h.mono,pts_one h.pt⟩
section
variable {X:Cx} {G:Gx} {elt tg iter:Expr} {ifs:List Expr} {scope:Scope} {own:List (Str×Nat)} {pos:Pos} {ti:Q9} {g:H8} {tt:G3} {te:B9} {sl:List Nat}
theorem A9D {σ:L2.St} {H:Hp} {Q:VK} (hi:AI X G tg iter ti) (hsl:∀i∈sl,i∈own.map (·.2)) (mg:u1 g) (mt:B0 tt) (me:B0 te) (q:cE G (P6 (own.map (·.2)) ti g tt te) σ H Q):
    tLc (cI G ti) (cG G sl g) (cT G tt) (cV G te) (own.map (·.2)) σ H Q:=by
  obtain ⟨env,h,S,q⟩:=q
  refine ⟨env,h,S,hi.mono env h _ _ (fun ws env1 h1 z J H1 S1 x1 gv=> ?_) q⟩
  intro D nD
  have hD:H D=none:=x1.fresh nD
  obtain ⟨hd1,hd0,hdo⟩:=S1.noAt nD
  have nw0:New H1 (upd H1 D (.lst [])):=New.upd nD
  refine ⟨fun i m H'=> ws.length≤i+m∧Keeps H1 H'∧∃acc vacc e k,H' D=some (.lst vacc)∧RepL G.K H' acc vacc∧BS G e k σ H'∧Xt env h σ H e k H'∧k D=none∧¬OwnAt e σ D∧
    lcLoop (own.map (·.2)) g tt te (fun acc e h'=> ∀v H',BS G e h' σ H'→Xt env h σ H e h' H'→RvRep G e h' σ H' (.own (.seq acc)) v→Q4 H (.own (.seq acc)) v→Q v H') (ws.drop i) acc e k,
    ⟨ws.length,by omega,nw0.keeps,[],[],env1,h1,upd_same,.nil,nw0.bs S1,x1.trans nw0.xt,hd1,hdo,by simpa using z⟩,?_⟩
  rintro i m H2 ⟨hm,k2,acc,vacc,e2,g2,d2,r2,S2,x2,n2,no2,z2⟩
  have gi:=gv H2 k2 i
  cases e:ws[i]? with
  | none=>
    have hl:=List.getElem?_eq_none_iff.mp e
    rw [List.drop_eq_nil_of_le hl] at z2
    exact .inl ⟨gi.1 hl,z2 _ H2 S2 x2 ⟨D,rfl,⟨vacc,d2,r2⟩,n2,hd0,no2⟩ fun p ep=> by cases ep;exact hD⟩
  | some w=>
    obtain ⟨hl,ew⟩:=List.getElem?_eq_some_iff.mp e
    have ed:ws.drop i=w::ws.drop (i+1):=by rw [List.drop_eq_getElem_cons hl,ew]
    rw [ed] at z2
    simp only [lcLoop] at z2
    obtain ⟨go,yl⟩:=gi.2 w e
    refine .inr ⟨go,fun H'=> Keeps H1 H'∧∃acc vacc e k,H' D=some (.lst vacc)∧RepL G.K H' acc vacc∧BS G e k σ H'∧Xt env h σ H e k H'∧k D=none∧¬OwnAt e σ D∧
      lcLoop (own.map (·.2)) g tt te (fun acc e h'=> ∀v H',BS G e h' σ H'→Xt env h σ H e h' H'→RvRep G e h' σ H' (.own (.seq acc)) v→Q4 H (.own (.seq acc)) v→Q v H') (ws.drop (i+1)) acc e k,fun H' n=> ⟨m - 1,by omega,by omega,n.1,n.2⟩,fun x H3 y=> ?_⟩
    obtain ⟨nw,rx⟩:=yl x H3 y
    have S3:=nw.bs S2
    refine ⟨w,T1 e2 (own.map (·.2)),g2,rx,S3.wipe,mg _ _ _ _ _ (fun e4 g4 z4 σ4 H4 S4 x4=> ?_) z2⟩
    refine ⟨B4A x4.bt hsl,e4,g4,S4,mt _ _ _ _ (fun b e5 g5 z5 H5 S5 x5=> ?_) z4⟩
    have fin:∀{e6:A1} {g6:AH} {H6:Hp},BS G e6 g6 σ4 H6→Xt e4 g4 σ4 H4 e6 g6 H6→H6 D=some (.lst vacc)∧Keeps H2 H6∧BS G (mend e2 e6 (own.map (·.2))) g6 σ H6∧g6 D=none∧¬OwnAt (mend e2 e6 (own.map (·.2))) σ D∧
        ∀ys,Xt env h σ H (mend e2 e6 (own.map (·.2))) g6 (upd H6 D (.lst ys)):=fun {e6 g6 H6} S6 x6=> by
      have xx:=x4.trans x6.xg
      have noW:¬OwnAt (T1 e2 (own.map (·.2))) (wipe σ (own.map (·.2))) D:=fun q=> no2 q.wiped
      have f6:∀p o,H2 p=some o→g2 p=none→¬OwnAt e2 σ p→NT o→H6 p=some o:=fun p o e n q t=> xx.fr p o (nw p o e) n (fun q'=> q q'.wiped) t
      have kk:Keeps H2 H6:=fun p o e i=> f6 p o e (S2.imm e i).1 (S2.imm e i).2 i.nt
      have Sm:=BS.mend (sl:=sl++[]) S2 S6 kk xx.bt fun i hi=> hsl i (by simpa using hi)
      have g6D:g6 D=none:=by
        cases q:g6 D with
        | none=> rfl
        | some u=> have y:=xx.hn D u q n2;rw [nw D _ d2] at y;cases y
      have sameOut:∀{j:Nat},j∉own.map (·.2)→σ4[j]? =σ[j]? :=fun {j} hj=> (x4.bt.2 j fun q=> hj (hsl j q)).trans (u5 hj)
      have oM:∀p,OwnAt (mend e2 e6 (own.map (·.2))) σ p→OwnAt e2 σ p:=fun p ⟨j,c,a,b⟩=> by
        by_cases hj:j∈own.map (·.2)
        · obtain ⟨w',e0,_⟩:=A0u hj a;cases e0
        · rw [A0p hj] at a
          exact (xx.ow p ⟨j,c,a,(sameOut hj).trans b⟩).wiped
      refine ⟨f6 D _ d2 n2 no2 (Mu.nt (o:= .lst vacc) trivial),kk,Sm,g6D,fun q=> no2 (oM D q),fun ys=> ⟨fun p o e n q t=> ?_,fun p o e n=> ?_,fun p o e=> ?_,fun j c e=> ?_⟩⟩
      · have np:p≠D:=fun z=> by rw [z,hD] at e;cases e
        rw [upd_ne np]
        refine f6 p o (x2.fr p o e n q t) ?_ (fun y=> q (x2.own y)) t
        cases y:g2 p with
        | none=> rfl
        | some u=> rw [x2.hn p u y n] at e;cases e
      · cases y:g2 p with
        | some u=> exact x2.hn p u y n
        | none=>
          have y3:=xx.hn p o e y
          cases y4:H p with
          | none=> rfl
          | some u=>
            obtain ⟨u',y5⟩:=x2.th p u y4
            rw [nw p u' y5] at y3;cases y3
      · by_cases hp:p=D
        · subst hp;exact ⟨_,upd_same⟩
        · obtain ⟨u,y⟩:=x2.th p o e
          obtain ⟨u',y'⟩:=xx.th p u (nw p u y)
          exact ⟨u',by rw [upd_ne hp];exact y'⟩
      · by_cases hj:j∈own.map (·.2)
        · obtain ⟨w',e0,_⟩:=A0u hj e;cases e0
        · rw [A0p hj] at e
          obtain ⟨c1,y⟩:=xx.so j _ e
          obtain ⟨y1,_⟩:=A0m y
          exact x2.sl j c1 y1
    cases b with
    | true=>
      rw [if_pos rfl] at z5
      refine iteT ⟨e5,g5,S5,me _ _ _ _ (fun y e6 g6 ⟨hz,z6⟩ v H6 S6 x6 r6=> ?_) z5⟩
      obtain ⟨d6,k6,Sm,n6,no6,xm⟩:=fin S6 (x5.trans x6)
      obtain ⟨k7,S7⟩:=Sm.unseen (o':= .lst (vacc++[v])) d6 trivial n6 hd0 no6
      exact ⟨vacc,d6,by rw [←r2.length];exact hz,(k2.trans k6).trans k7,acc++[y],vacc++[v],_,g6,upd_same,(RepL.mono (k6.trans k7) _ _ r2).append (.cons (Rep.mono k7 _ _ r6) .nil),S7,xm _,n6,no6,z6⟩
    | false=>
      rw [if_neg Bool.false_ne_true] at z5
      refine iteF ?_
      obtain ⟨d6,k6,Sm,n6,no6,xm⟩:=fin S5 x5
      have eu:upd H5 D (.lst vacc)=H5:=by
        funext p
        by_cases hp:p=D
        · subst hp;rw [upd_same,d6]
        · rw [upd_ne hp]
      have xm':=xm vacc
      rw [eu] at xm'
      exact ⟨k2.trans k6,acc,vacc,_,g5,d6,RepL.mono k6 _ _ r2,Sm,xm',n6,no6,z5⟩
theorem B6U (hc:X.calm=true) (hN:X.N.Nodup) (hi:AI X G tg iter ti) (ok:BlkOk X.N X.env.scope scope own) (hsl:∀i∈sl,i∈own.map (·.2))
    (hg:∀(s:Shared) (H:Hp) (C:Addr) (cl:List (Str×Addr)) (fp:List Addr),AG (X.blk s H scope (compEnvC scope cl C X.env) fp) G tg sl g) (ht:∀(s:Shared) (H:Hp) (C:Addr) (cl:List (Str×Addr)) (fp:List Addr),APs (X.blk s H scope (compEnvC scope cl C X.env) fp) G ifs tt)
    (he:∀(s:Shared) (H:Hp) (C:Addr) (cl:List (Str×Addr)) (fp:List Addr),AV (X.blk s H scope (compEnvC scope cl C X.env) fp) G elt te) (mg:u1 g) (mt:B0 tt) (me:B0 te) (hs:∀x,foldedSetIterable iter X.env x=pure x:=by intro _;rfl):
    AE X G (.ListComp elt [⟨tg,iter,ifs,0⟩] scope pos) (P6 (own.map (·.2)) ti g tt te):=by
  exact ⟨fun env h Q Q' k q=> hi.mono env h _ _ (fun ws e1 h1 z=> lcLoop.mono mg mt me (fun a e h q=> k _ _ _ q) ws [] e1 h1 z) q,PE.imp (pe_lc hc hN hi.pi ok (fun s H C cl fp=> (hg s H C cl fp).pg) (fun s H C cl fp=> (ht s H C cl fp).pts) (fun s H C cl fp=> (he s H C cl fp).pe) hs) fun σ H Q q=> A9D hi hsl mg mt me q⟩
end
end Ab
namespace Ab
open PySem PySem.Spec PyProof.Rows L2
def H7 (h:AH) (a:Addr) (o:AO):AH:=fun b=> if b=a then some o else h b
theorem Y5 {h:AH} {a:Addr} {o:AO}:H7 h a o a=some o:=by unfold H7;rw [if_pos rfl]
theorem c7 {h:AH} {a b:Addr} {o:AO} (n:b≠a):H7 h a o b=h b:=by unfold H7;rw [if_neg n]
def N4 (env:A1) (h:AH):RV→Option Cont
  | .slot i=> match env[i]? with
    | some (some (.own c))=> some c
    | _=> none
  | .val (.ref a)=> match h a with
    | some (.cont c)=> some c
    | _=> none
  | _=> none
def A0R (env:A1) (r:RV) (c:Cont):A1:=match r with
  | .slot i=> env.set i (some (.own c))
  | _=> env
def A0Q (h:AH) (r:RV) (c:Cont):AH:=match r with
  | .val (.ref a)=> H7 h a (.cont c)
  | _=> h
section
variable {G:Gx} {env:A1} {h:AH} {σ:L2.St} {H:Hp}
theorem A2f (S:BS G env h σ H) {r:RV} {v:V} {c:Cont} (rr:RvRep G env h σ H r v) (e:N4 env h r=some c):∃p,v= .ref p∧CRep G.K H p c∧
    ∀o' c',(Keeps H (upd H p o')→CRep G.K (upd H p o') p c')→BS G (A0R env r c') (A0Q h r c') σ (upd H p o')∧Xt env h σ H (A0R env r c') (A0Q h r c') (upd H p o'):=by
  have com:∀(p:Addr) (o':HO),(∃u,H p=some u∧Mu u)→Keeps H (upd H p o')∧(∀q o,H q=some o→∃u,upd H p o' q=some u):=fun p o' ⟨u,eu,mu⟩=> by
    refine ⟨fun q o eq i=> ?_,fun q o eq=> ?_⟩
    · have ne:q≠p:=fun z=> by subst z;rw [eu] at eq;cases eq;exact mu.imm i
      rw [upd_ne ne];exact eq
    · by_cases z:q=p
      · subst z;exact ⟨_,upd_same⟩
      · exact ⟨o,by rw [upd_ne z];exact eq⟩
  cases r with
  | own c0=> cases e
  | slot i=>
    have e:(match env[i]? with
      | some (some (.own c))=> some c
      | _=> none)=some c:=e
    split at e
    · rename_i c0 hs
      cases e
      obtain ⟨p,es,cr,n,n0⟩:=S.own i c hs
      have es':σ[i]? =some (some v):=rr
      rw [es] at es';cases es'
      refine ⟨p,rfl,cr,fun o' c' hc=> ?_⟩
      obtain ⟨kp,th⟩:=com p o' cr.there
      have hc:=hc kp
      have at_:∀(j:Nat) (sv:SV),(env.set i (some (SV.own c')))[j]? =some (some sv)→(j=i∧sv= .own c')∨(j≠i∧env[j]? =some (some sv)):=fun j sv z=> by
        rw [A2V hs] at z
        by_cases hj:j=i
        · rw [if_pos hj] at z;cases z;exact .inl ⟨hj,rfl⟩
        · rw [if_neg hj] at z;exact .inr ⟨hj,z⟩
      show BS G (env.set i (some (.own c'))) h σ _∧Xt env h σ H (env.set i (some (.own c'))) h _
      refine ⟨⟨by rw [List.length_set];exact S.len,fun j w z=> ?_,fun j d z=> ?_,fun j k d d' q z1 z2 f1 f2=> ?_,fun a o z=> ?_,fun q o z y t=> ?_,S.ext,fun q o z=> ?_,S.tabs.upd fun o z=> cr.mu_at z⟩,fun q o z y w t=> ?_,fun q o z y=> (by rw [y] at z;cases z),th,fun j d z=> ?_⟩
      · rcases at_ j _ z with ⟨_,z⟩ | ⟨_,z⟩
        · cases z
        · obtain ⟨u,a,b⟩:=S.val j w z;exact ⟨u,a,Rep.mono kp w u b⟩
      · rcases at_ j _ z with ⟨hj,z⟩ | ⟨hj,z⟩
        · cases z;exact ⟨p,hj▸es,hc,n,n0⟩
        · obtain ⟨q,a,b,x,y⟩:=S.own j d z
          have nq:q≠p:=fun z2=> hj (S.uni j i d c p z hs (z2▸a) es)
          exact ⟨q,a,b.mono kp (upd_ne nq),x,y⟩
      · rcases at_ j _ z1 with ⟨hj,y1⟩ | ⟨hj,y1⟩
        · rcases at_ k _ z2 with ⟨hk,y2⟩ | ⟨hk,y2⟩
          · rw [hj,hk]
          · rw [hj] at f1 ⊢;exact S.uni i k c d' q hs y2 f1 f2
        · rcases at_ k _ z2 with ⟨hk,y2⟩ | ⟨hk,y2⟩
          · rw [hk] at f2 ⊢;exact S.uni j i d c q y1 hs f1 f2
          · exact S.uni j k d d' q y1 y2 f1 f2
      · have na:a≠p:=fun y=> by rw [y,n] at z;cases z
        exact (S.hp a o z).mono kp (upd_ne na)
      · have nq:q≠p:=fun x=> by rw [x,n0] at z;cases z
        rw [upd_ne nq];exact S.fr q o z y t
      · obtain ⟨u,y⟩:=S.tr q o z;exact th q u y
      · have nq:q≠p:=fun x=> w ⟨i,c,hs,x▸es⟩
        rw [upd_ne nq];exact z
      · rcases at_ j _ z with ⟨hj,z⟩ | ⟨hj,z⟩
        · exact ⟨c,hj▸hs⟩
        · exact ⟨d,z⟩
    · cases e
  | val w0=>
    cases w0 with
    | ref a=>
      have e:(match h a with
        | some (.cont c)=> some c
        | _=> none)=some c:=e
      split at e
      · rename_i c0 ha
        cases e
        have ev:v= .ref a:=Rep.of_ref (K:=G.K) (H:=H) rr
        have cr:CRep G.K H a c:=S.hp a _ ha
        refine ⟨a,ev,cr,fun o' c' hc=> ?_⟩
        obtain ⟨kp,th⟩:=com a o' cr.there
        have hc:=hc kp
        show BS G env (H7 h a (.cont c')) σ _∧Xt env h σ H env (H7 h a (.cont c')) _
        have neo:∀{j:Nat} {d:Cont} {q:Addr},env[j]? =some (some (SV.own d))→σ[j]? =some (some (V.ref q))→q≠a:=fun z y x=> by
          obtain ⟨q',a',_,n,_⟩:=S.own _ _ z
          rw [y] at a';cases a'
          rw [x,ha] at n;cases n
        refine ⟨⟨S.len,fun j w z=> ?_,fun j d z=> ?_,S.uni,fun b o z=> ?_,fun q o z y t=> ?_,fun b o z y=> ?_,fun q o z=> ?_,S.tabs.upd fun o z=> cr.mu_at z⟩,fun q o z y w t=> ?_,fun q o z y=> ?_,th,fun j d z=> ⟨d,z⟩⟩
        · obtain ⟨u,x,y⟩:=S.val j w z;exact ⟨u,x,Rep.mono kp w u y⟩
        · obtain ⟨q,x,y,n,n0⟩:=S.own j d z
          have nq:=neo z x
          exact ⟨q,x,y.mono kp (upd_ne nq),by rw [c7 nq];exact n,n0⟩
        · by_cases hb:b=a
          · subst hb;rw [Y5] at z;cases z;exact hc
          · rw [c7 hb] at z;exact (S.hp b o z).mono kp (upd_ne hb)
        · have nq:q≠a:=fun x=> by
            subst x
            have:=S.ext q _ ha y
            rw [this] at z;cases z
          rw [upd_ne nq];exact S.fr q o z y t
        · by_cases hb:b=a
          · subst hb;exact S.ext b _ ha y
          · rw [c7 hb] at z;exact S.ext b o z y
        · obtain ⟨u,y⟩:=S.tr q o z;exact th q u y
        · have nq:q≠a:=fun x=> by rw [x,ha] at y;cases y
          rw [upd_ne nq];exact z
        · have nq:q≠a:=fun x=> by rw [x,ha] at y;cases y
          rw [c7 nq,y] at z;cases z
      · cases e
    | _=> cases e
end
abbrev P5:=List W→List W→(List W→W→Prop)→Prop
structure LmOk (K:PySem.W.Frag) (r:V→List V→Hp→VK→Prop) (f:P5):Prop where
  mono:∀xs ws Q Q',(∀a b,Q a b→Q' a b)→f xs ws Q→f xs ws Q'
  ok:∀H p xs vs ws us Qf Q,H p=some (.lst vs)→RepL K H xs vs→RepL K H ws us→f xs ws Qf→(∀xs' vs' w v,Qf xs' w→RepL K H xs' vs'→Rep K H w v→Q v (upd H p (.lst vs')))→r (.ref p) us H Q
def A6a:Option Cont→Prop
  | some (.seq _)=> True
  | _=> False
def aLm (f:P5) (to:AT) (t:E4):AT:=fun env h Q=> to env h fun ro env1 h1=> A6a (N4 env1 h1 ro)∧t env1 h1 fun ws env2 h2=> match N4 env2 h2 ro with
  | some (.seq xs)=> f xs ws fun xs' w=> Q (.val w) (A0R env2 ro (.seq xs')) (A0Q h2 ro (.seq xs'))
  | _=> False
theorem aLm.mono {K:PySem.W.Frag} {r:V→List V→Hp→VK→Prop} {f:P5} {to:AT} {t:E4} (lm:LmOk K r f) (a:B0 to) (b:B0 t):B0 (aLm f to t):=fun env h Q Q' k q=> a env h _ _ (fun ro e g z=> ⟨z.1,b e g _ _ (fun ws e2 g2 z=> by
  split at z
  · exact lm.mono _ _ _ _ (fun _ _ q=> k _ _ _ q) z
  · exact z) z.2⟩) q
section
variable {X:Cx} {G:Gx} {o e:Expr} {es:List Expr} {to:AT} {t:E4} {name:Str} {apos cpos:Pos} {id:String} {r:V→List V→Hp→VK→Prop} {f:P5}
theorem B5D {σ:L2.St} {H:Hp} {Q:VK} (gk:G.K=X.K) (lm:LmOk G.K r f) (mo:B0 to) (mt:B0 t) (q:cE G (aLm f to t) σ H Q):tBM X.K "list" r (cE G to) (cA G t) σ H Q:=by
  obtain ⟨env,h,S,q⟩:=q
  refine ⟨env,h,S,mo env h _ _ (fun ro env1 h1 ⟨hs,z⟩ x H1 S1 x1 r1 f1=> ?_) q⟩
  have ty:tyV X.K "list" x H1:=by
    cases e:N4 env1 h1 ro with
    | none=> rw [e] at hs;exact hs.elim
    | some c=>
      cases c with
      | map _=> rw [e] at hs;exact hs.elim
      | seq xs=>
        obtain ⟨p,rfl,⟨vs,l,_⟩,_⟩:=A2f S1 r1 e
        exact .inl ⟨rfl,_,.inl (.inl l)⟩
  refine ⟨ty,env1,h1,S1,mt env1 h1 _ _ (fun ws env2 h2 z vs H2 S2 x2 r2=> ?_) z⟩
  split at z
  · rename_i xs e
    obtain ⟨p,rfl,⟨us,l,rl⟩,put⟩:=A2f S2 (r1.xt S1 x2) e
    refine lm.ok H2 p xs us ws vs _ Q l rl r2 z fun xs' vs' w v q0 ra rw0=> ?_
    have kp:Keeps H2 (upd H2 p (.lst vs')):=fun q o e i=> by
      have ne:q≠p:=fun z=> by subst z;rw [l] at e;cases e;exact i
      rw [upd_ne ne];exact e
    obtain ⟨S3,x3⟩:=put (.lst vs') (.seq xs') fun k=> ⟨vs',upd_same,RepL.mono k _ _ ra⟩
    exact q0 v _ S3 (x1.trans (x2.trans x3)) (show Rep G.K _ w v from Rep.mono kp w v rw0) trivial
  · exact z.elim
theorem A6V (gk:G.K=X.K) (lm:LmOk G.K r f) (pa:PlainAttrs "list") (slot:Slot "list" name id) (hty:typeOf (.builtin id)=pure (.type "method_descriptor")) (hm:MtR X id r) (ho:AE X G o to) (ha:AA X G (e::es) t)
    (hbase:attributeBase o name X.env (eval o X.env)=eval o X.env:=by rfl)
    (hfew:((backTo cpos (starEach (e::es) X.env)).all (fun x=> !x.1) && (backToKw cpos (keywordEach [] X.env)).all (fun x=> x.1.isSome)
      && decide ((e::es).length+([]:List Keyword).length+(if ([]:List Keyword).isEmpty then 0 else 1) < 30))=true:=by rfl)
    (hline:(apos.endLine==cpos.line)=true:=by rfl) (hs:starEach (e::es) X.env=(false,eval e X.env)::starEach es X.env:=by rfl) (hplain:(backTo cpos (starEach es X.env)).any (·.1)=false:=by rfl):
    AE X G (.Call (.Attribute o name apos) (e::es) [] cpos) (aLm f to t):=
  ⟨aLm.mono lm ho.mono ha.mono,PE.imp (pe_bm pa slot hty hm ho.pe ha.pa hbase hfew hline hs hplain) fun _ _ _ q=> B5D gk lm ho.mono ha.mono q⟩
end
section
variable {K:PySem.W.Frag}
def B4e:P5:=fun xs ws Q=> match ws with
  | [y]=> xs.length < sizeLine∧Q (xs++[y]) .non
  | _=> False
def d3:P5:=fun xs ws Q=> match ws with
  | [.int i]=> -(2 ^ 63)≤i∧i < 2 ^ 63∧∃k y,seqIndex? i xs.length=some k∧xs[k]? =some y∧Q (xs.eraseIdx k) y
  | _=> False
theorem A8U:LmOk K rPopAt d3:=
  ⟨fun xs ws Q Q' k q=> by
    unfold d3 at q ⊢
    split at q
    · obtain ⟨a,b,j,y,e,f,q⟩:=q;exact ⟨a,b,j,y,e,f,k _ _ q⟩
    · exact q,fun H p xs vs ws us Qf Q l rl rw0 q k=> by
    unfold d3 at q
    split at q
    · obtain ⟨v,t,rfl,rv,rt⟩:=rw0.of_cons
      rw [rt.of_nil,Rep.of_int (K:=K) (H:=H) rv]
      obtain ⟨a,b,j,y,e,f,q⟩:=q
      obtain ⟨v,ev,rv⟩:=rl.get f
      exact ⟨p,vs,_,j,v,rfl,rfl,l,a,b,by rw [←rl.length];exact e,ev,k _ _ _ _ q (rl.eraseIdx j) rv⟩
    · exact q.elim⟩
end
def V9 (to ti:AT):H8:=fun w env h Q=> to env h fun ro env1 h1=> ti env1 h1 fun ri env2 h2=> match view env2 h2 ri with
  | .wv (.int k)=> match N4 env2 h2 ro with
    | some (.seq xs)=> ∃j,ixN xs.length k=some j∧Q (A0R env2 ro (.seq (xs.set j w))) (A0Q h2 ro (.seq (xs.set j w)))
    | _=> False
  | _=> False
section
variable {X:Cx} {G:Gx} {o i:Expr} {to ti:AT} {pos:Pos}
theorem r9 (ho:AE X G o to) (hi:AE X G i ti)
    (ha:PG X (.Subscript o i pos) (gSub (cE G to) (cE G ti) rSetL)):AG X G (.Subscript o i pos) [] (V9 to ti):=by
  refine ⟨fun w env h Q Q' k q=> ho.mono env h _ _ (fun ro e g z=> hi.mono e g _ _ (fun ri e g z=> ?_) z) q,PG.imp ha fun v σ H Q ⟨w,env,h,rv,S,q⟩=> ?_⟩
  · split at z
    · split at z
      · obtain ⟨j,e,z⟩:=z;exact ⟨j,e,k _ _ z⟩
      · exact z
    · exact z
  · refine ⟨env,h,S,ho.mono env h _ _ (fun ro env1 h1 z x H1 S1 x1 r1 f1=> ?_) q⟩
    refine ⟨env1,h1,S1,hi.mono env1 h1 _ _ (fun ri env2 h2 z y H2 S2 x2 r2 f2=> ?_) z⟩
    have ry:=r2.vr S2
    split at z
    · rename_i k ek
      rw [ek] at ry
      split at z
      · rename_i xs e
        obtain ⟨j,ej,z⟩:=z
        obtain ⟨p,rfl,⟨us,l,rl⟩,put⟩:=A2f S2 (r1.xt S1 x2) e
        have rv2:Rep G.K H2 w v:=Rep.mono ((x1.keeps S).trans (x2.keeps S1)) w v rv
        refine ⟨p,us,k,j,rfl,ry.int,l,by rw [←rl.length];exact ej,?_⟩
        obtain ⟨S3,x3⟩:=put (.lst (us.set j v)) (.seq (xs.set j w)) fun kk=> ⟨_,upd_same,RepL.mono kk _ _ (rl.set j rv2)⟩
        exact z σ _ S3 (x1.trans (x2.trans x3)).xg
      · exact z.elim
    · exact z.elim
end
section
variable {X:Cx} {G:Gx} {tg e:Expr} {tv:B9} {g:H8} {sl:List Nat} {pos:Pos} {st:Stmt} {t:C4}
def J9 (tv:B9) (g:H8):C4:=fun D env h=> tv env h fun w env1 h1=> g w env1 h1 D.nx
theorem K9 (he:AV X G e tv) (hg:AG X G tg sl g) (hs:swapsWithSole [tg] e pos.line X.env=pure false:=by rfl) (hw:swappedStores [tg] e X.env=pure none:=by rfl) (h1:(assignEach [tg] X.env).map (·.2)=[assign tg X.env]:=by rfl):AS X G (.Assign [tg] e pos) (J9 tv g):=by
  refine ⟨fun D D' env h l q=> he.mono env h _ _ (fun w e g z=> hg.mono _ _ _ _ _ l.nx z) q,PS.imp (ps_asg he.pe hg.pg hs hw h1) fun D σ H ⟨env,h,Da,S,q,l⟩=> ?_⟩
  refine ⟨env,h,S,he.mono env h _ _ (fun w env1 h1 z v H1 S1 x1 r1=> ?_) q⟩
  exact ⟨w,env1,h1,r1,S1,hg.mono _ _ _ _ _ (fun env2 h2 z σ2 H2 S2 x2=> l.nx _ _ _ _ S2 ((x1.keeps S).trans (x2.keeps S1)) z) z⟩
def A1X (i:Nat) (t:C4):C4:=fun D env h=> match env[i]? with
  | some (some (.own c))=> ∀p,h p=none→t D (env.set i (some (.val (.ref p)))) (H7 h p (.cont c))
  | _=> False
theorem B5Q (i:Nat) (a:AS X G st t):AS X G st (A1X i t):=by
  refine ⟨fun D D' env h l q=> ?_,PS.imp a.ps fun D σ H ⟨env,h,Da,S,q,l⟩=> ?_⟩
  · unfold A1X at q ⊢
    split at q
    · exact fun p n=> a.mono _ _ _ _ l (q p n)
    · exact q
  · unfold A1X at q
    split at q
    · rename_i c e
      obtain ⟨p,es,cr,n,n0⟩:=S.own i c e
      refine ⟨_,_,Da,?_,q p n,l⟩
      have at_:∀(j:Nat) (sv:SV),(env.set i (some (SV.val (.ref p))))[j]? =some (some sv)→(j=i∧sv= .val (.ref p))∨(j≠i∧env[j]? =some (some sv)):=fun j sv z=> by
        rw [A2V e] at z
        by_cases hj:j=i
        · rw [if_pos hj] at z;cases z;exact .inl ⟨hj,rfl⟩
        · rw [if_neg hj] at z;exact .inr ⟨hj,z⟩
      refine ⟨by rw [List.length_set];exact S.len,fun j w z=> ?_,fun j d z=> ?_,fun j k d d' q z1 z2 f1 f2=> ?_,fun a o z=> ?_,S.fr,fun a o z y=> ?_,S.tr,S.tabs⟩
      · rcases at_ j _ z with ⟨hj,z⟩ | ⟨_,z⟩
        · cases z;exact ⟨_,hj▸es,.ref⟩
        · exact S.val j w z
      · rcases at_ j _ z with ⟨_,z⟩ | ⟨hj,z⟩
        · cases z
        · obtain ⟨q,a,b,x,y⟩:=S.own j d z
          have nq:q≠p:=fun z2=> hj (S.uni j i d c p z e (z2▸a) es)
          exact ⟨q,a,b,by rw [c7 nq];exact x,y⟩
      · rcases at_ j _ z1 with ⟨_,y⟩ | ⟨_,y1⟩
        · cases y
        · rcases at_ k _ z2 with ⟨_,y⟩ | ⟨_,y2⟩
          · cases y
          · exact S.uni j k d d' q y1 y2 f1 f2
      · by_cases ha:a=p
        · subst ha;rw [Y5] at z;cases z;exact cr
        · rw [c7 ha] at z;exact S.hp a o z
      · by_cases ha:a=p
        · subst ha;exact n0
        · rw [c7 ha] at z;exact S.ext a o z y
    · exact q.elim
end
def L0 (n:Nat) (ws:List W):A1:=ws.map (fun w=> some (.val w))++List.replicate (n - ws.length) none
def AH.Le (h h':AH):Prop:=∀a o,h a=some o→h' a=some o
def C9 (Qa:RR→AH→Prop):AEnds where
  nx:=fun _ h=> ∃h',AH.Le h' h∧Qa (.val .non) h'
  rt:=fun r env h=> ∃h',AH.Le h' h∧match r with
    | .val w=> Qa (.val w) h'
    | .own c=> Qa (.own c) h'
    | .slot i=> match env[i]? with
      | some (some (.val w))=> Qa (.val w) h'
      | some (some (.own c))=> Qa (.own c) h'
      | _=> False
def F4 (Ea:AExc→AH→Prop):AExc→A1→AH→Prop:=fun x _ h=> ∃h',AH.Le h' h∧Ea x h'
theorem BS.begin {K:PySem.W.Frag} {h:AH} {H:Hp} {ws:List W} {vs:List V} {N:List Str} (hp:∀a o,h a=some o→ORep K H a o) (tb:TabsK K H) (r:RepL K H ws vs) (hl:ws.length≤N.length):BS ⟨K,h,H⟩ (L0 N.length ws) h (L2.start N vs) H:=by
  have e1:(L0 N.length ws).length=N.length:=by simp [L0];omega
  have e2:(L2.start N vs).length=N.length:=by simp [L2.start,←r.length];omega
  have at_:∀(i:Nat) (sv:SV),(L0 N.length ws)[i]? =some (some sv)→∃w,sv= .val w∧ws[i]? =some w:=fun i sv e=> by
    unfold L0 at e
    by_cases hi:i < ws.length
    · rw [List.getElem?_append_left (by simpa using hi),List.getElem?_map] at e
      cases q:ws[i]? with
      | none=> rw [q] at e;cases e
      | some w=> rw [q] at e;cases e;exact ⟨w,rfl,rfl⟩
    · rw [List.getElem?_append_right (by simpa using hi),List.getElem?_replicate] at e
      split at e <;> cases e
  refine ⟨by rw [e1,e2],fun i w e=> ?_,fun i c e=> ?_,fun i j c c' p e=> ?_,hp,fun p o e _ _=> e,fun a o e n=> (by have n:h a=none:=n;rw [n] at e;cases e),fun p o e=> ⟨o,e⟩,tb⟩
  · obtain ⟨w',z,y⟩:=at_ i _ e
    cases z
    obtain ⟨v,ev,rv⟩:=r.get y
    refine ⟨v,?_,rv⟩
    have hi:i < vs.length:=(List.getElem?_eq_some_iff.mp ev).1
    unfold L2.start
    rw [List.getElem?_append_left (by simpa using hi),List.getElem?_map,ev]
    rfl
  · obtain ⟨w',z,_⟩:=at_ i _ e;cases z
  · obtain ⟨w',z,_⟩:=at_ i _ e;cases z
section
variable {P:Program} {w:World} {K:PySem.W.Frag} {mg:Str→Option Value} {base:Heap} {x qual:Str} {params:Arguments} {body:List Stmt} {scope:Scope} {f:Addr} {fd:FuncData} {N ps:List Str} {k n:Nat} {sp:F5}
abbrev bx (P:Program) (w:World) (K:PySem.W.Frag) (mg:Str→Option Value) (base:Heap) (N:List Str) (qual:Str) (scope:Scope) (f:Addr) (cdv:Value) (A:Around) (outer:List Env) (s:Shared) (H:Hp) (E:XK):Cx:=
  cxOf (L2.CX P w) P w K mg base N qual scope f cdv A outer s H E
theorem HS.le {G:Gx} {h h':AH} {H:Hp} (a:HS G h H) (l:AH.Le h' h):HS G h' H:=⟨fun p o e=> a.hp p o (l p o e),a.fr,fun p o e=> a.ext p o (l p o e),a.tr,a.tabs⟩
theorem A5x {t:(AExc→A1→AH→Prop)→C4} (dvs:List V) (kws:List (Str×V)) (F:FunD K x qual params body scope dvs kws f fd) (S:FnScope N ps scope) (hn:ps.length=n)
    (hb:∀(cdv:Value) (A:Around) (outer:List Env) (s:Shared) (H:Hp) (E:XK) (G:Gx) (E':AExc→A1→AH→Prop),Room k (A.deeper (envOfC qual scope s.heap.objs.size f cdv))→G.K=K→Takes (bx P w K mg base N qual scope f cdv A outer s H E) (cW G E')→
      ASs (bx P w K mg base N qual scope f cdv A outer s H E) G body (t E'))
    (hq:∀ws h Qa Ea,ws.length=n→sp ws h Qa Ea→t (F4 Ea) (C9 Qa) (L0 N.length ws) h):
    FnOk P w K mg base (L2.CX P w) (k+1) f fd ps (g9 K n sp):=by
  refine F.ok S (fun vs H Q E ⟨ws,h,Qa,Ea,hl,_,_,r,_⟩=> by rw [←r.length,hl,hn]) (fun cdv A outer s H vs Q E hr ⟨ws,h,Qa,Ea,hl,hp,tb,r,q,kq,ke⟩=> ?_)
  have hwN:ws.length≤N.length:=by
    have z:=congrArg List.length S.pre
    rw [List.length_take] at z
    omega
  have tk:Takes (bx P w K mg base N qual scope f cdv A outer s H E) (cW ⟨K,h,H⟩ (F4 Ea)):=Takes.imp (W:=fun cls d _ H'=> E cls d H') (takes_of rfl rfl rfl rfl) fun cls d σ H' ⟨x,env,h',SB,xr,h'',le,e⟩=>
    ke x h'' cls d H' e (HS.le (G:=⟨K,h,H⟩) ⟨SB.hp,SB.fr,SB.ext,SB.tr,SB.tabs⟩ le) xr
  refine ⟨_,(hb cdv A outer s H E ⟨K,h,H⟩ (F4 Ea) hr rfl tk).ps,L0 N.length ws,h,C9 Qa,BS.begin hp tb r hwN,hq ws h Qa Ea hl q,?_⟩
  have hs:∀{env h' σ' H'},BS ⟨K,h,H⟩ env h' σ' H'→HS ⟨K,h,H⟩ h' H':=fun SB=> ⟨SB.hp,SB.fr,SB.ext,SB.tr,SB.tabs⟩
  refine ⟨fun env h' σ' H' SB _ ⟨h'',le,e⟩=> kq (.val .non) h'' .non H' e ((hs SB).le le) (show Rep K H' .non .non from .non),fun r0 env h' σ' H' v SB _ rr ⟨h'',le,e⟩=> ?_,fun _ _ _ _ _ _ z=> z.elim,fun _ _ _ _ _ _ z=> z.elim⟩
  have own_end:∀{p:Addr} {c:Cont},v= .ref p→CRep K H' p c→h' p=none→H p=none→A9y ⟨K,h,H⟩ h'' H' (.own c) v:=fun {p c} e1 e2 e3 e4=> by
    have e5:h'' p=none:=by
      cases z:h'' p with
      | none=> rfl
      | some u=> rw [le p u z] at e3;cases e3
    exact ⟨p,e1,e2,e5,e4⟩
  cases r0 with
  | val w0=> exact kq (.val w0) h'' v H' e ((hs SB).le le) rr
  | own c=>
    obtain ⟨p,e1,cr,a,b,_⟩:=rr
    exact kq (.own c) h'' v H' e ((hs SB).le le) (own_end e1 cr a b)
  | slot i=>
    have es:σ'[i]? =some (some v):=rr
    have e:match env[i]? with
      | some (some (.val w))=> Qa (.val w) h''
      | some (some (.own c))=> Qa (.own c) h''
      | _=> False:=e
    split at e
    · rename_i w0 ei
      obtain ⟨u,e3,rv⟩:=SB.val i w0 ei
      rw [es] at e3;cases e3
      exact kq (.val w0) h'' v H' e ((hs SB).le le) rv
    · rename_i c ei
      obtain ⟨p,e3,cr,a,b⟩:=SB.own i c ei
      rw [es] at e3;cases e3
      exact kq (.own c) h'' _ H' e ((hs SB).le le) (own_end rfl cr a b)
    · exact e.elim
end
end Ab
namespace Ab
open PySem PySem.Spec PyProof.Rows L2 RZ
def u0 (ta tb:AT):AT:=fun env h Q=> ta env h fun r env1 h1=> match view env1 h1 r with
  | .wv (.bl c)=> if c=true then tb env1 h1 Q else Q (.val (.bl false)) env1 h1
  | _=> False
def A4j (ta tb:AT):AT:=fun env h Q=> ta env h fun r env1 h1=> match view env1 h1 r with
  | .wv (.bl c)=> if c=true then Q (.val (.bl true)) env1 h1 else tb env1 h1 Q
  | _=> False
def A6L (ta:AT):AT:=fun env h Q=> ta env h fun r env1 h1=> match view env1 h1 r with
  | .wv (.bl c)=> Q (.val (.bl (!c))) env1 h1
  | _=> False
section
variable {X:Cx} {G:Gx} {a b:Expr} {ta tb:AT} {pos:Pos} {rest:List Expr}
theorem B3u {env env1:A1} {h h1:AH} {σ:L2.St} {H H1:Hp} (x1:Xt env h σ H env1 h1 H1) {r:RV} {v:V} (f:Q4 H1 r v):Q4 H r v:=by
  cases r with
  | own c=> exact fun p e=> x1.fresh (f p e)
  | _=> trivial
theorem A85 {t:AT} {env env1:A1} {h h1:AH} {σ:L2.St} {H H1:Hp} {Q:VK} (m:B0 t) (S1:BS G env1 h1 σ H1) (x1:Xt env h σ H env1 h1 H1)
    (z:t env1 h1 fun r env' h'=> ∀v H',BS G env' h' σ H'→Xt env h σ H env' h' H'→RvRep G env' h' σ H' r v→Q4 H r v→Q v H'):cE G t σ H1 Q:=
  ⟨env1,h1,S1,m env1 h1 _ _ (fun r env2 h2 z2 v H2 S2 x2 r2 f2=> z2 v H2 S2 (x1.trans x2) r2 (B3u x1 f2)) z⟩
theorem A1N (ha:AE X G a ta):AE X G (.BoolOp .And [a] pos) ta:=⟨ha.mono,pe_one ha.pe⟩
theorem A9V (ha:AE X G a ta):AE X G (.BoolOp .Or [a] pos) ta:=⟨ha.mono,pe_one ha.pe⟩
theorem A0J (ha:AE X G a ta) (hb:AE X G (.BoolOp .And (b::rest) pos) tb):AE X G (.BoolOp .And (a::b::rest) pos) (u0 ta tb):=by
  refine ⟨fun env h Q Q' k q=> ha.mono env h _ _ (fun r e g z=> ?_) q,PE.imp (pe_and ha.pe hb.pe) fun σ H Q ⟨env,h,S,q⟩=> ⟨env,h,S,ha.mono env h _ _ (fun r e g z v H1 S1 x1 r1 f1=> ?_) q⟩⟩
  · split at z
    · rename_i c _
      cases c with
      | true=> exact iteT (hb.mono e g _ _ k (by simpa using z))
      | false=> exact iteF (k _ _ _ (by simpa using z))
    · exact z
  · have rv:=r1.vr S1
    split at z
    · rename_i c ec
      rw [ec] at rv
      refine ⟨c,rv.bl,?_⟩
      cases c with
      | true=> rw [if_pos rfl] at z;exact iteT (A85 hb.mono S1 x1 z)
      | false=> rw [if_neg Bool.false_ne_true] at z;exact iteF (z (.bl false) H1 S1 x1 (show Rep G.K H1 (.bl false) (.bl false) from .bl) trivial)
    · exact z.elim
theorem B0G (ha:AE X G a ta) (hb:AE X G (.BoolOp .Or (b::rest) pos) tb):AE X G (.BoolOp .Or (a::b::rest) pos) (A4j ta tb):=by
  refine ⟨fun env h Q Q' k q=> ha.mono env h _ _ (fun r e g z=> ?_) q,PE.imp (pe_or ha.pe hb.pe) fun σ H Q ⟨env,h,S,q⟩=> ⟨env,h,S,ha.mono env h _ _ (fun r e g z v H1 S1 x1 r1 f1=> ?_) q⟩⟩
  · split at z
    · rename_i c _
      cases c with
      | true=> exact iteT (k _ _ _ (by simpa using z))
      | false=> exact iteF (hb.mono e g _ _ k (by simpa using z))
    · exact z
  · have rv:=r1.vr S1
    split at z
    · rename_i c ec
      rw [ec] at rv
      refine ⟨c,rv.bl,?_⟩
      cases c with
      | true=> rw [if_pos rfl] at z;exact iteT (z (.bl true) H1 S1 x1 (show Rep G.K H1 (.bl true) (.bl true) from .bl) trivial)
      | false=> rw [if_neg Bool.false_ne_true] at z;exact iteF (A85 hb.mono S1 x1 z)
    · exact z.elim
theorem B52 (ha:AE X G a ta):AE X G (.UnaryOp .Not a pos) (A6L ta):=by
  refine ⟨fun env h Q Q' k q=> ha.mono env h _ _ (fun r e g z=> ?_) q,PE.imp (pe_not ha.pe) fun σ H Q ⟨env,h,S,q⟩=> ⟨env,h,S,ha.mono env h _ _ (fun r e g z v H1 S1 x1 r1 f1=> ?_) q⟩⟩
  · split at z
    · exact k _ _ _ z
    · exact z
  · have rv:=r1.vr S1
    split at z
    · rename_i c ec
      rw [ec] at rv
      exact ⟨c,rv.bl,z (.bl (!c)) H1 S1 x1 (show Rep G.K H1 (.bl (!c)) (.bl (!c)) from .bl) trivial⟩
    · exact z.elim
theorem A5r (ha:AE X G a ta) (hb:AE X G b tb):AE X G (.BinOp a .Pow b pos) (aOp2 (oII CPow fun i j=> .int (i ^ j.toNat)) ta tb):=A08 op_pow (A5e fun _ _ _=> .int) ha hb
def A6n (i j:Nat) (t:E4):C4:=fun D env h=> t env h fun ws env1 h1=> match ws with
  | [v,w]=> D.nx ((env1.set i (some (.val v))).set j (some (.val w))) h1
  | _=> False
theorem B50 {i j:Nat} {x y:Str} {t:E4} {px py pt:Pos} {kt k2 pt2} (hc:X.calm=true) (hN:X.N.Nodup) (hi:X.N[i]? =some x) (hj:X.N[j]? =some y) (hij:i≠j)
    (hx:X.env.scope.names.lookup x=some .local) (hy:X.env.scope.names.lookup y=some .local) (ha:AA X G [a,b] t)
    (hw:swappedStores [.Tuple [.Name x px,.Name y py] kt pt] (.Tuple [a,b] k2 pt2) X.env=pure (some [x,y]))
    (hs:swapsWithSole [.Tuple [.Name x px,.Name y py] kt pt] (.Tuple [a,b] k2 pt2) pos.line X.env=pure false:=by rfl):
    AS X G (.Assign [.Tuple [.Name x px,.Name y py] kt pt] (.Tuple [a,b] k2 pt2) pos) (A6n i j t):=by
  refine ⟨fun D D' env h l q=> ha.mono env h _ _ (fun ws e g z=> ?_) q,PS.imp (ps_par hc hN hi hj hij hx hy ha.pa hw hs) fun D σ H ⟨env,h,Da,S,q,l⟩=> ⟨env,h,S,ha.mono env h _ _ (fun ws env1 h1 z vs H1 S1 x1 r1=> ?_) q⟩⟩
  · split at z
    · exact l.nx _ _ z
    · exact z
  · split at z
    · rename_i v w
      obtain ⟨v',t,rfl,a1,b1⟩:=r1.of_cons
      obtain ⟨w',t,rfl,a2,b2⟩:=b1.of_cons
      rw [b2.of_nil]
      exact ⟨v',w',rfl,l.nx _ _ _ _ ((S1.set (r:= .val v) i a1 trivial).set (r:= .val w) j a2 trivial) (x1.keeps S) z⟩
    · exact z.elim
end
structure AK (X:Cx) (G:Gx) (kws:List Keyword) (t:E4):Prop where
  mono:B0 t
  pk:PK X kws (cA G t)
theorem PK.imp {X:Cx} {e:List Keyword} {t t':TA} (h:PK X e t) (i:∀σ H Q,t' σ H Q→t σ H Q):PK X e t':=⟨fun pos pins s σ H Q I q=> h.run pos pins s σ H Q I (i σ H Q q)⟩
section
variable {X:Cx} {G:Gx} {k n:Nat} {f:Addr} {fd:FuncData} {ps ks:List Str} {sp:F5} {x:Str} {p pos kpos:Pos} {e:Expr} {es:List Expr} {kws:List Keyword} {nm:Option Str} {t tk:E4} {tv:B9} {E:AExc→A1→AH→Prop}
structure AKB (K:PySem.W.Frag) (fd:FuncData) (ps ks:List Str) (n:Nat) (gW:List W→List W→List W) where
  g:List Value→List Value→List Value
  gV:List V→List V→List V
  kb:KBinds K fd ps ks g gV
  rep:∀(H:Hp) (ws zs:List W) (vs us:List V),(gW ws zs).length=n→RepL K H ws vs→RepL K H zs us→RepL K H (gW ws zs) (gV vs us)
def aCallK (E:AExc→A1→AH→Prop) (sp:F5) (n:Nat) (gW:List W→List W→List W) (t tk:E4):AT:=fun env h Q=> t env h fun ws env1 h1=> tk env1 h1 fun zs env2 h2=> (gW ws zs).length=n∧sp (gW ws zs) h2 (fun r h3=> match r with
  | .val w=> Q (.val w) env2 h3
  | .own c=> Q (.own c) env2 h3) fun x h3=> E x env2 h3
theorem aCallK.mono {gW:List W→List W→List W} (m:P7 sp) (a:B0 t) (b:B0 tk):B0 (aCallK E sp n gW t tk):=fun env h Q Q' k q=> a env h _ _ (fun ws e g z=> b e g _ _ (fun zs e g z=> ⟨z.1,m _ _ _ _ _ _ (fun r f y=> by
  cases r with
  | val w=> exact k _ _ _ y
  | own c=> exact k _ _ _ y) (fun x f y=> y) z.2⟩) z) q
end
end Ab
namespace Ab
open PySem PySem.Spec PyProof.Rows L2 RZ
section
variable {X:Cx} {G:Gx} {a b c:Expr} {ta tb tc:AT} {t:G3} {pos p:Pos}
theorem Z5 (h:AE X G a ta) (he:∀whole,isTrue a X.env whole=(do let v ←whole;standAt a.pos;holding [v] (truthy v)):=by intro _;rfl):AP X G a (aTst ta):=B53 h fun t k=> pt_val k he
theorem A6R (ha:AE X G a ta) (hb:AE X G b tb):AP X G (.Compare a [.Lt] [b] pos) (aTst (aOp2 (oII (fun _ _=> True) fun i j=> .bl (decide (i < j))) ta tb)):=A1T op_lt (A3n fun _ _ _=> .bl) ha hb (nomark _)
theorem A9p (ha:AE X G a ta) (hb:AE X G b tb):AP X G (.Compare a [.GtE] [b] pos) (aTst (aOp2 (oII (fun _ _=> True) fun i j=> .bl (decide (j≤i))) ta tb)):=A1T op_ge (A3n fun _ _ _=> .bl) ha hb (nomark _)
theorem W7 (gk:G.K=X.K) (hu:X.A.units+64 < cLine) (ha:AE X G a ta) (hb:AE X G b tb):AP X G (.Compare a [.Eq] [b] pos) (aTst (aOp2 (B5 false) ta tb)):=A1T (A9H hu) (gk▸A4F) ha hb (nomark _)
theorem A1b (gk:G.K=X.K) (hu:X.A.units+64 < cLine) (ha:AE X G a ta) (hb:AE X G b tb):AP X G (.Compare a [.NotEq] [b] pos) (aTst (aOp2 (B5 true) ta tb)):=A1T (A9i hu) (gk▸A4F) ha hb (nomark _)
theorem B58 (ha:AE X G a ta) (hb:AE X G b tb):AE X G (.Compare a [.Is] [b] pos) (aOp2 (L1 false) ta tb):=A4H op_isN A8h ha hb (nomark _)
theorem A9F (ha:AE X G a ta) (hb:AE X G b tb):AP X G (.Compare a [.Is] [b] pos) (aTst (aOp2 (L1 false) ta tb)):=A1T op_isN A8h ha hb (nomark _)
theorem B4d (ha:AE X G a ta) (hb:AE X G b tb):AP X G (.Compare a [.IsNot] [b] pos) (aTst (aOp2 (L1 true) ta tb)):=A1T op_notN B4G ha hb (nomark _)
def aChn (P P':Int→Int→Bool) (ta tb tc:AT):AT:=fun env h Q=> ta env h fun ra env1 h1=> tb env1 h1 fun rb env2 h2=> match view env2 h2 ra,view env2 h2 rb with
  | .wv (.int i),.wv (.int j)=> if P i j=true then tc env2 h2 fun rc env3 h3=> (match view env3 h3 rc with
      | .wv (.int k)=> Q (.val (.bl (P' j k))) env3 h3
      | _=> False) else Q (.val (.bl false)) env2 h2
  | _,_=> False
theorem aChn.mono {P P':Int→Int→Bool} (ma:B0 ta) (mb:B0 tb) (mc:B0 tc):B0 (aChn P P' ta tb tc):=fun env h Q Q' k q=> ma env h _ _ (fun ra e g z=> mb e g _ _ (fun rb e g z=> by
  split at z
  · refine ite2 (fun y=> ?_) fun y=> k _ _ _ (by rw [if_neg y] at z;exact z)
    rw [if_pos y] at z
    refine mc _ _ _ _ (fun rc e g z=> ?_) z
    split at z
    · exact k _ _ _ z
    · exact z
  · exact z) z) q
theorem A8d {P P':Int→Int→Bool} {σ:L2.St} {H:Hp} {Q:VK} (ma:B0 ta) (mb:B0 tb) (mc:B0 tc) (q:cE G (aChn P P' ta tb tc) σ H Q):
    tChain (rI0 fun i j=> .bl (P i j)) (rI0 fun i j=> .bl (P' i j)) (cE G ta) (cE G tb) (cE G tc) σ H Q:=by
  obtain ⟨env,h,S,q⟩:=q
  refine ⟨env,h,S,ma env h _ _ (fun ra env1 h1 z v H1 S1 x1 r1 f1=> ?_) q⟩
  refine ⟨env1,h1,S1,mb env1 h1 _ _ (fun rb env2 h2 z u H2 S2 x2 r2 f2=> ?_) z⟩
  have va:=(r1.xt S1 x2).vr S2
  have vb:=r2.vr S2
  split at z
  · rename_i i j ei ej
    rw [ei] at va
    rw [ej] at vb
    refine ⟨i,j,va.int,vb.int,P i j,rfl,ite2 (fun y=> ?_) fun y=> ?_⟩
    · rw [if_pos y] at z
      refine ⟨env2,h2,S2,mc env2 h2 _ _ (fun rc env3 h3 z w H3 S3 x3 r3 f3=> ?_) z⟩
      have vc:=r3.vr S3
      split at z
      · rename_i k ek
        rw [ek] at vc
        exact ⟨j,k,vb.int,vc.int,z _ H3 S3 (x1.trans (x2.trans x3)) (show Rep G.K H3 _ _ from .bl) trivial⟩
      · exact z.elim
    · rw [if_neg y] at z
      exact z _ H2 S2 (x1.trans x2) (show Rep G.K H2 _ _ from .bl) trivial
  · exact z.elim
theorem A9R {op op':CmpOp} {P P':Int→Int→Bool} (ho:OpR X (compareOp op) (rI0 fun i j=> .bl (P i j))) (ho':OpR X (compareOp op') (rI0 fun i j=> .bl (P' i j))) (ha:AE X G a ta) (hb:AE X G b tb) (hc:AE X G c tc)
    (hm:lastMarks [op,op'] [b,c]=false:=by with_unfolding_all rfl):AE X G (.Compare a [op,op'] [b,c] pos) (aChn P P' ta tb tc):=
  ⟨aChn.mono ha.mono hb.mono hc.mono,PE.imp (pe_chain ho ho' ha.pe hb.pe hc.pe hm) fun _ _ _ q=> A8d ha.mono hb.mono hc.mono q⟩
theorem A35 {op op':CmpOp} {P P':Int→Int→Bool} (ho:OpR X (compareOp op) (rI0 fun i j=> .bl (P i j))) (ho':OpR X (compareOp op') (rI0 fun i j=> .bl (P' i j))) (ha:AE X G a ta) (hb:AE X G b tb) (hc:AE X G c tc)
    (hm:lastMarks [op,op'] [b,c]=false:=by with_unfolding_all rfl):AP X G (.Compare a [op,op'] [b,c] pos) (aTst (aChn P P' ta tb tc)):=by
  refine ⟨aTst.mono (aChn.mono ha.mono hb.mono hc.mono),PT.imp (pt_chain ho ho' ha.pe hb.pe hc.pe hm) fun σ H Q ⟨env,k,S,q⟩=> ?_⟩
  refine A8d ha.mono hb.mono hc.mono ⟨env,k,S,aChn.mono ha.mono hb.mono hc.mono env k _ _ (fun r env1 h1 z v H1 S1 x1 r1 f1=> ?_) q⟩
  have r2:=r1.vr S1
  split at z
  · rename_i b e
    rw [e] at r2
    exact ⟨b,r2.bl,z H1 S1 x1⟩
  · exact z.elim
end
structure Ok (P:Program) (w:World) (K:PySem.W.Frag) (mg:Str→Option Value) (base:Heap) (x:Str) (st:Stmt) (k n:Nat) (ps:List Str) (sp:F5):Prop where
  m:P7 sp
  ex:∃f fd,mg x=some (.ref f)∧FunD K x x (defArgs st) (defBody st) (defScope st) [] [] f fd∧FnOk P w K mg base (L2.CX P w) k f fd ps (g9 K n sp)
def O3 (x:Str) (st:Stmt) (ps:List Str):Prop:=∀(kV doc pm:Value) (an:Option Addr) (cdv ct:Value) (us:List Value),us.length=ps.length→bindArgs (PySem.W.fnOf x x (defArgs st) (defBody st) (defScope st) .none kV doc pm an cdv ct) ⟨us,[]⟩=pure (ps.zip us)
section
variable {X:Cx} {G:Gx} {sp:F5} {st:Stmt} {k j n:Nat} {ps:List Str} {x:Str} {p pos:Pos} {e:Expr} {es:List Expr} {t:E4} {E:AExc→A1→AH→Prop}
theorem B3F (gk:G.K=X.K) (O:Ok X.prog X.w X.K X.mg X.base x st k n ps sp) (bd:O3 x st ps) (hr:Room j X.A) (kj:k≤j) (hg:Gl X x) (tk:Takes X (cW G E))
    (ha:AA X G (e::es) t) (hn:∀env h (R:List W→A1→AH→Prop),t env h R→t env h fun ws e g=> ws.length=n∧R ws e g)
    (hdb:(x==("__debug__":Str))=false:=by decide) (he:starEach (e::es) X.env=(false,eval e X.env)::starEach es X.env:=by rfl) (hpl:(backTo pos (starEach es X.env)).any (·.1)=false:=by rfl):
    AE X G (.Call (.Name x p) (e::es) [] pos) (aCall E sp t):=by
  obtain ⟨f,fd,hm,FD,F⟩:=O.ex
  exact B4Y (G:=G) (gk▸F) O.m (hr.mono kj) hg hm FD.kp (FD.bindsN bd) tk ha hn hdb he hpl
structure AN (X:Cx) (G:Gx) (es:List Expr) (n:Nat) (t:E4):Prop where
  aa:AA X G es t
  ln:∀env h (R:List W→A1→AH→Prop),t env h R→t env h fun ws e g=> ws.length=n∧R ws e g
theorem F6:AN X G [] 0 aNil:=⟨L8,B4p⟩
theorem B7 {tv:B9} (a:AV X G e tv) (b:AN X G es n t) (hs:starEach (e::es) X.env=(false,eval e X.env)::starEach es X.env:=by rfl):AN X G (e::es) (n+1) (aCons tv t):=
  ⟨B6 a b.aa hs,B4J a.mono b.ln b.aa.mono⟩
theorem F7 (gk:G.K=X.K) (O:Ok X.prog X.w X.K X.mg X.base x st k n ps sp) (bd:O3 x st ps) (hr:Room j X.A) (kj:k≤j) (hg:Gl X x) (tk:Takes X (cW G E))
    (ha:AN X G (e::es) n t) (hdb:(x==("__debug__":Str))=false:=by decide) (he:starEach (e::es) X.env=(false,eval e X.env)::starEach es X.env:=by rfl) (hpl:(backTo pos (starEach es X.env)).any (·.1)=false:=by rfl):
    AE X G (.Call (.Name x p) (e::es) [] pos) (aCall E sp t):=B3F gk O bd hr kj hg tk ha.aa ha.ln hdb he hpl
end
abbrev E0:AExc→A1→AH→Prop:=fun _ _ _=> False
theorem B5F {P:Program} {w:World} {K:PySem.W.Frag} {mg:Str→Option Value} {base:Heap} {x:Str} {st:Stmt} {f:Addr} {fd:FuncData} {ps:List Str} {n:Nat} (hm:mg x=some (.ref f)) (F:FunD K x x (defArgs st) (defBody st) (defScope st) [] [] f fd):Ok P w K mg base x st 0 n ps (fun _ _ _ _=> False):=
  ⟨fun _ _ _ _ _ _ _ _ z=> z,f,fd,hm,F,⟨fun _ _ _ _ ⟨_,_,_,_,_,_,_,_,z,_⟩=> z.elim,fun _ _ _ _ _ _ _ _ _ _ _ _ _ ⟨_,_,_,_,_,_,_,_,z,_⟩=> z.elim⟩⟩
section
variable {P:Program} {w:World} {K:PySem.W.Frag} {mg:Str→Option Value} {base:Heap} {x:Str} {st:Stmt} {f:Addr} {fd:FuncData} {N ps:List Str} {k n:Nat} {sp:F5}
theorem Ok.mk' {t:(AExc→A1→AH→Prop)→C4} (sm:P7 sp) (hm:mg x=some (.ref f)) (F:FunD K x x (defArgs st) (defBody st) (defScope st) [] [] f fd) (S:FnScope N ps (defScope st)) (hn:ps.length=n)
    (hb:∀(cdv:Value) (A:Around) (outer:List Env) (s:Shared) (H:Hp) (E:XK) (G:Gx) (E':AExc→A1→AH→Prop),Room k (A.deeper (envOfC x (defScope st) s.heap.objs.size f cdv))→G.K=K→Takes (bx P w K mg base N x (defScope st) f cdv A outer s H E) (cW G E')→
      ASs (bx P w K mg base N x (defScope st) f cdv A outer s H E) G (defBody st) (t E'))
    (hq:∀ws h Qa Ea,ws.length=n→sp ws h Qa Ea→t (F4 Ea) (C9 Qa) (L0 N.length ws) h):Ok P w K mg base x st (k+1) n ps sp:=
  ⟨sm,f,fd,hm,F,A5x [] [] F S hn hb hq⟩
end
end Ab
namespace Ab
open PySem PySem.Spec PyProof.Rows L2 RZ
theorem M9:bootBuiltins "len"=some (.builtin "len"):=by decide+kernel
theorem A0x:bootBuiltins "all"=some (.builtin "all"):=by decide+kernel
theorem c5:bootBuiltins "isinstance"=some (.builtin "isinstance"):=by decide+kernel
theorem A1H:bootBuiltins "tuple"=some (.type "tuple"):=by decide+kernel
theorem A3u:bootBuiltins "list"=some (.type "list"):=by decide+kernel
theorem A5Z:bootBuiltins "bool"=some (.type "bool"):=by decide+kernel
theorem A1R:bootBuiltins "int"=some (.type "int"):=by decide+kernel
theorem A5s:bootBuiltins "str"=some (.type "str"):=by decide+kernel
section
variable {X:Cx} {G:Gx}
theorem f5 {x:Str} {T:String} {pos:Pos} (hg:Gl X x) (hm:X.mg x=none) (hv:bootBuiltins x=some (.type T)) (hn:x≠"__name__":=by decide) (hd:(x==("__debug__":Str))=false:=by decide):AE X G (.Name x pos) (aC (.ty T)):=
  A1D (v:=V.ty T) (pe_bltn (v:=V.ty T) hg hm hv (show _=_ from rfl) hn hd) fun _=> .ty
variable {elt tg iter:Expr} {ifs:List Expr} {scope:Scope} {own:List (Str×Nat)} {pos:Pos} {ti:Q9} {g:H8} {tt:G3} {te:B9} {sl:List Nat}
theorem X5 (hc:X.calm=true) (hN:X.N.Nodup) (hi:AI X G tg iter ti) (ok:BlkOk X.N X.env.scope scope own) (hsl:∀i∈sl,i∈own.map (·.2))
    (hg:∀(s:Shared) (H:Hp) (C:Addr) (cl:List (Str×Addr)) (fp:List Addr),AG (X.blk s H scope (compEnvC scope cl C X.env) fp) G tg sl g) (ht:∀(s:Shared) (H:Hp) (C:Addr) (cl:List (Str×Addr)) (fp:List Addr),APs (X.blk s H scope (compEnvC scope cl C X.env) fp) G ifs tt)
    (he:∀(s:Shared) (H:Hp) (C:Addr) (cl:List (Str×Addr)) (fp:List Addr),AV (X.blk s H scope (compEnvC scope cl C X.env) fp) G elt te) (hs:∀x,foldedSetIterable iter X.env x=pure x:=by intro _;rfl):
    AE X G (.ListComp elt [⟨tg,iter,ifs,0⟩] scope pos) (P6 (own.map (·.2)) ti g tt te):=
  B6U hc hN hi ok hsl hg ht he (hg X.s_0 X.H_0 0 [] []).mono (ht X.s_0 X.H_0 0 [] []).mono (he X.s_0 X.H_0 0 [] []).mono hs
end
def u3 {α:Type} (d:α) (perm:List Nat) (us ws:List α):List α:=if us.isEmpty && ws.length==perm.length then perm.map fun i=> ws.getD i d else []
abbrev gKw (perm:List Nat):List W→List W→List W:=u3 W.non perm
def B6i (x:Str) (st:Stmt) (ps ks:List Str) (perm:List Nat):Prop:=∀(kV doc pm:Value) (an:Option Addr) (cdv ct:Value) (ws:List Value),ws.length=perm.length→
  bindArgs (PySem.W.fnOf x x (defArgs st) (defBody st) (defScope st) .none kV doc pm an cdv ct) ⟨[],ks.zip ws⟩=pure (ps.zip (perm.map fun i=> ws.getD i .none))
theorem RepL.getD' {K:PySem.W.Frag} {H:Hp}:∀{ws:List W} {vs:List V} (i:Nat),RepL K H ws vs→Rep K H (ws.getD i .non) (vs.getD i .non)
  | [],vs,i,r=> by rw [r.of_nil];simpa using Rep.non
  | w::ws,vs,i,r=> by
    obtain ⟨v,t,rfl,a,b⟩:=r.of_cons
    cases i with
    | zero=> simpa using a
    | succ i=> simpa using b.getD' i
theorem Vals.getD':∀{vs:List V} {us:List Value} (i:Nat),Vals vs us→RelV (vs.getD i .non) (us.getD i .none)
  | _,_,i,.nil=> by cases i <;> rfl
  | _,_,0,.cons a b=> by simpa using a
  | _,_,i+1,.cons a b=> by simpa using Vals.getD' i b
theorem B4I {K:PySem.W.Frag} {H:Hp} {perm:List Nat} {ws zs:List W} {vs us:List V} (r:RepL K H ws vs) (q:RepL K H zs us):RepL K H (u3 .non perm ws zs) (u3 .non perm vs us):=by
  unfold u3
  have e1:ws.isEmpty=vs.isEmpty:=by
    have:=r.length
    cases ws <;> cases vs <;> simp_all
  rw [e1,q.length]
  split
  · clear e1
    induction perm with
    | nil=> exact .nil
    | cons i t ih=>
      rename_i hh
      refine .cons (q.getD' i) ?_
      have:∀t:List Nat,RepL K H (t.map fun i=> zs.getD i .non) (t.map fun i=> us.getD i .non):=fun t=> by
        induction t with
        | nil=> exact .nil
        | cons i t ih=> exact .cons (q.getD' i) ih
      exact this t
  · exact .nil
theorem B3W {perm:List Nat} {vs:List V} {us:List Value} {zs:List V} {ws:List Value} (r:Vals vs us) (q:Vals zs ws):Vals (u3 .non perm vs zs) (u3 .none perm us ws):=by
  unfold u3
  have e1:vs.isEmpty=us.isEmpty:=by cases r <;> rfl
  rw [e1,q.length]
  split
  · have:∀t:List Nat,Vals (t.map fun i=> zs.getD i .non) (t.map fun i=> ws.getD i .none):=fun t=> by
      induction t with
      | nil=> exact .nil
      | cons i t ih=> exact .cons (Vals.getD' i q) ih
    exact this perm
  · exact .nil
theorem AKB.all {K:PySem.W.Frag} {x:Str} {st:Stmt} {f:Addr} {fd:FuncData} {ps ks:List Str} {perm:List Nat} (F:FunD K x x (defArgs st) (defBody st) (defScope st) [] [] f fd) (hp:ps.length=perm.length) (h0:0 < perm.length) (h:B6i x st ps ks perm):Nonempty (AKB K fd ps ks perm.length (gKw perm)):=by
  refine ⟨⟨u3 .none perm,u3 .non perm,⟨fun s us ws X hl=> ?_,fun r q=> B3W r q⟩,fun H ws zs vs us _ r q=> B4I r q⟩⟩
  obtain ⟨oc,od,dV,kV,doc,pm,an,cdv,ct,osl,rfl,lk,hcd,hD,hK⟩:=F.ex
  rcases hD with ⟨_,rfl⟩ | ⟨e,_⟩
  · unfold u3 at hl ⊢
    split at hl
    · rename_i hc
      rw [if_pos hc]
      simp only [Bool.and_eq_true,List.isEmpty_iff,beq_iff_eq] at hc
      rw [hc.1]
      exact .of_eq (h kV doc pm an cdv ct ws hc.2)
    · rw [hp] at hl
      exact absurd hl (by simp;omega)
  · exact absurd rfl e
section
variable {X:Cx} {G:Gx} {sp:F5} {st:Stmt} {k j:Nat} {ps ks:List Str} {x:Str} {p pos:Pos} {kws:List Keyword} {tk:E4} {E:AExc→A1→AH→Prop} {perm:List Nat}
end
theorem Ok.up {P:Program} {w:World} {K:PySem.W.Frag} {mg:Str→Option Value} {base:Heap} {x:Str} {st:Stmt} {ps:List Str} {k k' n:Nat} {sp sp':F5} (O:Ok P w K mg base x st k n ps sp) (h:k≤k') (m:P7 sp') (i:∀ws h Q E,sp' ws h Q E→sp ws h Q E):Ok P w K mg base x st k' n ps sp':=by
  obtain ⟨f,fd,hm,FD,F⟩:=O.ex
  exact ⟨m,f,fd,hm,FD,(F.imp fun vs H Q E ⟨ws,h,Qa,Ea,hl,hp,tb,r,q,z⟩=> ⟨ws,h,Qa,Ea,hl,hp,tb,r,i _ _ _ _ q,z⟩).mono h⟩
end Ab
namespace Ab
open PySem PySem.Spec PyProof.Rows L2 RZ
def pureSp (P:List W→RR→Prop):F5:=fun ws h Q _=> ∃r,P ws r∧Q r h
theorem pureSp.m {P:List W→RR→Prop}:P7 (pureSp P):=fun _ _ _ _ _ _ k _ ⟨r,p,q⟩=> ⟨r,p,k _ _ q⟩
def Bt (p:Addr) (h h':AH):Prop:=∀q,q≠p→h' q=h q
theorem Bt.refl {p:Addr} {h:AH}:Bt p h h:=fun _ _=> rfl
theorem Bt.trans {p:Addr} {h h1 h2:AH} (a:Bt p h h1) (b:Bt p h1 h2):Bt p h h2:=fun q n=> (b q n).trans (a q n)
theorem Bt.upd {p:Addr} {h:AH} {o:AO}:Bt p h (H7 h p o):=fun q n=> by unfold H7;rw [if_neg n]
section
variable {vs:List Nat} {g:H8} {tt:G3} {te:B9} {env:A1} {h:AH} {Q:List W→A1→AH→Prop}
inductive All2 {α β:Type} (P:α→β→Prop):List α→List β→Prop where
  | nil:All2 P [] []
  | cons {a:α} {b:β} {as:List α} {bs:List β}:P a b→All2 P as bs→All2 P (a::as) (b::bs)
theorem All2.length {α β:Type} {P:α→β→Prop} {as:List α} {bs:List β} (r:All2 P as bs):as.length=bs.length:=by
  induction r with
  | nil=> rfl
  | cons _ _ ih=> rw [List.length_cons,List.length_cons,ih]
end
section
variable {g:H8} {tb:C4} {D:AEnds}
end
end Ab
namespace Ab
open PySem PySem.Spec PyProof.Rows L2 RZ
section
variable {xs ys:List W} {i j:Int} {Q:RV→Prop} {v:Vw} {a b c d e w:W} {n:String}
def ixK (v:Vw) (i:Int) (Q:RV→Prop):Prop:=match v.items.bind fun xs=> atI xs i with
  | some w=> Q (.val w)
  | none=> False
theorem A5m {v:Vw}:(∃xs w,v.items=some xs∧atI xs i=some w∧Q (.val w))=ixK v i Q:=by
  unfold ixK
  refine propext ⟨fun ⟨xs,w,e,f,q⟩=> ?_,fun q=> ?_⟩
  · rw [e]
    show match atI xs i with
      | some w=> Q (.val w)
      | none=> False
    rw [f];exact q
  · split at q
    · rename_i w e
      obtain ⟨xs,e1,e2⟩:=Option.bind_eq_some_iff.mp e
      exact ⟨xs,w,e1,e2,q⟩
    · exact q.elim
theorem B7h {v b:Vw}:oIx v b Q=(match b with
  | .wv (.int i)=> match v with
    | .wv (.str x)=> x.length≤sizeLine∧∃c,L2.atI x.cps.toList i=some c∧Q (.val (.str ⟨#[c]⟩))
    | v=> ixK v i Q
  | _=> False):=by
  cases b with
  | wv w=> cases w with
    | int i=> cases v with
      | wv u=> cases u <;> first | rfl | exact A5m
      | cv c=> exact A5m
      | bad=> exact A5m
    | _=> rfl
  | _=> rfl
theorem A4Z:B4 [v] Q=(match v with
  | .wv (.str x)=> x.length≤sizeLine∧Q (.val (.int x.length))
  | v=> match v.items with
    | some xs=> Q (.val (.int xs.length))
    | none=> False):=by
  cases v with
  | wv w=> cases w <;> simp [B4,Vw.items]
  | cv c=> cases c <;> simp [B4,Vw.items]
  | bad=> simp [B4,Vw.items]
theorem A51:O8 [v] Q=(match v.items with
    | some xs=> Q (.val (.tup xs))
    | none=> False):=by
  unfold O8
  cases e:v.items <;> simp [e]
theorem A50:T3 [v] Q=(match v.items with
    | some xs=> Q (.own (.seq xs))
    | none=> False):=by
  unfold T3
  cases e:v.items <;> simp [e]
theorem B7B {v:Vw} {neg:Bool}:L1 neg v (.wv .non) Q=(v≠ .bad∧Q (.val (.bl (if neg then !v.isNon else v.isNon)))):=by
  simp only [L1,true_and]
end
theorem A00 {i j:Int} (h0:0≤i) (h1:i < 2 ^ 200) (g0:0≤j) (g1:j < 2 ^ 200):CMulW i j:=
  wide_mul (a:=200) (b:=200) (by omega) (by omega) (by decide) (by decide) (by decide)
theorem A9T {xs:List W} {k:Nat}:T4 xs none (some (k:Int))=xs.take k:=by
  unfold T4
  rw [HT.sIx_none,HT.sIx_nat]
  simp only [List.drop_zero,Nat.sub_zero]
  rcases Nat.le_total k xs.length with h | h
  · rw [Nat.min_eq_left h]
  · rw [Nat.min_eq_right h,List.take_of_length_le (Nat.le_refl _),List.take_of_length_le h]
theorem B7F {v:Vw} {T:String} {Q:RV→Prop}:D9 [v,.wv (.ty T)] Q=(match v.tyName with
  | some n=> match x9 n T with
    | some b=> Q (.val (.bl b))
    | none=> False
  | none=> False):=by
  refine propext ⟨fun q=> ?_,fun q=> ?_⟩
  · obtain ⟨n,b,e,f,q⟩:∃n b,v.tyName=some n∧x9 n T=some b∧Q (.val (.bl b)):=q
    simp only [e,f]
    exact q
  · show ∃n b,v.tyName=some n∧x9 n T=some b∧Q (.val (.bl b))
    split at q
    · rename_i n e
      split at q
      · rename_i b f
        exact ⟨n,b,e,f,q⟩
      · exact q.elim
    · exact q.elim
mutual
def W.fit:Nat→W→Bool
  | _,.non=> true
  | _,.bl _=> true
  | _,.int _=> true
  | _,.str _=> true
  | n+1,.tup xs=> decide (xs.length≤100000) && W.fitL n xs
  | n+1,.lst xs=> decide (xs.length≤100000) && W.fitL n xs
  | _,_=> false
def W.fitL:Nat→List W→Bool
  | _,[]=> true
  | n,x::xs=> W.fit n x && W.fitL n xs
end
theorem A3f {lo:Int} {n:Nat}:(P4 lo n).length=n:=by simp [P4]
end Ab
namespace Ab
open PySem PySem.Spec PyProof.Rows L2 RZ
section
variable {P:Program} {w:World} {A:Around} {E:Value→Shared→Prop}
theorem B2r {I:Addr} {fp:List Addr} {n k:Nat} {Pv:Nat→Value→Prop} {St:Nat→Heap→Prop} (W:Walks P w A I fp [I] n Pv St) (hk:k≤n) (tp:Nat):
    WalksS P w A I fp [I] (fun x y=> x=y) (n - k) (fun i v=> Pv (k+i) v) (fun i s=> St (k+i) s.heap∧tp≤s.toks) where
  sub:=W.sub
  grefl:=fun _=> rfl
  gtrans:=fun _ _ _ x y=> x.trans y
  frame:=fun i s h' tk ⟨x,t⟩ y z=> ⟨W.frame _ _ _ x z,Nat.le_trans t y⟩
  item:=fun i s Q E hi ⟨x,t⟩ hQ=> wpAny_with_toks (n:=s.toks) (Nat.le_refl _) (W.item (k+i) s _ _ (by omega) x fun v h' tk pv x' same ht=> hQ v _ pv ⟨x',Nat.le_trans t ht⟩ ⟨same,rfl,rfl,rfl,ht⟩)
  done:=fun s Q E ⟨x,t⟩ hQ=> wpAny_with_toks (n:=s.toks) (Nat.le_refl _) (W.done s _ _ (by rwa [show k+(n - k)=n by omega] at x) fun h' tk same ht=> hQ _ ⟨same,rfl,rfl,rfl,ht⟩)
  self:=fun i s Q E ⟨x,_⟩ q=> W.self _ s Q E x q
theorem B3t {xs:Array Value} {acc:Array Value} {k:Nat} (h:ItemsOf (fun i v=> xs[k+i]? =some v) acc (xs.size - k)):acc.toList=xs.toList.drop k:=by
  obtain ⟨l,g⟩:=h
  refine List.ext_getElem? fun i=> ?_
  rw [List.getElem?_drop]
  by_cases hi:i < acc.size
  · have e:acc[i]? =some acc[i]:=by simp [hi]
    have e2:=g i _ e
    simpa using e.trans e2.symm
  · rw [List.getElem?_eq_none (by simpa using hi),List.getElem?_eq_none (by simp;omega)]
theorem A73 {s:Shared} {a:Addr} {xs:Array Value} {T:String} {St:Nat→Heap→Prop} {h1:Heap} {x:Value} {Q:List Value→Shared→Prop}
    (hT:T="str_ascii_iterator"∨T="str_iterator"∨T="list_iterator"∨T="tuple_iterator")
    (hN:∀(Q:Bool→Shared→Prop),Q false s→wpAny (model P w) A (notIterableAtAll (.ref a)) Q E s)
    (hI:∀(Q:Value→Shared→Prop),Q (.ref s.heap.objs.size) { s with heap:=h1 }→wpAny (model P w) A (pyIter (.ref a)) Q E s)
    (W:∀B:Around,B.handled=none→Walks P w B s.heap.objs.size [s.heap.objs.size,a] [s.heap.objs.size] xs.size (fun i v=> xs[i]? =some v) St)
    (ty:∀i h (t:Shared),t.heap=h→St i h→t.TypeIs (.ref s.heap.objs.size) T) (h0:St 0 h1) (hh:A.handled=none) (hh1:A.in1.handled=none) (big:xs.size≤sizeLine) (old:∀b o,s.heap.get? b=some o→h1.get? b=some o) (ha:a < s.heap.objs.size)
    (hx:xs[0]? =some x) (sz:s.heap.objs.size < h1.objs.size)
    (hQ:∀(hp:Heap) (tk:Nat),(∀b o,s.heap.get? b=some o→hp.get? b=some o)→s.toks≤tk→Q [x,.ref hp.objs.size] { s with heap:=hp.push { cls:= .type "list",data:= .seq (xs.toList.drop 1).toArray },toks:=tk }):
    wpAny (model P w) A (unpackItems (.ref a) 2 (some 1)) Q E s:=by
  have h0':0 < xs.size:=(Array.getElem?_eq_some_iff.mp hx).1
  unfold unpackItems
  refine wpAny_bind (hN _ ?_)
  rw [if_neg Bool.false_ne_true]
  refine wpAny_bind (wpAny_holding (hI _ ?_))
  show wpAny _ _ (holding [Value.ref s.heap.objs.size] (draw (.ref s.heap.objs.size) 1) >>=_) _ _ _
  refine wpAny_bind (wpAny_holding ?_)
  show wpAny _ _ (pyNext (.ref s.heap.objs.size) >>=_) _ _ _
  refine wpAny_bind (wpAny_with_toks (n:=s.toks) (Nat.le_refl _) ((W A hh).item 0 _ _ _ h0' h0 fun v h2 tk pv st2 same ht=> ?_))
  have ev:v=x:=Option.some.inj (pv.symm.trans hx)
  subst ev
  show wpAny _ _ (holding [v] (draw (.ref s.heap.objs.size) 0) >>=_) _ _ _
  refine wpAny_bind (wpAny_holding (show wpAny _ _ (pure []) _ _ _ from wpAny_pure (wpAny_pure ?_)))
  rw [if_neg (by simp)]
  have old2:∀b o,s.heap.get? b=some o→h2.get? b=some o:=fun b o e=> same b o (fun z=> by
    have lt:=Heap.lt_size e
    have e3:b=s.heap.objs.size:=by simpa using z
    rw [e3] at lt
    exact Nat.lt_irrefl _ lt) (old b o e)
  have g0:s.heap.objs.size < h2.objs.size:=by
    obtain ⟨o,e,_⟩:=ty (0+1) h2 { s with heap:=h2 } rfl st2
    exact Heap.lt_size e
  refine wpAny_bind (wpAny_holding (wpAny_collect_iter hT (B2r (W A.in1 hh1) h0' tk) (fun i t ⟨y,_⟩=> ty _ _ t rfl y) ⟨st2,Nat.le_refl _⟩ (fun b hb=> ?_) (by simp) (fun s' acc mv it=> ?_) (Nat.le_trans (Nat.sub_le _ _) big)))
  · have e:b=s.heap.objs.size∨b=a:=by simpa using hb
    rcases e with e | e
    · rw [e];exact g0
    · rw [e];exact Nat.lt_trans ha g0
  · have e:acc.toList=xs.toList.drop 1:=B3t it
    rw [e]
    rw [if_neg (by omega)]
    show wpAny _ _ (newList (List.take ((List.drop 1 xs.toList).length - 0) (List.drop 1 xs.toList)) >>=fun l=> pure ([v]++[l]++List.drop ((List.drop 1 xs.toList).length - 0) (List.drop 1 xs.toList))) Q E s'
    rw [Nat.sub_zero,List.take_length,List.drop_length]
    obtain ⟨hp,ge,dr,tk2,os⟩:=s'
    obtain ⟨m1,m2,m3,m4,m5⟩:=mv
    cases m2
    cases m3
    cases m4
    refine wpAny_bind (wpAny_newObj_type (wpAny_pure ?_) (by show (List.drop 1 xs.toList).toArray.size≤sizeLine;simp;omega))
    have old3:∀b o,s.heap.get? b=some o→hp.get? b=some o:=fun b o e=> m1 b o (fun z=> by
      have lt:=Heap.lt_size e
      have e3:b=s.heap.objs.size:=by simpa using z
      rw [e3] at lt
      exact Nat.lt_irrefl _ lt) (old2 b o e)
    exact hQ hp tk2 old3 (Nat.le_trans ht m5)
theorem B2i {s:Shared} {a:Addr} {xs:Array Value} {x:Value} {Q:List Value→Shared→Prop} (hs:s.heap.IsTuple a xs) (hh:A.handled=none) (hh1:A.in1.handled=none) (big:xs.size≤sizeLine) (hx:xs[0]? =some x)
    (hQ:∀(hp:Heap) (tk:Nat),(∀b o,s.heap.get? b=some o→hp.get? b=some o)→s.toks≤tk→Q [x,.ref hp.objs.size] { s with heap:=hp.push { cls:= .type "list",data:= .seq (xs.toList.drop 1).toArray },toks:=tk }):
    wpAny (model P w) A (unpackItems (.ref a) 2 (some 1)) Q E s:=by
  have la:a < s.heap.objs.size:=by obtain ⟨o,e,_⟩:=hs;exact Heap.lt_size e
  refine A73 (T:="tuple_iterator") (St:=fun i h=> h.IsTupleIter s.heap.objs.size a i∧h.IsTuple a xs) (h1:=s.heap.push { cls:= .type "tuple_iterator",data:= .fields #[.ref a,.int 0 0] }) (.inr (.inr (.inr rfl))) (fun Q q=> ?_) (fun Q q=> wpAny_pyIter_tuple hs q)
    (fun B hB=> Walks.tuple hB _ a (Nat.ne_of_lt la) xs) (fun i h t e y=> by subst e;exact y.1.typeIs) ⟨⟨_,Heap.get?_push_size _ rfl,rfl,rfl⟩,hs.push _⟩ hh hh1 big (fun b o e=> Heap.get?_push_of_some _ e) la hx (by rw [Heap.size_push];exact Nat.lt_succ_self _) hQ
  unfold notIterableAtAll
  refine wpAny_bind (wpAny_specialOf hs.typeIs F.slot_tuple_iter.lookup ?_)
  exact wpAny_pure q
theorem B3S {s:Shared} {a:Addr} {xs:Array Value} {x:Value} {Q:List Value→Shared→Prop} (hs:s.heap.IsList a xs) (hh:A.handled=none) (hh1:A.in1.handled=none) (big:xs.size≤sizeLine) (hx:xs[0]? =some x)
    (hQ:∀(hp:Heap) (tk:Nat),(∀b o,s.heap.get? b=some o→hp.get? b=some o)→s.toks≤tk→Q [x,.ref hp.objs.size] { s with heap:=hp.push { cls:= .type "list",data:= .seq (xs.toList.drop 1).toArray },toks:=tk }):
    wpAny (model P w) A (unpackItems (.ref a) 2 (some 1)) Q E s:=by
  have la:a < s.heap.objs.size:=by obtain ⟨o,e,_⟩:=hs;exact Heap.lt_size e
  refine A73 (T:="list_iterator") (St:=fun i h=> h.IsListIter s.heap.objs.size a i∧h.IsList a xs) (h1:=s.heap.push { cls:= .type "list_iterator",data:= .fields #[.ref a,.int 0 0] }) (.inr (.inr (.inl rfl))) (fun Q q=> ?_) (fun Q q=> wpAny_pyIter_list hs q)
    (fun B hB=> Walks.list hB _ a (Nat.ne_of_lt la) xs) (fun i h t e y=> by subst e;exact y.1.typeIs) ⟨⟨_,Heap.get?_push_size _ rfl,rfl,rfl⟩,hs.push _⟩ hh hh1 big (fun b o e=> Heap.get?_push_of_some _ e) la hx (by rw [Heap.size_push];exact Nat.lt_succ_self _) hQ
  unfold notIterableAtAll
  refine wpAny_bind (wpAny_specialOf hs.typeIs F.slot_list_iter.lookup ?_)
  exact wpAny_pure q
end
section
variable {X:Cx} {G:Gx} {e t1 t2:Expr} {sp pos tpos:Pos} {kk:Nat}
def A9S (K:PySem.W.Frag) (g1 g2:TG):TG:=fun v σ H Q=> ∃a x r,v= .ref a∧(SqT K H a (x::r)∨SqL K H a (x::r))∧∀l,H l=none→g1 x σ (upd H l (.lst r)) fun σ1 H1=> g2 (.ref l) σ1 H1 Q
theorem B4o {g1 g2:TG} (hc:X.calm=true) (h1:PG X t1 g1) (h2:PG X t2 g2) (hs:(assignEach [t1,.Starred t2 sp] X.env)=[(false,assign t1 X.env),(true,assign t2 X.env)]:=by rfl):PG X (.Tuple [t1,.Starred t2 sp] kk tpos) (A9S X.K g1 g2):=by
  refine ⟨fun pins s σ H v u Q I rv h=> ?_⟩
  obtain ⟨a,x,r,rfl,hq,h⟩:=h
  obtain rfl:u= .ref a:=rv
  rw [assign_Tuple]
  refine wpAny_bind (wpAny_standAt ?_)
  unfold unpack
  rw [hs]
  have hh:=I.ok.hd hc
  have go:∀(vv:Value) (us:List Value),RelV x vv→Vals r us→us.length≤sizeLine→∀(hp:Heap) (tk:Nat),(∀b o,s.heap.get? b=some o→hp.get? b=some o)→s.toks≤tk→
      wpAny (model X.prog X.w) X.A (assignInOrder [assign t1 X.env,assign t2 X.env] [vv,.ref hp.objs.size]) (fun _ s'=> ∃σ' H',Inv X pins σ' H' s'∧Q σ' H') X.xe { s with heap:=hp.push { cls:= .type "list",data:= .seq us.toArray },toks:=tk }:=fun vv us rx rr hz hp tk old ht=> by
    have I1:Inv X pins σ H { s with heap:=hp,toks:=tk }:=I.kept old
    have I2:Inv X pins σ (upd H hp.objs.size (.lst r)) { s with heap:=hp.push { cls:= .type "list",data:= .seq us.toArray },toks:=tk }:=
      I1.laid (fun b o e=> Heap.get?_push_of_some _ e) (Nat.le_refl _) (show ObjOk X.prog X.w _ _ _ (.lst r) from ⟨by rw [rr.length];exact hz,us,0,rr,Heap.get?_push_size _ rfl⟩)
    refine assignInOrder_cons (thn (h1.run pins _ σ _ _ _ _ I2 rx (h _ I1.fresh)) fun _ s2 ⟨σ2,H2,I3,q3⟩=> ?_)
    refine assignInOrder_cons (thn (h2.run pins _ σ2 _ _ _ _ I3 (show RelV (.ref hp.objs.size) (.ref hp.objs.size) from rfl) q3) fun _ s3 ⟨σ3,H3,I4,q4⟩=> ?_)
    exact assignInOrder_nil ⟨σ3,H3,I4,q4⟩
  rcases hq with hq | hq
  · obtain ⟨its,rr,pl,hz⟩:=I.tuple hq
    cases rr with
    | cons rx rr=>
      rename_i vv us
      refine wpAny_bind (wpAny_holding (B2i pl hh hh (by have:=rr.length;simp at hz ⊢;omega) (x:=vv) (by simp) fun hp tk old ht=> ?_))
      exact go vv us rx rr (by have:=rr.length;simp at hz;omega) hp tk old ht
  · obtain ⟨its,rr,pl,hz⟩:=I.list hq
    cases rr with
    | cons rx rr=>
      rename_i vv us
      refine wpAny_bind (wpAny_holding (B3S pl.isList hh hh (by have:=rr.length;simp at hz ⊢;omega) (x:=vv) (by simp) fun hp tk old ht=> ?_))
      exact go vv us rx rr (by have:=rr.length;simp at hz;omega) hp tk old ht
end
end Ab
namespace Ab
open PySem PySem.Spec PyProof.Rows L2 RZ
def aStar (i j:Nat) (tv:B9):C4:=fun D env h=> tv env h fun w env1 h1=> match w with
  | .tup (x::r)=> D.nx ((env1.set i (some (.val x))).set j (some (.own (.seq r)))) h1
  | .lst (x::r)=> D.nx ((env1.set i (some (.val x))).set j (some (.own (.seq r)))) h1
  | _=> False
section
variable {X:Cx} {G:Gx} {e:Expr} {tv:B9} {px py sp pos tpos:Pos} {kk i j:Nat} {x y:Str}
theorem aStar.mono (m:B0 tv):Z0 (aStar i j tv):=fun D D' env h l q=> m env h _ _ (fun w env1 h1 z=> by
  split at z
  · exact l.nx _ _ z
  · exact l.nx _ _ z
  · exact z) q
theorem B5I (gk:G.K=X.K) (hc:X.calm=true) (hN:X.N.Nodup) (hi:X.N[i]? =some x) (hj:X.N[j]? =some y) (hx:Loc X.env.scope x) (hy:Loc X.env.scope y) (he:AV X G e tv)
    (fx:X.fn x=true∨X.env.scope.names.lookup x=some .local:=by first | exact .inl rfl | exact .inr rfl) (fy:X.fn y=true∨X.env.scope.names.lookup y=some .local:=by first | exact .inl rfl | exact .inr rfl)
    (hs:swapsWithSole [.Tuple [.Name x px,.Starred (.Name y py) sp] kk tpos] e pos.line X.env=pure false:=by rfl) (hw:swappedStores [.Tuple [.Name x px,.Starred (.Name y py) sp] kk tpos] e X.env=pure none:=by rfl)
    (h1:(assignEach [.Tuple [.Name x px,.Starred (.Name y py) sp] kk tpos] X.env).map (·.2)=[assign (.Tuple [.Name x px,.Starred (.Name y py) sp] kk tpos) X.env]:=by rfl)
    (h2:(assignEach [.Name x px,.Starred (.Name y py) sp] X.env)=[(false,assign (.Name x px) X.env),(true,assign (.Name y py) X.env)]:=by rfl):
    AS X G (.Assign [.Tuple [.Name x px,.Starred (.Name y py) sp] kk tpos] e pos) (aStar i j tv):=by
  refine ⟨aStar.mono he.mono,PS.imp (ps_asg he.pe (B4o hc (pg_name hN hi hx fx) (pg_name hN hj hy fy) h2) hs hw h1) fun D σ H ⟨env,h,Da,S,q,l⟩=> ?_⟩
  refine ⟨env,h,S,he.mono env h _ _ (fun w env1 h1 z v H1 S1 x1 r1=> ?_) q⟩
  have kp:=x1.keeps S
  have go:∀(a:Addr) (x0:W) (r:List W) (vs:List V),v= .ref a→(SqT X.K H1 a vs∨SqL X.K H1 a vs)→RepL G.K H1 (x0::r) vs→Da.nx ((env1.set i (some (.val x0))).set j (some (.own (.seq r)))) h1→A9S X.K (gName i) (gName j) v σ H1 D.nx:=fun a x0 r vs ev hq rl z=> by
    obtain ⟨u,us,rfl,ru,rr⟩:=rl.of_cons
    refine ⟨a,u,us,ev,hq,fun p hp=> ?_⟩
    have nw:New H1 (upd H1 p (.lst us)):=New.upd hp
    have S2:=nw.bs S1
    obtain ⟨g1,g2,g3⟩:=S1.noAt hp
    have S3:BS G (env1.set i (some (.val x0))) h1 (σ.set i (some u)) (upd H1 p (.lst us)):=S2.set (r:= .val x0) i (Rep.mono nw.keeps _ _ ru) trivial
    have no:¬OwnAt (env1.set i (some (.val x0))) (σ.set i (some u)) p:=fun ⟨m,c,e1,e2⟩=> by
      by_cases hm:i=m
      · subst hm
        by_cases hl:i < env1.length
        · rw [List.getElem?_set_self hl] at e1;cases e1
        · rw [List.getElem?_eq_none (by rw [List.length_set];omega)] at e1;cases e1
      · rw [List.getElem?_set_ne hm] at e1 e2
        exact g3 ⟨m,c,e1,e2⟩
    have S4:=S3.set (r:= .own (.seq r)) j (v:= .ref p) ⟨p,rfl,⟨us,upd_same,RepL.mono nw.keeps _ _ rr⟩,g1,g2,no⟩ trivial
    exact l.nx _ _ _ _ S4 (kp.trans nw.keeps) z
  split at z
  · rename_i x0 r
    obtain ⟨a,vs,ev,hq,rl⟩:=Rep.of_tup (K:=G.K) (H:=H1) r1
    exact go a x0 r vs ev (.inl (gk▸hq)) rl z
  · rename_i x0 r
    obtain ⟨a,vs,ev,hq,rl⟩:=Rep.of_lst (K:=G.K) (H:=H1) r1
    exact go a x0 r vs ev (.inr hq.sq) rl z
  · exact z.elim
end
theorem A8x {X:Cx} {G:Gx} {x:Str} {i:Int} {pos:Pos} (hg:Gl X x) (hm:∃t,X.mg x=some (.int i t)) (hd:(x==("__debug__":Str))=false:=by decide):AE X G (.Name x pos) (aC (.int i)):=by
  obtain ⟨t,hm⟩:=hm
  exact A1D (v:= .int i) (pe_glob (v:= .int i) hg hm ⟨t,rfl⟩ hd) fun _=> .int
end Ab
namespace Ab
open PySem PySem.Spec PyProof.Rows L2 RZ
open Sem (wp)
structure Itr (v:Value) (C:Heap→Prop) (at_:Heap→Addr) (nx:Heap→Heap):Prop where
  go:∀(P:Program) (w:World) (A:Around) (E:Value→Shared→Prop) (s:Shared) (Q:Value→Shared→Prop),C s.heap→Q (.ref (at_ s.heap)) { s with heap:=nx s.heap }→wpAny (model P w) A (pyIter v) Q E s
section
variable {P:Program} {w:World} {A:Around} {E:Value→Shared→Prop} {s:Shared}
end
section
variable {K:PySem.W.Frag}
def enW (ws:List W):List W:=(List.range ws.length).map fun (i:Nat)=> W.tup [.int (i:Int),ws.getD i .non]
end
def iEn (t:B9):Q9:=fun env h Q=> t env h fun w env' h'=> match w with
  | .tup ws=> Q (enW ws) env' h'
  | .lst ws=> Q (enW ws) env' h'
  | _=> False
section
variable {X:Cx} {G:Gx} {e:Expr} {tv:B9} {p pos tpos:Pos} {elts:List Expr} {kk:Nat}
theorem iEn.mono (m:B0 tv):B0 (iEn tv):=fun env h Q Q' k q=> m env h _ _ (fun w e g z=> by
  split at z
  · exact k _ _ _ z
  · exact k _ _ _ z
  · exact z) q
end
end Ab
namespace Ab
open PySem PySem.Spec PyProof.Rows L2 RZ
open Sem (wp)
section
variable {P:Program} {w:World} {A:Around} {E:Value→Shared→Prop} {s:Shared} {z TI TO i1 i2:Addr} {fp1 fp2:List Addr} {n1 n2 i:Nat} {P1 P2:Nat→Value→Prop} {St1 St2:Nat→Heap→Prop} {a1 a2 f0 f1:Value}
end
end Ab
namespace Ab
open PySem PySem.Spec PyProof.Rows L2 RZ
open Sem (wp)
section
variable {P:Program} {w:World} {A:Around} {E:Value→Shared→Prop} {s:Shared} {en it:Addr} {old:Value} {ch:List Addr}
end
section
variable {P:Program} {w:World} {A:Around} {E:Value→Shared→Prop} {s:Shared} {z TI TO i1 i2:Addr} {fp1 fp2:List Addr} {n1 n2 i:Nat} {P1 P2:Nat→Value→Prop} {St1 St2:Nat→Heap→Prop} {a1 a2 f0 f1:Value}
end
end Ab
namespace Ab
open PySem PySem.Spec PyProof.Rows L2 RZ
open Sem (wp)
def ItAt (k:Bool) (h:Heap) (it a:Addr) (i:Nat):Prop:=if k=true then h.IsTupleIter it a i else h.IsListIter it a i
def HpAt (k:Bool) (h:Heap) (a:Addr) (xs:Array Value):Prop:=if k=true then h.IsTuple a xs else h.IsList a xs
theorem ItAt.keep {k:Bool} {h h':Heap} {it a:Addr} {i:Nat} (x:ItAt k h it a i) (y:∀o,h.get? it=some o→h'.get? it=some o):ItAt k h' it a i:=by
  cases k with
  | true=> exact Heap.IsTupleIter.at (show h.IsTupleIter it a i from x) y
  | false=> exact Heap.IsListIter.at (show h.IsListIter it a i from x) y
theorem HpAt.keep {k:Bool} {h h':Heap} {a:Addr} {xs:Array Value} (x:HpAt k h a xs) (y:∀o,h.get? a=some o→h'.get? a=some o):HpAt k h' a xs:=by
  cases k with
  | true=> exact Heap.IsTuple.at (show h.IsTuple a xs from x) y
  | false=> exact Heap.IsList.at (show h.IsList a xs from x) y
theorem HpAt.lt {k:Bool} {h:Heap} {a:Addr} {xs:Array Value} (x:HpAt k h a xs):a < h.objs.size:=by
  cases k with
  | true=> obtain ⟨o,e,_⟩:h.IsTuple a xs:=x;exact Heap.lt_size e
  | false=> obtain ⟨o,e,_⟩:h.IsList a xs:=x;exact Heap.lt_size e
structure EzSep (en z TI TO i1 i2 a b:Addr):Prop where
  S:ZipSep2 z TI TO i1 i2 [i1,a] [i2,b]
  ez:en≠z
  eT:en≠TI
  eO:en≠TO
  e1:en≠i1
  e2:en≠i2
  a1:a≠i1
  b2:b≠i2
def ezW (ws us:List W):List W:=enW (List.zipWith (fun a b=> W.tup [a,b]) ws us)
def W.items:W→Option (List W)
  | .tup xs=> some xs
  | .lst xs=> some xs
  | _=> none
def iEz (t:E4):Q9:=fun env h Q=> t env h fun ws env' h'=> match ws with
  | [a,b]=> match a.items,b.items with
    | some xs,some ys=> Q (ezW xs ys) env' h'
    | _,_=> False
  | _=> False
section
variable {X:Cx} {G:Gx} {e e2:Expr} {ta:E4} {p p2 pos pos2 tpos:Pos} {elts:List Expr} {kk:Nat}
theorem iEz.mono (m:B0 ta):B0 (iEz ta):=fun env h Q Q' k q=> m env h _ _ (fun ws e g z=> by
  split at z
  · split at z
    · exact k _ _ _ z
    · exact z
  · exact z) q
end
end Ab
namespace Ab
open PySem PySem.Spec PyProof.Rows L2 RZ
section
variable {X:Cx} {G:Gx} {a b:Expr} {ta tb:AT} {pos:Pos}
end
def aAugS (f:Int→Int→Int) (to ti te:AT):C4:=fun D env h=> to env h fun ro env1 h1=> ti env1 h1 fun ri env2 h2=> match view env2 h2 ri with
  | .wv (.int k)=> (0≤k∧k < 2 ^ 62)∧(match N4 env2 h2 ro with
    | some (.seq xs)=> (match xs[k.toNat]? with
      | some (.int x)=> te env2 h2 fun re env3 h3=> (match view env3 h3 re with
        | .wv (.int y)=> (match N4 env3 h3 ro with
          | some (.seq ys)=> k.toNat < ys.length∧D.nx (A0R env3 ro (.seq (ys.set k.toNat (.int (f x y))))) (A0Q h3 ro (.seq (ys.set k.toNat (.int (f x y)))))
          | _=> False)
        | _=> False)
      | _=> False)
    | _=> False)
  | _=> False
section
variable {X:Cx} {G:Gx} {o i e:Expr} {to ti te:AT} {tpos pos:Pos} {op:Operator} {f:Int→Int→Int}
theorem aAugS.mono (mo:B0 to) (mi:B0 ti) (me:B0 te):Z0 (aAugS f to ti te):=fun D D' env h l q=> mo env h _ _ (fun ro e g z=> mi e g _ _ (fun ri e g z=> by
  split at z
  · refine ⟨z.1,?_⟩
    have z:=z.2
    split at z
    · split at z
      · refine me e g _ _ (fun re e g z=> ?_) z
        split at z
        · split at z
          · exact ⟨z.1,l.nx _ _ z.2⟩
          · exact z
        · exact z
      · exact z
    · exact z
  · exact z) z) q
end
section
variable {X:Cx} {G:Gx} {a b:Expr} {ta tb:AT} {pos p p2 pos2:Pos}
def A6Z (ta:AT):AT:=fun env h Q=> ta env h fun r env1 h1=> match view env1 h1 r with
  | .wv (.int n)=> (0≤n∧n≤16777216)∧Q (.own (.seq (P4 0 n.toNat))) env1 h1
  | _=> False
theorem A8b {K:PySem.W.Frag} {H:Hp}:∀is:List Nat,RepL K H (is.map fun (i:Nat)=> W.int (0+(i:Int))) (is.map fun (i:Nat)=> V.int (0+(i:Int)))
  | []=> .nil
  | i::is=> .cons .int (A8b is)
theorem B4v {K:PySem.W.Frag} {H:Hp} {n:Int}:RepL K H (P4 0 n.toNat) (rgV 0 n):=by
  unfold P4 rgV
  rw [Int.sub_zero]
  exact A8b _
theorem B49 (hc:X.calm=true) (hg:Gl X "list") (hm:X.mg "list"=none) (hgr:Gl X "range") (hmr:X.mg "range"=none) (ha:AE X G a ta)
    (na:starEach [.Call (.Name "range" p2) [a] [] pos2] X.env=(false,eval (.Call (.Name "range" p2) [a] [] pos2) X.env)::starEach [] X.env:=by rfl) (na2:starEach [a] X.env=(false,eval a X.env)::starEach [] X.env:=by rfl):
    AE X G (.Call (.Name "list" p) [.Call (.Name "range" p2) [a] [] pos2] [] pos) (A6Z ta):=by
  refine ⟨fun env h Q Q' k q=> ha.mono env h _ _ (fun r e g z=> ?_) q,PE.imp (pe_listRg hc hg hm (prg_1 hgr hmr ha.pe na2) na) fun σ H Q ⟨env,h,S,q⟩=> ⟨env,h,S,ha.mono env h _ _ (fun r env1 h1 z v H1 S1 x1 r1 f1=> ?_) q⟩⟩
  · split at z
    · exact ⟨z.1,k _ _ _ z.2⟩
    · exact z
  · have rv:=r1.vr S1
    split at z
    · rename_i n en
      rw [en] at rv
      obtain ⟨⟨n0,n1⟩,z⟩:=z
      refine ⟨n,rv.int,.of_le (by omega) (by omega) (by omega) n0,fun p hp=> ?_⟩
      have nw:New H1 (upd H1 p (.lst (rgV 0 n))):=New.upd hp
      obtain ⟨g1,g2,g3⟩:=S1.noAt hp
      exact z (.ref p) _ (nw.bs S1) (x1.trans nw.xt) ⟨p,rfl,⟨_,upd_same,B4v⟩,g1,g2,g3⟩ fun p' e'=> by cases e';exact x1.fresh hp
    · exact z.elim
end
def aExt (to te:AT):AT:=fun env h Q=> to env h fun ro env1 h1=> A6a (N4 env1 h1 ro)∧te env1 h1 fun re env2 h2=> match view env2 h2 re with
  | .cv (.seq ys)=> (match N4 env2 h2 ro with
    | some (.seq xs)=> xs.length+ys.length≤sizeLine∧Q (.val .non) (A0R env2 ro (.seq (xs++ys))) (A0Q h2 ro (.seq (xs++ys)))
    | _=> False)
  | _=> False
section
variable {X:Cx} {G:Gx} {o e:Expr} {to te:AT} {apos cpos:Pos}
theorem aExt.mono (mo:B0 to) (me:B0 te):B0 (aExt to te):=fun env h Q Q' k q=> mo env h _ _ (fun ro e g ⟨i,z⟩=> ⟨i,me e g _ _ (fun re e g z=> by
  split at z
  · split at z
    · exact ⟨z.1,k _ _ _ z.2⟩
    · exact z
  · exact z) z⟩) q
theorem B5t (ho:AE X G o to) (he:AE X G e te)
    (hbase:attributeBase o "extend" X.env (eval o X.env)=eval o X.env:=by rfl)
    (hfew:((backTo cpos (starEach [e] X.env)).all (fun x=> !x.1) && (backToKw cpos (keywordEach [] X.env)).all (fun x=> x.1.isSome)
      && decide ([e].length+([]:List Keyword).length+(if ([]:List Keyword).isEmpty then 0 else 1) < 30))=true:=by rfl)
    (hline:(apos.endLine==cpos.line)=true:=by rfl) (hs:starEach [e] X.env=(false,eval e X.env)::starEach [] X.env:=by rfl) (hplain:(backTo cpos (starEach [] X.env)).any (·.1)=false:=by rfl):
    AE X G (.Call (.Attribute o "extend" apos) [e] [] cpos) (aExt to te):=by
  refine ⟨aExt.mono ho.mono he.mono,PE.imp (pe_bm PySem.F.plainAttrs_list PySem.F.slot_list_extend PySem.F.type_list_extend mt_extend ho.pe (C5 (es:=[]) he D7 hs).pa hbase hfew hline hs hplain) fun σ H Q ⟨env,h,S,q⟩=> ?_⟩
  refine ⟨env,h,S,ho.mono env h _ _ (fun ro env1 h1 ⟨is,z⟩ x H1 S1 x1 r1 f1=> ?_) q⟩
  have ty:tyV X.K "list" x H1:=by
    cases e:N4 env1 h1 ro with
    | none=> rw [e] at is;exact is.elim
    | some c=>
      cases c with
      | map _=> rw [e] at is;exact is.elim
      | seq xs=>
        obtain ⟨p,rfl,⟨vs,l,_⟩,_⟩:=A2f S1 r1 e
        exact .inl ⟨rfl,_,.inl (.inl l)⟩
  refine ⟨ty,env1,h1,S1,he.mono env1 h1 _ _ (fun re env2 h2 z vs H2 S2 x2 r2=> ?_) z⟩
  cases r2 with
  | cons rb rr=>
    cases rr
    have rv:=rb.vr S2
    split at z
    · rename_i ys ey
      rw [ey] at rv
      obtain ⟨b,rfl,vb,lb,rlb⟩:=rv
      split at z
      · rename_i xs ex
        obtain ⟨p,rfl,⟨us,lu,rlu⟩,put⟩:=A2f S2 (r1.xt S1 x2) ex
        refine ⟨p,b,us,vb,rfl,rfl,lu,lb,by rw [←rlu.length,←rlb.length];exact z.1,?_⟩
        obtain ⟨S3,x3⟩:=put (.lst (us++vb)) (.seq (xs++ys)) fun kk=> ⟨_,upd_same,RepL.mono kk _ _ (rlu.append rlb)⟩
        exact z.2 .non _ S3 (x1.trans (x2.trans x3)) (show Rep G.K _ _ _ from .non) trivial
      · exact z.elim
    · exact z.elim
end
end Ab
namespace Ab
open PySem PySem.Spec PyProof.Rows L2 RZ
def A5i (i:Nat) (t:AT):C4:=fun D env h=> t env h fun r env1 h1=> match r with
  | .own c=> D.nx (env1.set i (some (.own c))) h1
  | _=> False
section
variable {X:Cx} {G:Gx} {i:Nat} {y:Str} {py:Pos} {elt tg iter:Expr} {ifs:List Expr} {scope:Scope} {own:List (Str×Nat)} {pos spos:Pos} {ti:Q9} {g:H8} {tt:G3} {te:B9} {sl:List Nat}
theorem B4M (hc:X.calm=true) (hN:X.N.Nodup) (hy:X.N[i]? =some y) (hk:X.env.scope.kind= .function) (hyl:X.env.scope.names.lookup y=some .local) (hi:AI X G tg iter ti) (ok:BlkOk X.N X.env.scope scope own) (hsl:∀i∈sl,i∈own.map (·.2))
    (hg:∀(s:Shared) (H:Hp) (C:Addr) (cl:List (Str×Addr)) (fp:List Addr),AG (X.blk s H scope (compEnvC scope cl C X.env) fp) G tg sl g) (ht:∀(s:Shared) (H:Hp) (C:Addr) (cl:List (Str×Addr)) (fp:List Addr),APs (X.blk s H scope (compEnvC scope cl C X.env) fp) G ifs tt)
    (he:∀(s:Shared) (H:Hp) (C:Addr) (cl:List (Str×Addr)) (fp:List Addr),AV (X.blk s H scope (compEnvC scope cl C X.env) fp) G elt te)
    (hl:(py.line==pos.line)=true:=by rfl) (hany:(scope.names.any fun (n,k)=> n==y && (k== .local || k== .cell))=false:=by rfl) (hs:∀x,foldedSetIterable iter X.env x=pure x:=by intro _;rfl):
    AS X G (.Assign [.Name y py] (.ListComp elt [⟨tg,iter,ifs,0⟩] scope pos) spos) (A5i i (P6 (own.map (·.2)) ti g tt te)):=by
  have mg:=(hg X.s_0 X.H_0 0 [] []).mono
  have mt:=(ht X.s_0 X.H_0 0 [] []).mono
  have me:=(he X.s_0 X.H_0 0 [] []).mono
  have mo:B0 (P6 (own.map (·.2)) ti g tt te):=fun env h Q Q' k q=> hi.mono env h _ _ (fun ws e1 h1 z=> lcLoop.mono mg mt me (fun a e h q=> k _ _ _ q) ws [] e1 h1 z) q
  refine ⟨fun D D' env h l q=> mo env h _ _ (fun r e k z=> ?_) q,PS.imp (ps_setLc hc hN hy hyl (sw_true hk hyl hl hany) hi.pi ok (fun s H C cl fp=> (hg s H C cl fp).pg) (fun s H C cl fp=> (ht s H C cl fp).pts) (fun s H C cl fp=> (he s H C cl fp).pe) hs) fun D σ H ⟨env,h,Da,S,q,l⟩=> ?_⟩
  · split at z
    · exact l.nx _ _ z
    · exact z
  · refine A9D hi hsl mg mt me ⟨env,h,S,mo env h _ _ (fun r env1 h1 z v H1 S1 x1 r1 f1=> ?_) q⟩
    split at z
    · exact l.nx _ _ _ _ (S1.set i r1 trivial) (x1.keeps S) z
    · exact z.elim
end
end Ab
namespace Ab
open PySem PySem.Spec PyProof.Rows L2 RZ
section
variable {X:Cx} {G:Gx} {es:List Expr} {k n:Nat} {u:x8} {sl:List Nat} {pos:Pos}
theorem PG.or {tg:Expr} {t t':TG} (a:PG X tg t) (b:PG X tg t'):PG X tg (fun v σ H Q=> t v σ H Q∨t' v σ H Q):=⟨fun pins s σ H v u Q I r q=> q.elim (fun z=> a.run pins s σ H v u Q I r z) fun z=> b.run pins s σ H v u Q I r z⟩
end
end Ab
namespace Ab
open PySem PySem.Spec PyProof.Rows L2 RZ
section
variable (l:Addr) (items:Array Value) (n:Nat) (dd:Option Addr) (sl:Array (Option Value)) (x:Int) (u:Tok)
abbrev B0Q:Obj:={ cls:= .type "tuple",dict:=dd,data:= .seq items n,slots:=sl }
theorem B32 (u:Tok):Meets (Builtin.«tuple.__mul__» ⟨[.ref l,.int 1 u],[]⟩)
    (fun _ R s=> s.heap.get? l=some (B0Q items n dd sl)∧R (.ok (.ret (Value.ref l))) s):=
  .of_wp fun prog w A R s h=> by
    obtain ⟨hp,g,d,tk,os⟩:=s
    obtain ⟨hl,h⟩:=h
    have f1:=AutoSeq1.idx_int
    have c0:(decide ((1:Int) < -(2 ^ 63)) || decide ((1:Int)≥2 ^ 63))=false:=by decide
    have c1:(items.isEmpty || (1:Int)==1)=true:=by simp
    wp_walk using wpAny_loadPart' hl
    repeat (first
      | (apply wpAny_ite_false (decide_eq_false (by rw [c0];decide));wp_walk using wpAny_loadPart' hl)
      | (apply wpAny_ite_true (decide_eq_true c1);wp_walk using wpAny_loadPart' hl))
    all_goals first | exact ⟨_,rfl,h⟩ | skip
theorem B4C (hx:x≤0) (hx2: -(2 ^ 63)≤x) (hi:items.isEmpty=false):Meets (Builtin.«tuple.__mul__» ⟨[.ref l,.int x u],[]⟩)
    (fun _ R s=> s.heap.get? l=some (B0Q items n dd sl)∧
      R (.ok (.ret (Value.ref s.heap.objs.size))) { s with heap:=s.heap.push { cls:=Value.type "tuple",data:=Data.seq #[] },toks:=s.toks }):=
  .of_wp fun prog w A R s h=> by
    obtain ⟨hp,g,d,tk,os⟩:=s
    obtain ⟨hl,h⟩:=h
    have f1:=AutoSeq1.idx_int
    have c0:(decide (x < -(2 ^ 63)) || decide (x≥2 ^ 63))=false:=by
      rw [decide_eq_false (by omega),decide_eq_false (by omega)]
      rfl
    have c1:(items.isEmpty || x==1)=false:=by
      rw [hi,Bool.false_or]
      exact beq_eq_false_iff_ne.mpr (by omega)
    have c2:(decide (x≤0) || items.isEmpty)=true:=by
      rw [decide_eq_true hx]
      rfl
    wp_walk using wpAny_loadPart' hl
    repeat (first
      | (apply wpAny_ite_false (decide_eq_false (by rw [c0];decide));wp_walk using wpAny_loadPart' hl)
      | (apply wpAny_ite_false (decide_eq_false (by rw [c1];decide));wp_walk using wpAny_loadPart' hl)
      | (apply wpAny_ite_true (decide_eq_true c2);wp_walk using wpAny_loadPart' hl))
    all_goals first | exact ⟨_,rfl,h⟩ | skip
end
def A99 (K:PySem.W.Frag):R2:=fun x y H Q=> ∃l k xs,x= .ref l∧y= .int k∧SqT K H l xs∧xs≠[]∧ -(2 ^ 63)≤k∧k≤1000∧xs.length≤1000∧
  (k=1→Q (.ref l) H)∧(k≠1→∀p,H p=none→Q (.ref p) (upd H p (.tup (List.replicate k.toNat xs).flatten)))
theorem B4g {X:Cx}:OpR X (binaryOp .Mult) (A99 X.K):=by
  intro pins s σ H x y v u Q I rx ry h
  obtain ⟨l,k,xs,rfl,rfl,hT,hne,h1,h2,hz,q1,q⟩:=h
  by_cases k2:2≤k
  · exact op_repT pins s σ H _ _ v u Q I rx ry ⟨l,k,xs,rfl,rfl,hT,hne,k2,h2,hz,q (by omega)⟩
  cases rx
  obtain ⟨t,rfl⟩:=ry
  obtain ⟨its,r,⟨⟨cls,dd,data,sl⟩,ho,hc,n,hd⟩,hs⟩:=I.tuple hT
  simp only at hc hd
  subst hc hd
  have hle:its.length=xs.length:=r.length.symm
  have hi:its.toArray.isEmpty=false:=by
    cases its with
    | nil=> exact absurd (List.eq_nil_of_length_eq_zero hle.symm) hne
    | cons a b=> rfl
  have road:∀{R:Value→Shared→Prop} {E:Value→Shared→Prop},wpAny (model X.prog X.w) X.A (call (.builtin "tuple.__mul__") [.ref l,.int k t]) R E s→wpAny (model X.prog X.w) X.A (binaryOp .Mult (.ref l) (.int k t)) R E s:=fun {R E} z=>
    wpAny_binaryOp_repeat_ref (T:="tuple") (U:="int") (by decide) ⟨_,ho,rfl⟩ (fun s'=> typeIs_int s' k t) noFill_tuple_mul F.fills_int_mul F.slot_int_rmul repeat_tuple F.slot_int_index.lookup
      (call_meets F.slot_int_rmul (typeIs_int s k t) F.entry_int_rmul (F.args_int_rmul_2 _ _) (int_rmul_tuple k t l its.toArray n dd sl) ⟨ho,rfl,⟨_,ho,rfl⟩,z⟩)
  by_cases k1:k=1
  · subst k1
    exact road (call_meets F.slot_tuple_mul ⟨_,ho,rfl⟩ F.entry_tuple_mul (F.args_tuple_mul_2 _ _) (B32 l its.toArray n dd sl t) ⟨ho,.ref l,H,I,rfl,q1 rfl⟩)
  · refine road (call_meets F.slot_tuple_mul ⟨_,ho,rfl⟩ F.entry_tuple_mul (F.args_tuple_mul_2 _ _) (B4C l its.toArray n dd sl k t (by omega) h1 hi) ⟨ho,?_⟩)
    have ek:k.toNat=0:=by omega
    have z:=q k1 s.heap.objs.size (I.hok.fresh (Nat.le_refl _))
    rw [ek] at z
    exact ⟨.ref s.heap.objs.size,_,I.laid (t':=s.toks) (o:= .tup []) (fun b ob q=> Heap.get?_push_of_some _ q) (Nat.le_refl _) ⟨by decide,_,.nil,IsTup.new _ _⟩,rfl,z⟩
def oMulT:I7:=fun a b Q=> match b with
  | .wv (.int j)=> match a with
    | .wv (.int i)=> CMulW i j∧Q (.val (.int (i*j)))
    | .cv (.seq xs)=> (-(2 ^ 63)≤j∧j < 2 ^ 63∧xs.length*j.toNat≤sizeLine)∧Q (.own (.seq (List.replicate j.toNat xs).flatten))
    | .wv (.tup xs)=> (-(2 ^ 63)≤j∧j≤1000∧1≤xs.length∧xs.length≤1000)∧Q (.val (.tup (List.replicate j.toNat xs).flatten))
    | _=> False
  | _=> False
theorem oMulT.mono (a b:Vw) (Q Q':RV→Prop) (k:∀r,Q r→Q' r) (q:oMulT a b Q):oMulT a b Q':=by
  unfold oMulT at q ⊢
  split at q
  · split at q
    · exact ⟨q.1,k _ q.2⟩
    · exact ⟨q.1,k _ q.2⟩
    · exact ⟨q.1,k _ q.2⟩
    · exact q
  · exact q
theorem B3j {K:PySem.W.Frag}:OpA K (fun x y H Q=> (rI CMulW (fun i j=> .int (i*j)) x y H Q∨rRep x y H Q)∨A99 K x y H Q) oMulT:=
  ⟨oMulT.mono,fun a b x y H Q0 Q ra rb q k=> by
    unfold oMulT at q
    split at q
    · rename_i j
      have ey:y= .int j:=rb.int
      split at q
      · rename_i i
        have ex:x= .int i:=ra.int
        exact .inl (.inl ⟨i,j,ex,ey,q.1,k _ _ (.val q.2 .int)⟩)
      · rename_i xs
        obtain ⟨p,ex,vs,l,rl⟩:=ra
        exact .inl (.inr ⟨p,j,vs,ex,ey,l,q.1.1,q.1.2.1,by rw [←rl.length];exact q.1.2.2,fun p' n=> k _ _ (.lst n q.2 (rl.rep _))⟩)
      · rename_i xs
        obtain ⟨p,vs,ex,l,rl⟩:=Rep.of_tupT (K:=K) (H:=H) ra
        refine .inr ⟨p,j,vs,ex,ey,l.sq,fun e=> ?_,q.1.1,q.1.2.1,by rw [←rl.length];exact q.1.2.2.2,fun e=> ?_,fun _ p' n=> k _ _ (.tup n q.2 (rl.rep _))⟩
        · have:=rl.length
          rw [e] at this
          have:=q.1.2.2.1
          simp_all
        · subst e
          have q2:=q.2
          rw [show (1:Int).toNat=1 from rfl] at q2
          simp only [List.replicate,List.flatten_cons,List.flatten_nil,List.append_nil] at q2
          exact k _ _ (.val q2 (.tup l rl))
      · exact q.elim
    · exact q.elim⟩
theorem A0v {X:Cx} {G:Gx} {a b:Expr} {ta tb:AT} {pos:Pos} (gk:G.K=X.K) (ha:AE X G a ta) (hb:AE X G b tb):AE X G (.BinOp a .Mult b pos) (aOp2 oMulT ta tb):=A08 ((op_mulW.or op_rep).or B4g) (gk▸B3j) ha hb
end Ab
namespace HT
open PySem PySem.Spec PyProof.Rows
section
variable {prog:Program} {w:World} {A:Around} {E:Value→Shared→Prop} {s:Shared}
end
end HT
namespace Ab
open PySem PySem.Spec PyProof.Rows L2 RZ
section
variable {X:Cx} {e st:Expr} {te ts:TE} {pos p2:Pos}
end
theorem RepL.reverse {K:PySem.W.Frag} {H:Hp}:∀{ws:List W} {vs:List V},RepL K H ws vs→RepL K H ws.reverse vs.reverse
  | [],vs,h=> by rw [h.of_nil];exact .nil
  | w::ws,vs,h=> by
    obtain ⟨v,r,rfl,a,t⟩:=h.of_cons
    rw [List.reverse_cons,List.reverse_cons]
    exact t.reverse.append (.cons a .nil)
def oBack:I6:=fun as Q=> match as with
  | [.wv (.tup xs),.wv (.int i)]=> i= -1∧Q (.val (.tup xs.reverse))
  | _=> False
theorem oBack.mono {as:List Vw} {Q Q':RV→Prop} (k:∀r,Q r→Q' r) (q:oBack as Q):oBack as Q':=by
  unfold oBack at q ⊢
  split at q
  · exact ⟨q.1,k _ q.2⟩
  · exact q.elim
section
variable {X:Cx} {G:Gx} {a st:Expr} {ta ts:AT} {pos p2:Pos}
end
end Ab
namespace Ab
open PySem PySem.Spec PyProof.Rows L2 RZ
def ins (a:Int):List Int→List Int
  | []=> [a]
  | b::r=> if a≤b then a::b::r else b::ins a r
def srt:List Int→List Int
  | []=> []
  | a::r=> ins a (srt r)
def A8m:I6:=oInts fun ns Q=> Q (.own (.seq ((srt ns).map W.int)))
end Ab
namespace Ab
open PySem PySem.Spec PyProof.Rows L2 RZ
section
variable {G:Gx} {env env' env2:A1} {h h':AH} {σ:L2.St} {H H1 H2:Hp} {p:Addr}
theorem BS.tmp (S:BS G env h σ H) {u o':HO} (e:H p=some u) (m:Mu u) (n:h p=none) (n0:G.H0 p=none) (no:¬OwnAt env σ p):BS G env h σ (upd H p o'):=by
  have keep:Keeps H (upd H p o'):=fun q o e' i=> by
    have n:q≠p:=fun z=> by rw [z,e] at e';cases e';exact m.imm i
    rw [upd_ne n];exact e'
  refine ⟨S.len,fun i w z=> ?_,fun i c z=> ?_,S.uni,fun a o z=> ?_,fun q o z y t=> ?_,S.ext,fun q o z=> ?_,S.tabs.upd fun o z=> (by rw [e] at z;cases z;exact m)⟩
  · obtain ⟨v,a,b⟩:=S.val i w z
    exact ⟨v,a,Rep.mono keep w v b⟩
  · obtain ⟨q,a,b,d,f⟩:=S.own i c z
    have nq:q≠p:=fun y=> no ⟨i,c,z,by rw [a,y]⟩
    exact ⟨q,a,b.mono keep (upd_ne nq),d,f⟩
  · have na:a≠p:=fun y=> by rw [y,n] at z;cases z
    exact (S.hp a o z).mono keep (upd_ne na)
  · have nq:q≠p:=fun x=> by rw [x,n0] at z;cases z
    rw [upd_ne nq];exact S.fr q o z y t
  · by_cases hq:q=p
    · subst hq;exact ⟨_,upd_same⟩
    · obtain ⟨u',e'⟩:=S.tr q o z
      exact ⟨u',by rw [upd_ne hq];exact e'⟩
theorem Xt.tmp {o':HO} (x:Xt env h σ H env' h' H1) (f:H p=none):Xt env h σ H env' h' (upd H1 p o'):=by
  refine ⟨fun q o e n w t=> ?_,x.hn,fun q o e=> ?_,x.sl⟩
  · have nq:q≠p:=fun y=> by rw [y,f] at e;cases e
    rw [upd_ne nq];exact x.fr q o e n w t
  · by_cases hq:q=p
    · subst hq;exact ⟨_,upd_same⟩
    · rw [upd_ne hq];exact x.th q o e
end
def W8 {α:Type}:List (α×α)→List α
  | []=> []
  | p::r=> p.1::p.2::W8 r
structure AD (X:Cx) (G:Gx) (pos:Pos) (keys:List (Option Expr)) (values:List Expr) (t:E4):Prop where
  mono:B0 t
  all:keys.all (·.isSome)=true
  len:keys.length=values.length
  pp:∃trs,PPs X pos keys values trs∧∀σ H Q env h,BS G env h σ H→(t env h fun ws env' h'=> ∀ps H',BS G env' h' σ H'→Xt env h σ H env' h' H'→RepL G.K H' ws (W8 ps)→Q ps H')→tPairs trs σ H Q
section
variable {X:Cx} {G:Gx} {pos:Pos}
theorem B5j:AD X G pos [] [] aNil:=⟨aNil.mono,rfl,rfl,[],pps_nil,fun σ H Q env h S q=> q [] H S .refl .nil⟩
theorem A2b {k v:Expr} {ks:List (Option Expr)} {vs:List Expr} {tk tv:B9} {t:E4} (a:AV X G k tk) (b:AV X G v tv) (c:AD X G pos ks vs t):AD X G pos (some k::ks) (v::vs) (aCons tk (aCons tv t)):=by
  obtain ⟨m,al,ln,trs,pp,cc⟩:=c
  refine ⟨aCons.mono a.mono (aCons.mono b.mono m),by rw [List.all_cons,al];rfl,by rw [List.length_cons,List.length_cons,ln],_,pps_cons a.pe b.pe pp,fun σ H Q env h S q=> ?_⟩
  show cV G tk σ H _
  refine ⟨env,h,S,a.mono env h _ _ (fun w env1 h1 z x H1 S1 x1 r1=> ?_) q⟩
  show cV G tv σ H1 _
  refine ⟨env1,h1,S1,b.mono env1 h1 _ _ (fun w2 env2 h2 z y H2 S2 x2 r2=> ?_) z⟩
  refine cc σ H2 _ env2 h2 S2 (m env2 h2 _ _ (fun ws env3 h3 z ps H3 S3 x3 r3=> ?_) z)
  exact z ((x,y)::ps) H3 S3 (x1.trans (x2.trans x3)) (.cons (Rep.mono (x3.keeps S2) _ _ (Rep.mono (x2.keeps S1) _ _ r1)) (.cons (Rep.mono (x3.keeps S2) _ _ r2) r3))
theorem B3e {K:PySem.W.Frag} {H:Hp} {w:W} {v:V} {k:Key} (r:Rep K H w v) (e:V7 w=some k):v=kV k:=by
  cases w with
  | int i=> cases e;exact Rep.of_int r
  | str x=> cases e;exact Rep.of_str r
  | _=> cases e
def A6b (t:E4):AT:=fun env h Q=> t env h fun ws env' h'=> ∃(kvs:List (W×W)) (ks:List Key),ws=W8 kvs∧kvs.map (fun p=> V7 p.1)=ks.map some∧ks.Nodup∧kvs.length≤15∧Q (.own (.map kvs)) env' h'
theorem A8G {K:PySem.W.Frag} {H:Hp}:∀{kvs:List (W×W)} {ks:List Key} {ps:List (V×V)},RepL K H (W8 kvs) (W8 ps)→kvs.map (fun p=> V7 p.1)=ks.map some→
    ∃qs:List (Key×V),ps=qs.map (fun kv=> (kV kv.1,kv.2))∧qs.map (·.1)=ks∧RepL K H (kvs.map (·.2)) (qs.map (·.2))
  | [],[],[],_,_=> ⟨[],rfl,rfl,.nil⟩
  | [],[],q::ps,r,_=> by
    have z:=r.of_nil
    cases z
  | [],k::ks,_,_,e=> by cases e
  | p::kvs,[],_,_,e=> by cases e
  | p::kvs,k::ks,[],r,_=> by
    obtain ⟨v,r1,e1,_⟩:=RepL.of_cons (w:=p.1) (ws:=p.2::W8 kvs) r
    cases e1
  | p::kvs,k::ks,q::ps,r,e=> by
    obtain ⟨v,r1,e1,a,b⟩:=RepL.of_cons (w:=p.1) (ws:=p.2::W8 kvs) r
    cases e1
    obtain ⟨v2,r2,e2,a2,b2⟩:=RepL.of_cons b
    cases e2
    rw [List.map_cons,List.map_cons] at e
    injection e with e1 e2
    obtain ⟨qs,x1,x2,x3⟩:=A8G b2 e2
    refine ⟨(k,q.2)::qs,?_,by rw [List.map_cons,x2],.cons a2 x3⟩
    rw [List.map_cons,←x1,←B3e a e1]
theorem A7d:∀{qs acc:List (Key×V)},(acc.map (·.1)++qs.map (·.1)).Nodup→mergeK acc qs=acc++qs
  | [],acc,_=> by rw [List.append_nil];rfl
  | q::qs,acc,h=> by
    have nq:valV acc q.1=none:=by
      unfold valV
      rw [List.find?_eq_none.mpr fun x hx=> ?_]
      · rfl
      · intro e
        have e:=of_decide_eq_true e
        have:=(List.nodup_append.mp h).2.2 x.1 (List.mem_map.mpr ⟨x,hx,rfl⟩) q.1 (by simp)
        exact this e
    show mergeK (putK acc q.1 q.2) qs=_
    rw [putK_new _ nq,A7d (by simpa using h),List.append_assoc]
    rfl
theorem B4q {keys:List (Option Expr)} {values:List Expr} {t:E4} (a:AD X G pos keys values t) (h0:keys≠[]) (h15:keys.length≤15):AE X G (.Dict keys values pos) (A6b t):=by
  obtain ⟨m,al,ln,trs,pp,cc⟩:=a
  refine ⟨fun env h Q Q' k q=> m env h _ _ (fun ws e g ⟨kvs,ks,z1,z2,z3,z4,z5⟩=> ⟨kvs,ks,z1,z2,z3,z4,k _ _ _ z5⟩) q,PE.imp (pe_disp pp al ln h0 h15) fun σ H Q ⟨env,h,S,q⟩ p n=> ?_⟩
  obtain ⟨n1,n2,n3⟩:=S.noAt n
  have nw:New H (upd H p (.dK [])):=New.upd n
  refine cc σ _ _ env h (nw.bs S) (m env h _ _ (fun ws env1 h1 z ps H2 S2 x2 r2=> ?_) q)
  obtain ⟨kvs,ks,rfl,z2,z3,z4,z5⟩:=z
  obtain ⟨qs,rfl,y2,y3⟩:=A8G r2 z2
  have e2:H2 p=some (.dK []):=x2.fr p _ upd_same n1 n3 (Mu.nt (o:= .dK []) trivial)
  have lq:qs.length=kvs.length:=by have:=congrArg List.length z2;have:=congrArg List.length y2;simp at*;omega
  refine ⟨e2,qs,rfl,by omega,?_⟩
  rw [A7d (acc:=[]) (by rw [List.map_nil,List.nil_append,y2];exact z3),List.nil_append]
  have h1p:h1 p=none:=by
    cases w:h1 p with
    | none=> rfl
    | some o=>
      have:=x2.hn p o w n1
      rw [upd_same] at this
      cases this
  have no:¬OwnAt env1 σ p:=fun y=> n3 (x2.own y)
  have S3:BS G env1 h1 σ (upd H2 p (.dK qs)):=S2.tmp e2 trivial h1p n2 no
  have x3:Xt env h σ H env1 h1 (upd H2 p (.dK qs)):=(nw.xt.trans x2).tmp n
  have keep:Keeps H2 (upd H2 p (.dK qs)):=fun q o e' i=> by
    have n:q≠p:=fun z=> by rw [z,e2] at e';cases e';exact i.elim
    rw [upd_ne n];exact e'
  refine z5 _ _ S3 x3 ⟨p,rfl,.inl ⟨qs,upd_same,?_,RepL.mono keep _ _ y3⟩,h1p,n2,no⟩ (fun q e=> by cases e;exact n)
  rw [List.map_map,show kvs.map (V7∘fun x=> x.1)=kvs.map (fun p=> V7 p.1) from rfl,z2,←y2,List.map_map]
  rfl
end
end Ab
namespace Ab
open PySem PySem.Spec PyProof.Rows L2 RZ
def B0H (kvs:List (W×W)) (k:Key) (d:W):W:=((kvs.find? fun p=> decide (V7 p.1=some k)).map (·.2)).getD d
def A92 (kvs:List (W×W)):Prop:=kvs≠[]∧∀p∈kvs,(V7 p.1).isSome=true
def aGetD (i:Nat) (tk td:B9):AT:=fun env h Q=> (∃kvs,env[i]? =some (some (.own (.map kvs))))∧tk env h fun w env1 h1=> td env1 h1 fun d env2 h2=>
  ∃kvs key,env2[i]? =some (some (.own (.map kvs)))∧A92 kvs∧V7 w=some key∧Q (.val (B0H kvs key d)) env2 h2
theorem aGetD.mono {i:Nat} {tk td:B9} (m:B0 tk) (n:B0 td):B0 (aGetD i tk td):=fun env h Q Q' k q=>
  ⟨q.1,m env h _ _ (fun w e g z=> n e g _ _ (fun d e g ⟨kvs,key,z1,z2,z3,z4⟩=> ⟨kvs,key,z1,z2,z3,k _ _ _ z4⟩) z) q.2⟩
section
variable {X:Cx} {G:Gx}
end
end Ab
namespace Ab
open PySem PySem.Spec PyProof.Rows L2 RZ
section
variable {X:Cx} {G:Gx}
def aPrm (t:AT):B9:=fun env h Q=> t env h fun r env' h'=> match r with
  | .own c=> ∀p,h' p=none→Q (.ref p) env' (H7 h' p (.cont c))
  | _=> False
theorem aPrm.mono {t:AT} (m:B0 t):B0 (aPrm t):=fun env h Q Q' k q=> m env h _ _ (fun r e g z=> by
  cases r with
  | own c=> exact fun p n=> k _ _ _ (z p n)
  | val w=> exact z.elim
  | slot i=> exact z.elim) q
def B59 (h:AH) (p:Addr):AH:=fun b=> if b=p then none else h b
def demL:List W→AH→(List W→AH→Prop)→Prop
  | [],h,Q=> Q [] h
  | w::ws,h,Q=> match w with
    | .ref p=> (match h p with
      | some (.cont c)=> demL ws (B59 h p) fun us h'=> Q (c.fz::us) h'
      | _=> False)
    | _=> False
theorem demL.mono:∀{ws:List W} {h:AH} {Q Q':List W→AH→Prop},(∀us h',Q us h'→Q' us h')→demL ws h Q→demL ws h Q'
  | [],h,Q,Q',k,q=> k _ _ q
  | w::ws,h,Q,Q',k,q=> by
    cases w with
    | ref p=>
      unfold demL at q ⊢
      dsimp only at q ⊢
      split at q
      · exact demL.mono (fun us h' q=> k _ _ q) q
      · exact q.elim
    | _=> exact q.elim
end
end Ab
namespace Ab
open PySem PySem.Spec PyProof.Rows L2 LamX
def A25 (f:Addr) (q:Str) (params:Arguments) (body:Expr) (scope:Scope) (cl:List (Str×Addr)) (c:Addr):HO:=
  .ext fun h=> ∃pm ctv:Value,h.get? f=some (PySem.W.kla_obj "<lambda>" q params body scope cl pm c ctv)
theorem B48 {f c:Addr} {q:Str} {params:Arguments} {body:Expr} {scope:Scope} {cl:List (Str×Addr)}:NT (A25 f q params body scope cl c):=fun ps e=> by
  unfold A25 at e;cases e
theorem B4E {c:Addr} {q:Str}:NT (CodeO c q):=fun ps e=> by
  unfold CodeO at e;cases e
section
variable {X:Cx} {pins:List (Addr×Obj)} {σ:L2.St} {H:Hp} {s:Shared} {T:List (Addr×Str)} {c P:Addr} {params:Arguments} {body:Expr} {scope:Scope} {pos:Pos}
structure Made (X:Cx) (T:List (Addr×Str)) (P:Addr) (params:Arguments) (body:Expr) (scope:Scope) (H H1:Hp) (f c:Addr):Prop where
  but:∀b o,H b=some o→b≠P→H1 b=some o
  tab:∃ps,H1 P=some (.tbl ps)
  tabs:Tabs T H1
  new:H f=none
  lam:H1 f=some (A25 f (X.env.qual++"<lambda>") params body scope (cloFrom X.env.cells scope.names []) c)
  code:H1 c=some (CodeO c (X.env.qual++"<lambda>"))
end
end Ab
namespace Ab
open PySem PySem.Spec PyProof.Rows L2 LamX
abbrev ALT:=A1→AH→(Addr→List W→A1→AH→Prop)→Prop
def B6a (t:ALT):Prop:=∀env h Q Q',(∀f ws e k,Q f ws e k→Q' f ws e k)→t env h Q→t env h Q'
structure LamD where
  params:Arguments
  body:Expr
  scope:Scope
def LamF (X:Cx) (d:LamD) (H:Hp) (f:Addr):Prop:=
  ∃c,H f=some (A25 f (X.env.qual++"<lambda>") d.params d.body d.scope (cloFrom X.env.cells d.scope.names []) c)∧H c=some (CodeO c (X.env.qual++"<lambda>"))
def cL (X:Cx) (G:Gx) (d:LamD) (t:ALT):TA:=fun σ H Q=> ∃env h,BS G env h σ H∧t env h fun f ws env' h'=> ∀vs H',BS G env' h' σ H'→Xt env h σ H env' h' H'→RepL G.K H' ws vs→LamF X d H' f→Q vs H'
structure AL (X:Cx) (G:Gx) (d:LamD) (es:List Expr) (n:Nat) (t:ALT):Prop where
  mono:B6a t
  pa:PA X es (cL X G d t)
  ln:∀env h (R:Addr→List W→A1→AH→Prop),t env h R→t env h fun f ws e g=> ws.length=n∧R f ws e g
theorem BS.nmu {G:Gx} {env:A1} {h:AH} {σ:L2.St} {H:Hp} (S:BS G env h σ H) {p:Addr} {o:HO} (e:H p=some o) (i:¬Mu o):h p=none∧¬OwnAt env σ p:=by
  refine ⟨?_,fun ⟨j,c,a,b⟩=> ?_⟩
  · cases q:h p with
    | none=> rfl
    | some u=>
      obtain ⟨o',e',m⟩:=(S.hp p u q).there
      rw [e] at e';cases e'
      exact absurd m i
  · obtain ⟨p',b',cr,_⟩:=S.own j c a
    rw [b] at b';cases b'
    exact i (cr.mu_at e)
theorem BS.but {G:Gx} {env:A1} {h:AH} {σ:L2.St} {H H1:Hp} (S:BS G env h σ H) (b:∀p o,H p=some o→NT o→H1 p=some o) (th:∀p o,H p=some o→∃u,H1 p=some u) (t:TabsK G.K H1):
    BS G env h σ H1∧Xt env h σ H env h H1:=by
  have k:Keeps H H1:=fun p o e i=> b p o e i.nt
  refine ⟨⟨S.len,fun i w e=> ?_,fun i c e=> ?_,S.uni,fun a o e=> ?_,fun p o e n y=> b p o (S.fr p o e n y) y,S.ext,fun p o e=> ?_,t⟩,⟨fun p o e _ _ y=> b p o e y,fun p o e n=> (by rw [n] at e;cases e),th,fun i c e=> ⟨c,e⟩⟩⟩
  · obtain ⟨v,x,y⟩:=S.val i w e
    exact ⟨v,x,Rep.mono k w v y⟩
  · obtain ⟨p,x,y,n,n0⟩:=S.own i c e
    obtain ⟨o,eo,m⟩:=y.there
    exact ⟨p,x,y.mono k ((b p o eo m.nt).trans eo.symm),n,n0⟩
  · obtain ⟨u,eu,m⟩:=(S.hp a o e).there
    exact (S.hp a o e).mono k ((b a u eu m.nt).trans eu.symm)
  · obtain ⟨u,y⟩:=S.tr p o e
    exact th p u y
section
variable {X:Cx} {G:Gx} {d:LamD} {e:Expr} {es:List Expr} {c P:Addr} {pos:Pos} {n:Nat}
theorem B2q {f c:Addr} {q:Str} {params:Arguments} {body:Expr} {scope:Scope} {cl:List (Str×Addr)}:¬Mu (A25 f q params body scope cl c):=fun z=> z
theorem B10 {c:Addr} {q:Str}:¬Mu (CodeO c q):=fun z=> z
theorem LamF.xt {env env':A1} {h h':AH} {σ:L2.St} {H H':Hp} {f:Addr} (S:BS G env h σ H) (x:Xt env h σ H env' h' H') (l:LamF X d H f):LamF X d H' f:=by
  obtain ⟨c,a,b⟩:=l
  obtain ⟨a1,a2⟩:=S.nmu a B2q
  obtain ⟨b1,b2⟩:=S.nmu b B10
  exact ⟨c,x.fr _ _ a a1 a2 B48,x.fr _ _ b b1 b2 B4E⟩
structure LamAt (X:Cx) (d:LamD) (c P:Addr):Prop where
  TB:TabB X.base X.mg c P
  code:X.env.code= .ref c
  mem:(P,X.env.qual++"<lambda>")∈A2e X.K
  uni:∀p∈A2e X.K,p.1=P→p.2=X.env.qual++"<lambda>"
  dfl:defaultsOf d.params X.env=([],[])
  free:X.Ok→∀y∈d.scope.names,y.2= .free→∃c,X.env.cells.lookup y.1=some c
end
structure LamP (sc scope:Scope) (N ps:List Str):Prop where
  kind:scope.kind= .function
  co:scope.isCoroutine=false
  gen:scope.isGenerator=false
  own:∀y∈scope.names,y.2≠ .cell∧(y.2= .local→y.1∈ps)
  par:∀x∈ps,scope.names.lookup x=some .local∧x∉N
  nd:ps.Nodup
  free:∀y∈scope.names,y.2= .free→sc.names.lookup y.1=some .cell∨sc.names.lookup y.1=some .free
theorem LamP.has {X:Cx} {scope:Scope} {N ps:List Str} (L:LamP X.env.scope scope N ps) (ok:X.Ok):∀y∈scope.names,y.2= .free→∃c,X.env.cells.lookup y.1=some c:=fun y hy e=>
  (L.free y hy e).elim (fun k=> ok.has _ (.inl k)) fun k=> ok.has _ (.inr k)
end Ab
namespace Ab
open PySem PySem.Spec PyProof.Rows L2 LamX
section
variable {X:Cx} {pins:List (Addr×Obj)} {σ:L2.St} {H HZ:Hp} {s s1:Shared}
end
structure LamHas (Z:Cx) (G:Gx) (f:Addr) (n:Nat) (sp:F5):Prop where
  m:P7 sp
  fn:∀(s:Shared) (H:Hp),(∀p o,G.H0 p=some o→G.h0 p=none→NT o→H p=some o)→HOk Z.prog Z.w H s.heap→PySem.W.FnAt f s.heap
  run:∀(s:Shared) (H:Hp) (us:List Value) (vs:List V) (Q:VK) (E:XK),(∀p o,G.H0 p=some o→G.h0 p=none→NT o→H p=some o)→Un Z.fs [] Z.H_0 H Z.s_0.heap s.heap→Env0 Z.prog Z.w Z.K Z.mg Z.base Z.A Z.stack s H→Vals vs us→g9 Z.K n sp vs H Q E→
    codeAny (model Z.prog Z.w) Z.A (.call (.ref f) ⟨us,[]⟩) (CR (L2.CX Z.prog Z.w) Z.stack Z.prog Z.w H s Q E) s
def A3t (env:A1) (ws:List W):A1:=env.map (fun o=> match o with
  | some (.val w)=> some (.val w)
  | _=> none)++ws.map fun w=> some (.val w)
theorem A5A {env:A1} {ws:List W} {i:Nat} {sv:SV} (e:(A3t env ws)[i]? =some (some sv)):(∃w,sv= .val w∧env[i]? =some (some (.val w))∧i < env.length)∨∃w,sv= .val w∧env.length≤i∧ws[i - env.length]? =some w:=by
  unfold A3t at e
  by_cases hi:i < env.length
  · rw [List.getElem?_append_left (by simpa using hi),List.getElem?_map] at e
    cases q:env[i]? with
    | none=> rw [q] at e;cases e
    | some o=>
      rw [q] at e
      cases o with
      | none=> cases e
      | some sv'=>
        cases sv' with
        | val w=> cases e;exact .inl ⟨w,rfl,rfl,hi⟩
        | own c=> cases e
  · rw [List.getElem?_append_right (by simpa using hi),List.length_map,List.getElem?_map] at e
    cases q:ws[i - env.length]? with
    | none=> rw [q] at e;cases e
    | some w=> rw [q] at e;cases e;exact .inr ⟨w,rfl,by omega,rfl⟩
theorem BS.lam {K:PySem.W.Frag} {G:Gx} {env:A1} {h0 h:AH} {σ:L2.St} {H0 H:Hp} {ws:List W} {vs:List V} (gk:G.K=K) (S:BS G env h0 σ H0) (k:Keeps H0 H) (hp:∀a o,h a=some o→ORep K H a o) (tb:TabsK K H) (r:RepL K H ws vs):
    BS ⟨K,h,H⟩ (A3t env ws) h (σ++vs.map some) H:=by
  subst gk
  refine ⟨?_,fun i w e=> ?_,fun i c e=> ?_,fun i j c c' p e=> ?_,hp,fun p o e _ _=> e,fun a o e n=> (by have n:h a=none:=n;rw [n] at e;cases e),fun p o e=> ⟨o,e⟩,tb⟩
  · unfold A3t
    rw [List.length_append,List.length_map,List.length_map,List.length_append,List.length_map,S.len,r.length]
  · rcases A5A e with ⟨w',z,y,hi⟩ | ⟨w',z,hi,y⟩
    · cases z
      obtain ⟨v,ev,rv⟩:=S.val i w y
      exact ⟨v,by rw [List.getElem?_append_left (by rw [←S.len];exact hi)];exact ev,Rep.mono k w v rv⟩
    · cases z
      obtain ⟨v,ev,rv⟩:=r.get y
      refine ⟨v,?_,rv⟩
      rw [List.getElem?_append_right (by rw [←S.len];exact hi),←S.len,List.getElem?_map,ev]
      rfl
  · rcases A5A e with ⟨w',z,_⟩ | ⟨w',z,_⟩ <;> cases z
  · rcases A5A e with ⟨w',z,_⟩ | ⟨w',z,_⟩ <;> cases z
section
variable {X:Cx} {G:Gx} {env:A1} {h:AH} {σ:L2.St} {H:Hp} {s:Shared} {pins:List (Addr×Obj)} {d:LamD} {f g c:Addr} {cdg:Value} {Ng:List Str} {qg:Str} {sg:Scope} {ps:List Str} {k:Nat} {t:(AExc→A1→AH→Prop)→AT} {Eg:XK}
end
end Ab
namespace Ab
open PySem PySem.Spec PyProof.Rows L2 LamX
section
variable {X:Cx} {G:Gx} {sp:F5} {n i:Nat} {f:Addr} {a:Str} {p pos:Pos} {e:Expr} {es:List Expr} {t:E4} {E:AExc→A1→AH→Prop}
end
section
variable {X:Cx} {G:Gx} {d:LamD} {n kg kl:Nat} {g:Addr} {fd:FuncData} {x:Str} {st:Stmt} {Ng psg ps:List Str} {p pos:Pos} {e:Expr} {es:List Expr} {t:ALT} {tb:(AExc→A1→AH→Prop)→AT} {tc:Addr→F5→(AExc→A1→AH→Prop)→C4} {E:AExc→A1→AH→Prop}
end
end Ab
namespace Ab
open PySem PySem.Spec PyProof.Rows L2 LamX
structure MakesL (K:PySem.W.Frag) (mg:Str→Option Value) (base:Heap) (q:Str) (cdv:Value):Prop where
  ex:∃c P,cdv= .ref c∧TabB base mg c P∧(P,q)∈A2e K∧∀p∈A2e K,p.1=P→p.2=q
section
variable {P:Program} {w:World} {K:PySem.W.Frag} {mg:Str→Option Value} {base:Heap} {x qual:Str} {params:Arguments} {body:List Stmt} {scope:Scope} {f:Addr} {fd:FuncData} {N ps:List Str} {k n:Nat} {sp:F5} {st:Stmt}
end
section
variable {X:Cx} {G:Gx} {d:LamD} {e:Expr} {es:List Expr} {pos:Pos} {n:Nat} {q:Str} {N ps:List Str}
end
end Ab
namespace Ab
open PySem PySem.Spec PyProof.Rows L2 RZ
def A1i (o:Obj):Bool:=match o.cls with
  | .type c=> decide (c="list")
  | _=> false
def frK (g:Addr→Option Obj) (as:List Addr):PySem.W.Frag:=He.frG (fun a=> (g a).bind fun o=> if A1i o=true then none else some o) as
theorem B5u {as:List Addr} {h:Heap}:(frK h.get? as).In h:=fun a o e=> by
  have z:=He.frG_at (g:=fun a=> (h.get? a).bind fun o=> if A1i o=true then none else some o) as e
  cases q:h.get? a with
  | none=> rw [q] at z;cases z
  | some u=>
    rw [q] at z
    have z:(if A1i u=true then none else some u)=some o:=z
    split at z
    · cases z
    · exact z
def A4s (K:PySem.W.Frag):Prop:=∀a o,K.lookup a=some o→o.cls≠ .type "list"
theorem B5k {g:Addr→Option Obj} {as:List Addr}:A4s (frK g as):=fun a o e c=> by
  have z:=He.frG_at (g:=fun a=> (g a).bind fun o=> if A1i o=true then none else some o) as e
  cases q:g a with
  | none=> rw [q] at z;cases z
  | some u=>
    rw [q] at z
    have z:(if A1i u=true then none else some u)=some o:=z
    split at z
    · cases z
    · rename_i n
      cases z
      exact n (by unfold A1i;rw [c];rfl)
def A4S (g:Addr→Option Obj) (a:Addr):List Addr:=match g a with
  | some o=> match o.data with
    | .seq its _=> its.toList.flatMap He.refV
    | .dict es _=> es.toList.flatMap fun e=> He.refV e.val
    | .func fd=> He.refV fd.code++He.refV fd.defaults++He.refV fd.kwdefaults++fd.closure.map (·.2)
    | .cls cd=> [cd.ns]
    | .cell (some v)=> He.refV v
    | _=> []
  | none=> []
def asK (g:Addr→Option Obj):List Addr:=
  let l1:=A4S g mainGlobals
  let l2:=l1.flatMap (A4S g)
  let l3:=l2.flatMap (A4S g)
  let l4:=l3.flatMap (A4S g)
  mainGlobals::(l1++l2++l3++l4)
def asL (g:Addr→Option Obj) (ls:List (Str×Option Str)):List Addr:=match ls with
  | []=> asK g
  | l::r=> asK g++B0E::(l::r).map fun x=> He.codeOf (frK g (asK g)) x
abbrev AlK:Type:=He.AlD×Bool
def B0c (g:Addr→Option Obj) (K:PySem.W.Frag):Bool:=(A0V K).all fun p=> PySem.W.codeHdIn K p.1.1 p.1.2 && (match K.lookup p.1.2 with
  | none=> true
  | some _=> false) && (match g p.1.2 with
  | some o=> He.emptyTab o
  | none=> false)
def A6q (K:PySem.W.Frag) (h:Heap):Prop:=∀p∈A0V K,PySem.W.codeHdIn K p.1.1 p.1.2=true∧K.lookup p.1.2=none∧h.get? p.1.2=some { cls:= .none,data:= .fields #[] }
theorem B4u {h:Heap} {K:PySem.W.Frag} (e:B0c h.get? K=true):A6q K h:=fun p hp=> by
  have z:=List.all_eq_true.mp e p hp
  simp only [Bool.and_eq_true] at z
  obtain ⟨⟨z1,z2⟩,z3⟩:=z
  refine ⟨z1,?_,?_⟩
  · cases q:K.lookup p.1.2 with
    | none=> rfl
    | some o=> rw [q] at z2;cases z2
  · cases q:h.get? p.1.2 with
    | none=> rw [q] at z3;cases z3
    | some o=> rw [q] at z3;rw [He.emptyTab_eq z3]
def B7b (fa:List He.Fa) (fn:List He.DefD) (ex:PySem.W.Frag→Bool) (ls:List (Str×Option Str)) (g:Addr→Option Obj):AlK:=
  let K:=frK g (asL g ls)
  (He.obsD fa fn K,ex K && B0c g K)
theorem FunD.one {K:PySem.W.Frag} {x q x' q':Str} {a a':Arguments} {b b':List Stmt} {sc sc':Scope} {d d':List V} {k k':List (Str×V)} {f:Addr} {fd fd':FuncData} (F:FunD K x q a b sc d k f fd) (F':FunD K x' q' a' b' sc' d' k' f fd'):fd=fd':=by
  obtain ⟨oc,od,dV,kV,doc,pm,an,cdv,ct,osl,_,lk,_⟩:=F.ex
  obtain ⟨oc',od',dV',kV',doc',pm',an',cdv',ct',osl',_,lk',_⟩:=F'.ex
  rw [lk] at lk'
  cases lk'
  rfl
def A6T (sp:F5):Prop:=∀(ns:List Int),ns.length≤63→sp [W.lst (ns.map .int)] (fun _=> none) (fun r _=> r= .val (.bl true)) fun _ _=> False
def B0Z (K:PySem.W.Frag):Sp:=fun vs H Q _=> ∃(a:Addr) (ns:List Int),vs=[.ref a]∧ns.length≤63∧SqL K H a (ns.map V.int)∧(∀p∈A0V K,H p.1.2=some (.tbl #[]))∧(∀H',Q (.bl true) H')
theorem A9Q {K:PySem.W.Frag} {sp:F5} (ls:A6T sp) {H:Hp} {a:Addr} {ns:List Int} {Q:VK} {E:XK} (hl:ns.length≤63) (hS:LsF H a (ns.map V.int)) (hT:TabsK K H) (q:∀H',Q (.bl true) H'):g9 K 1 sp [.ref a] H Q E:=
  ⟨[.lst (ns.map .int)],fun _=> none,_,_,rfl,(fun _ _ e=> nomatch e),hT,.cons (.lst hS .ints) .nil,ls ns hl,fun r h' v H' e _ rr=> by
    subst e
    have z:=Rep.of_bl (K:=K) (H:=H') rr
    rw [z];exact q H',fun _ _ _ _ _ z _ _=> z.elim⟩
theorem A9E {K:PySem.W.Frag} {H:Hp} (h:∀p∈A0V K,H p.1.2=some (.tbl #[])):TabsK K H:=fun p hp=> by
  obtain ⟨q,hq,rfl⟩:=List.mem_map.mp hp
  exact LamX.TabS.nil (h q hq)
theorem B5h {P:Program} {w:World} {K:PySem.W.Frag} {mg:Str→Option Value} {base:Heap} {k:Nat} {f:Addr} {fd:FuncData} {ps:List Str} {sp:F5} (ls:A6T sp) (no:A4s K) (F:FnOk P w K mg base (L2.CX P w) k f fd ps (g9 K 1 sp)) (hp:ps.length=1):
    FnOk P w K mg base (L2.CX P w) k f fd ps (B0Z K):=by
  refine ⟨fun vs H Q E ⟨a,ns,e,_⟩=> by rw [e,hp];rfl,fun A outer s H args us vs Q E hr e0 hb hv ⟨a,ns,ev,hl,hS,hT,q⟩=> ?_⟩
  subst ev
  rcases hS with (h | h) | ⟨o,its,n,l,c,_⟩
  ·
    obtain ⟨l1,its,n,rv,ho⟩:=e0.hok a _ h
    have keep:∀b o,H b=some o→(∀xs,o≠ .lst xs)→upd H a (.frz { cls:= .type "list",data:= .seq its.toArray n } (.lst (ns.map V.int))) b=some o:=fun b o e m=> by
      have ne:b≠a:=fun z=> by
        rw [z,h] at e
        exact m _ (Option.some.inj e).symm
      rw [upd_ne ne];exact e
    have non:∀b,H b=none→upd H a (.frz { cls:= .type "list",data:= .seq its.toArray n } (.lst (ns.map V.int))) b=none:=fun b e=> by
      have ne:b≠a:=fun z=> by rw [z,h] at e;cases e
      rw [upd_ne ne];exact e
    have sub:∀b o,ObjOk P w H s.heap b o→ObjOk P w (upd H a (.frz { cls:= .type "list",data:= .seq its.toArray n } (.lst (ns.map V.int)))) s.heap b o:=by
      intro b o
      induction o with
      | dT kvs=>
        rintro ⟨a1,a2,xs,a3,a4⟩
        exact ⟨a1,a2,xs,a3.mono fun x y ⟨b1,b2,b3⟩=> ⟨b1,keep _ _ b2 (fun xs z=> by cases z),b3⟩,a4⟩
      | ins C dx fs=>
        rintro ⟨a1,a2⟩
        exact ⟨keep _ _ a1 (fun xs z=> by cases z),a2⟩
      | frz o u ih=> rintro ⟨a1,a2⟩;exact ⟨a1,ih a2⟩
      | _=> exact id
    have hok:HOk P w (upd H a (.frz { cls:= .type "list",data:= .seq its.toArray n } (.lst (ns.map V.int)))) s.heap:=fun b o e=> by
      by_cases hb:b=a
      · subst hb
        rw [upd_same] at e
        cases e
        exact ⟨ho,l1,its,n,rv,ho⟩
      · rw [upd_ne hb] at e
        exact sub b o (e0.hok b o e)
    have hT2:TabsK K (upd H a (.frz { cls:= .type "list",data:= .seq its.toArray n } (.lst (ns.map V.int)))):=A9E fun p m=> keep _ _ (hT p m) fun xs z=> by cases z
    have run:=F.run A outer s _ args us [.ref a] Q E hr ⟨e0.frames,e0.mod,fun b o e=> ⟨(e0.bs b o e).1,non b (e0.bs b o e).2⟩,e0.bsz,e0.funs,fun b m=> non b (e0.frf b m),hok,e0.bare⟩ hb hv (A9Q ls hl ⟨_,upd_same⟩ hT2 q)
    refine codeAny_mono run fun r s' z=> ?_
    cases r with
    | error e=>
      obtain ⟨a',B,H',cls,d,e1,e2,e3,e4,e5,e6,e7,e8⟩:=z
      have nn:∀b,upd H a (.frz { cls:= .type "list",data:= .seq its.toArray n } (.lst (ns.map V.int))) b=none→H b=none:=fun b e=> by
        by_cases hb:b=a
        · subst hb;rw [upd_same] at e;cases e
        · rw [upd_ne hb] at e;exact e
      exact ⟨a',B,H',cls,d,e1,e2,e3,⟨fun b o x y=> e4.keep b o x (non b y),e4.slot,fun b o x y=> e4.free b o x (non b y),e4.there,fun b xs x=> e4.tups b xs (keep _ _ x fun xs z=> by cases z),fun b o u x=> e4.frzs b o u (keep _ _ x fun xs z=> by cases z),fun b ps x=> e4.tbls b ps (keep _ _ x fun xs z=> by cases z)⟩,e5,e6,e7,e8⟩
    | ok fl=>
      cases fl with
      | ret u=>
        obtain ⟨v,H',e1,e2,e3,e4,e5,e6⟩:=z
        exact ⟨v,H',e1,e2,⟨fun b o x y=> e3.keep b o x (non b y),fun b o x y=> e3.slot b o x (non b y),fun b o x y=> e3.free b o x (non b y),e3.there,fun b xs x=> e3.tups b xs (keep _ _ x fun xs z=> by cases z),fun b o u x=> e3.frzs b o u (keep _ _ x fun xs z=> by cases z),fun b ps x=> e3.tbls b ps (keep _ _ x fun xs z=> by cases z)⟩,e4,e5,e6⟩
      | next=> exact z
      | brk=> exact z
      | cont=> exact z
  · exact F.run A outer s H args us [.ref a] Q E hr e0 hb hv (A9Q ls hl h (A9E hT) q)
  · exact absurd c (no a o l)
theorem B7A {P:Program} {w:World} (H:Hp) (s:Shared) (e:Value) (s':Shared) (z:L2.CX P w [] H s (fun _ _ _=> False) e s'):False:=by
  obtain ⟨_,_,_,_,_,_,_,_,_,_,_,_,z⟩:=z
  exact z
theorem walk_end {l:PySem.W.OpenLaw} {j:Nat} {vw:Program} {lo:List Str} {A:(Str→Option Value)→Heap→Prop} {B:World→Heap→Prop} {d:DefRec} {y:Str} (h1:l.most=some 63) (h3:d.params.defaults=[]) (h4:Room j callerA)
    (F:∀(u:World) (g:Str→Option Value) (at_:Addr) (hp:Heap),B u hp→hp.Ns mainGlobals g→g d.name=some (.ref at_)→∃(K:PySem.W.Frag) (fd:FuncData) (sp:F5),K.In hp∧A4s K∧A6q K hp∧A6T sp∧(∀(t:Shared) (z:Value),BindsTo t fd ⟨[z],[]⟩ [(y,z)])∧
      ∀base:Heap,(∀p∈(A0V K).map (·.1),LamX.TabB base g p.1 p.2)→FnOk l.prog u K g base (L2.CX l.prog u) j at_ fd [y] (g9 K 1 sp)):
    PySem.W.WalkO vw lo A B l.row.toRowW d [] (fun f vs=> PySem.call f vs):=
  LamX.walk_ofTsE h1 (by decide) h3 h4 (fun u g at_ hp yb ns named=>
    let ⟨K,fd,sp,inK,no,te,ls,bind,ok⟩:=F u g at_ hp yb ns named
    ⟨K,inK,fd,(A0V K).map (·.1),B0Z K,fun p m=> (by obtain ⟨q,hq,rfl⟩:=List.mem_map.mp m;exact (te q hq).2.2),fun p m=> (by obtain ⟨q,hq,rfl⟩:=List.mem_map.mp m;exact (te q hq).2.1),
      fun p m=> (by obtain ⟨q,hq,rfl⟩:=List.mem_map.mp m;exact PySem.W.codeHd_of_K inK (te q hq).1),bind,
      fun H b is few _ hT seq=> ⟨b,is,rfl,few,seq,fun p m=> hT p.1 (List.mem_map.mpr ⟨p,m,rfl⟩),fun _=> rfl⟩,fun base _ _ tb=> B5h ls no (ok base tb) rfl⟩) fun u H s e s'=> B7A H s e s'
end Ab
namespace Ab
open PySem PySem.Spec PyProof.Rows L2 RZ
def A2s (tl:List Value):List Value→Bool
  | .ref _::r=> A2s tl r
  | l=> l==tl
abbrev tlV:List Value:=[.type "ValueError",.type "Exception",.type "BaseException",.type "object"]
abbrev tlL:List Value:=[.type "LookupError",.type "Exception",.type "BaseException",.type "object"]
abbrev tlI:List Value:=[.type "IndexError",.type "LookupError",.type "Exception",.type "BaseException",.type "object"]
def xcTab:List (Str×List Str):=
  [("BadSizes",["HideError"]),("BadCounts",["HideError"]),("BadStand",["HideError"]),("BadDeed",["HideError"]),("BadRow",["HideError"]),("BadTimes",["HideError"]),("BadName",["HideError"]),("BadText",["HideError"]),("Taken",["HideError"]),
   ("InUse",["HideError"]),("Tapped",["HideError"]),("TooLong",["HideError"]),("TooMany",["HideError"]),("Unlike",["HideError"]),("NoRound",["Missing"]),("NoDrop",["Missing"]),("NoCask",["Missing"]),("NothingLeft",[])]
def A0T (n c:Str):Bool:=decide (n=c) || decide (c∈(xcTab.lookup n).getD [])
def A59 (n:String) (bm:List Value):Bool:=(decide (n="ValueError.__new__") && A2s tlV bm) || ((decide (n="LookupError.__new__") && A2s tlL bm) || (decide (n="IndexError.__new__") && A2s tlI bm))
def A6h (K:PySem.W.Frag) (C:Addr):Bool:=match K.lookup C with
  | some ⟨.type t,_,.cls cd,sl⟩=> decide (t="type") && (match cd.mro,sl.toList with
    | .ref C'::bm,[_,_,_,_,some (.builtin n),_]=> decide (C'=C) && (A59 n bm && (!cd.hasDel && cd.hasDict))
    | _,_=> false)
  | _=> false
def xkB (K:PySem.W.Frag) (x:Str) (fs:List Str):Bool:=
  A6h K (He.ga K x) && (decide (PySem.W.findIn K (.ref (He.ga K x)) "__setattr__"=some (some (.builtin "object.__setattr__"))) && (decide (PySem.W.subIn K (.ref (He.ga K x)) (.type "BaseException")=some true) &&
    (decide (PySem.W.typeIn K (.ref (He.ga K x))=some (.type "type")) && (PySem.W.keepIn K (.ref (He.ga K x)) && (decide (PySem.W.findIn K (.ref (He.ga K x)) "__init__"=some (some (.ref (He.ma K (He.ga K x) "__init__")))) &&
      (decide (PySem.W.typeIn K (.ref (He.ma K (He.ga K x) "__init__"))=some (.type "function")) && (xfB K (He.ga K x) && (("word":Str)::fs).all fun f=> decide (PySem.W.findIn K (.ref (He.ga K x)) f=some none))))))))
def B0k (K:PySem.W.Frag) (ks:List Str) (c:Str):Bool:=ks.all fun k=> decide (PySem.W.exmOne K (.ref (He.ga K k)) (.ref (He.ga K c))=some (A0T k c))
def B0V (K:PySem.W.Frag) (ks:List Str) (f:Str):Bool:=ks.all fun c=> xfB K (He.ga K c) && decide (PySem.W.findIn K (.ref (He.ga K c)) f=some none)
def A4h (e:DictEntry):Option (Str×Int):=match e.key with
  | .str x _=> (match e.val with
    | .int i _=> some (x,i)
    | _=> none)
  | _=> none
def A4e (K:PySem.W.Frag) (x:Str) (tab:List (Str×Int)):Bool:=match K.lookup (He.ga K x) with
  | some ⟨_,_,.dict es _,_⟩=> decide (es.toList.map A4h=tab.map some)
  | _=> false
abbrev A1C:Type:=List (Str×List Str)
abbrev A6y:Type:=AlK×List (Option (List (Option (Str×Int))))
def A1W (ts:A1C) (K:PySem.W.Frag):List (Option (List (Option (Str×Int)))):=ts.map fun t=> He.dicW K (He.ga K t.1)
def A1a (ts:A1C) (w:World):List (Option (List (Option (Str×Int)))):=ts.map fun t=> some (He.keysIn w.params t.2)
def A6N (fa:List He.Fa) (fn:List He.DefD) (ex:PySem.W.Frag→Bool) (ls:List (Str×Option Str)) (ts:A1C) (g:Addr→Option Obj):A6y:=(B7b fa fn ex ls g,A1W ts (frK g (asL g ls)))
def A9j (fa:List He.Fa) (fn:List He.DefD) (ex:PySem.W.Frag→Bool) (ls:List (Str×Option Str)) (ts:A1C):PySem.W.Hook where
  α:=A6y
  obs:=fun s=> A6N fa fn ex ls ts s.heap.get?
  val:=fun w=> ((He.valD fn,true),A1a ts w)
  says:=fun w h=> ∃K:PySem.W.Frag,K.In h∧(He.SaysD fa fn K∧(ex K=true∧A1W ts K=A1a ts w))∧A4s K∧A6q K h
  of:=fun _ _ e=> by
    have e1:=congrArg Prod.fst e
    have z:=congrArg Prod.snd e1
    have z:=Bool.and_eq_true_iff.mp z
    exact ⟨_,B5u,⟨congrArg Prod.fst e1,z.1,congrArg Prod.snd e⟩,B5k,B4u z.2⟩
  keeps:=fun _ _ _ ⟨K,hK,c,n,t⟩ k=> ⟨K,PySem.W.Frag.In.keeps hK k,c,n,fun p hp=> ⟨(t p hp).1,(t p hp).2.1,k _ _ (t p hp).2.2⟩⟩
theorem B3v {fa:List He.Fa} {fn:List He.DefD} {ex:PySem.W.Frag→Bool} {ls:List (Str×Option Str)} {ts:A1C} {g:Addr→Option Obj} {s:Shared} (h:∀a,g a=s.heap.get? a):A6N fa fn ex ls ts g=(A9j fa fn ex ls ts).obs s:=by
  have e:g=s.heap.get?:=funext h
  rw [e] <;> rfl
def A4p (w:World) (b:Bool) (f:String→Bool):World:={ w with params:={ w.params with followText:=fun s=> bif s=="special-get-raises" then b else f s } }
theorem B4l (w:World):∃b f,w=A4p w b f:=by
  refine ⟨w.params.followText "special-get-raises",w.params.followText,?_⟩
  unfold A4p
  have e:(fun s=> bif s=="special-get-raises" then w.params.followText "special-get-raises" else w.params.followText s)=w.params.followText:=by
    funext s
    by_cases h:s="special-get-raises"
    · rw [h];rfl
    · rw [beq_eq_false_iff_ne.mpr h];rfl
  rw [e]
def O4 (i:Nat):Stmt:=PySem.Challenge.pw_hidelater_k07_texts_that_are_no_steps.main.body.getD i (.Pass ⟨0,0,0,0⟩)
abbrev U0:Stmt:=O4 6
abbrev Q5:Stmt:=O4 12
abbrev V5:Stmt:=O4 13
abbrev R9:Stmt:=O4 14
abbrev V2:Stmt:=O4 15
abbrev V3:Stmt:=O4 17
abbrev M5:Stmt:=O4 18
abbrev N5:Stmt:=O4 19
abbrev R6:Stmt:=O4 20
abbrev T9:Stmt:=O4 21
abbrev U9:Stmt:=O4 22
abbrev V0:Stmt:=O4 23
abbrev T7:Stmt:=O4 24
abbrev U8:Stmt:=O4 25
abbrev R4:Stmt:=O4 26
abbrev V4:Stmt:=O4 27
abbrev T6:Stmt:=O4 28
abbrev T8:Stmt:=O4 29
abbrev R8:Stmt:=O4 30
abbrev V1:Stmt:=O4 31
abbrev X8:Stmt:=O4 32
def B7m (i j:Nat):Stmt:=match O4 i with
  | .ClassDef _ _ _ b _ _ _ _ _ _ _=> b.getD j (.Pass ⟨0,0,0,0⟩)
  | _=> .Pass ⟨0,0,0,0⟩
abbrev A3Y:Stmt:=B7m 2 0
def A79:He.DefD:=⟨("is_name",none),"is_name","is_name",defArgs U0,defBody U0,defScope U0,[],[]⟩
def A7T:He.DefD:=⟨("is_figures",none),"is_figures","is_figures",defArgs Q5,defBody Q5,defScope Q5,[],[]⟩
def A8J:He.DefD:=⟨("call_in",none),"call_in","call_in",defArgs V5,defBody V5,defScope V5,[],[]⟩
def A77:He.DefD:=⟨("step_in",none),"step_in","step_in",defArgs R9,defBody R9,defScope R9,[],[]⟩
def A7j:He.DefD:=⟨("read_step",none),"read_step","read_step",defArgs V2,defBody V2,defScope V2,[],[]⟩
def A7x:He.DefD:=⟨("_law_open",none),"_law_open","_law_open",defArgs V3,defBody V3,defScope V3,[],[]⟩
def A7u:He.DefD:=⟨("_law_take",none),"_law_take","_law_take",defArgs M5,defBody M5,defScope M5,[],[]⟩
def A7n:He.DefD:=⟨("_law_pick",none),"_law_pick","_law_pick",defArgs N5,defBody N5,defScope N5,[],[]⟩
def A7k:He.DefD:=⟨("_law_same",none),"_law_same","_law_same",defArgs R6,defBody R6,defScope R6,[],[]⟩
def A7b:He.DefD:=⟨("_law_sizes",none),"_law_sizes","_law_sizes",defArgs T9,defBody T9,defScope T9,[],[]⟩
def A7J:He.DefD:=⟨("_law_any_sizes",none),"_law_any_sizes","_law_any_sizes",defArgs U9,defBody U9,defScope U9,[],[]⟩
def A7O:He.DefD:=⟨("_law_number",none),"_law_number","_law_number",defArgs V0,defBody V0,defScope V0,[],[]⟩
def A7K:He.DefD:=⟨("_law_shuffled",none),"_law_shuffled","_law_shuffled",defArgs T7,defBody T7,defScope T7,[],[]⟩
def A7D:He.DefD:=⟨("_law_some_casks",none),"_law_some_casks","_law_some_casks",defArgs U8,defBody U8,defScope U8,[],[]⟩
def A7a:He.DefD:=⟨("_law_alike",none),"_law_alike","_law_alike",defArgs R4,defBody R4,defScope R4,[],[]⟩
def A7e:He.DefD:=⟨("_law_deed",none),"_law_deed","_law_deed",defArgs V4,defBody V4,defScope V4,[],[]⟩
def A7C:He.DefD:=⟨("_law_is_figures",none),"_law_is_figures","_law_is_figures",defArgs T6,defBody T6,defScope T6,[],[]⟩
def A7N:He.DefD:=⟨("_law_is_name",none),"_law_is_name","_law_is_name",defArgs T8,defBody T8,defScope T8,[],[]⟩
def A7o:He.DefD:=⟨("_law_read",none),"_law_read","_law_read",defArgs R8,defBody R8,defScope R8,[],[]⟩
def A7i:He.DefD:=⟨("_law_bent",none),"_law_bent","_law_bent",defArgs V1,defBody V1,defScope V1,[],[]⟩
def A9t:He.DefD:=⟨("law",none),"law","law",defArgs X8,defBody X8,defScope X8,[],[]⟩
def A72:He.DefD:=⟨("BadText",some "__init__"),"__init__","BadText.__init__",defArgs A3Y,defBody A3Y,defScope A3Y,[],[]⟩
def hFn:List He.DefD:=[A79,A7T,A8J,A77,A7j,A7x,A7u,A7n,A7k,A7b,A7J,A7O,A7K,A7D,A7a,A7e,A7C,A7N,A7o,A7i,A9t,A72]
def hFa:List He.Fa:=[.glo "is_name",.glo "is_figures",.glo "call_in",.glo "step_in",.glo "read_step",.glo "_law_open",.glo "_law_take",.glo "_law_pick",.glo "_law_same",.glo "_law_sizes",.glo "_law_any_sizes",.glo "_law_number",.glo "_law_shuffled",.glo "_law_some_casks",.glo "_law_alike",.glo "_law_deed",.glo "_law_is_figures",.glo "_law_is_name",.glo "_law_read",.glo "_law_bent",.glo "law",.free "all",.free "bool",.free "int",.free "isinstance",.free "len",.free "list",.free "range",.free "str",.free "tuple",.str "FIGURES" ("0123456789":Str),.glo "LEAST_THINGS",.str "LETTERS" ("abcdefghijklmnopqrstuvwxyz":Str),.int "LONGEST" 8,.int "MOST_FIGURES" 30,.glo "MOST_THINGS",.glo "BadText"]
def hEx:PySem.W.Frag→Bool:=fun K=> xkB K "BadText" ["row"] && B0k K ["BadText"] "BadText" && B0V K ["BadText"] "row" && A4e K "LEAST_THINGS" ([(("over":Str),3),(("down":Str),3),(("swap":Str),2),(("tap":Str),2),(("drain":Str),2)]:List (Str×Int)) && A4e K "MOST_THINGS" ([(("over":Str),7),(("down":Str),7),(("swap":Str),2),(("tap":Str),2),(("drain":Str),2)]:List (Str×Int))
def hLs:List (Str×Option Str):=[]
def B7x:List Str:=["__name__","HideError","BadText","LONGEST","LETTERS","is_name","MOST_FIGURES","FIGURES","LEAST_THINGS","MOST_THINGS","is_figures","call_in","step_in","read_step","_law_open","_law_take","_law_pick","_law_same","_law_sizes","_law_any_sizes","_law_number","_law_shuffled","_law_some_casks","_law_alike","_law_deed","_law_is_figures","_law_is_name","_law_read","_law_bent"]
def hNms:List Str:=B7x
abbrev hR:PySem.W.OpenRow:=PySem.W.OpenLaw.row PySem.Challenge.rw_hidelater_k07_texts_that_are_no_steps
def hTs:A1C:=[("LEAST_THINGS",["over","down","swap","tap","drain"]),("MOST_THINGS",["over","down","swap","tap","drain"])]
abbrev hHk:PySem.W.Hook:=A9j hFa hFn hEx hLs hTs
def hOb (s:PySem.W.SharedT):A6y:=A6N hFa hFn hEx hLs hTs (HandSHeadRun.getT s)
theorem hOb_eq (s:PySem.W.SharedT):hOb s=hHk.obs s.abs:=B3v (HandSHeadRun.getT_eq s)
theorem B6g (w:World) (f:String→Bool):HandSHeadRun.RunEq hR (PySem.W.view hR.prog [32]) hHk hOb 3000 hNms (A4p w true f):=by
  intro os
  kernel_rfl
theorem B6v (w:World) (f:String→Bool):HandSHeadRun.RunEq hR (PySem.W.view hR.prog [32]) hHk hOb 3000 hNms (A4p w false f):=by
  intro os
  kernel_rfl
theorem hRun (w:World):HandSHeadRun.RunEq hR (PySem.W.view hR.prog [32]) hHk hOb 3000 hNms w:=by
  obtain ⟨b,f,e⟩:=B4l w
  rw [e]
  cases b
  · exact B6v w f
  · exact B6g w f
end Ab
namespace Ab
open PySem PySem.Spec PyProof.Rows L2
open Builtin Builtin.ObjectAttr in
structure MroG (bm bmB:List Value):Prop where
  cont:∀X:String,bm.contains (.type X)=bmB.contains (.type X)
  pass:∀self:Value,refuseLoop self "__setattr__" bm=pure ()
  ne:bm.isEmpty=false
  ob:bmB.contains (.type "object")=true
open Builtin Builtin.ObjectAttr in
theorem MroG.cons {bm bmB:List Value} (m:MroG bm bmB) (c:Addr):MroG (.ref c::bm) bmB:=
  ⟨fun X=> by rw [List.contains_cons,m.cont];rfl,fun s=> by rw [refuseLoop_ref];exact m.pass s,rfl,m.ob⟩
theorem A5G {tl:List Value} (m:MroG tl tl):∀l:List Value,A2s tl l=true→MroG l tl:=by
  intro l
  induction l with
  | nil=> exact fun e=> (show ([]:List Value)=tl from beq_iff_eq.mp e)▸m
  | cons a r ih=>
    intro e
    cases a with
    | ref c=> exact (ih e).cons c
    | _=> rw [show (_::r:List Value)=tl from beq_iff_eq.mp e];exact m
theorem B6k:MroG tlV tlV:=⟨fun _=> rfl,fun s=> F.store_ValueError.passes s,rfl,by decide+kernel⟩
theorem B6T:MroG tlL tlL:=⟨fun _=> rfl,fun s=> by kernel_rfl,rfl,by decide+kernel⟩
theorem B7H:MroG tlI tlI:=⟨fun _=> rfl,fun s=> by kernel_rfl,rfl,by decide+kernel⟩
structure OexG (K:PySem.W.Frag) (C:Addr):Prop where
  cls:∃nm q N bs bm bmB B newId initId sn sub ab col dd k0 k1 k2 k3 k5,K.lookup C=some (excClassObj nm q C N bs bm true sn sub ab col dd k0 k1 k2 k3 k5 newId)∧ExcBaseFacts B newId initId bmB∧MroG bm bmB
  sa:PySem.W.findIn K (.ref C) "__setattr__"=some (some (.builtin "object.__setattr__"))
  exC:PySem.W.subIn K (.ref C) (.type "BaseException")=some true
  tyC:PySem.W.typeIn K (.ref C)=some (.type "type")
  kC:PySem.W.keepIn K (.ref C)=true
section
open Builtin Builtin.ObjectAttr
variable {prog:Program} {w:World} {A:Around} {E:Value→Shared→Prop} {R:Result→Shared→Prop} {hp:Heap} {g:Array GenState} {d:Drawn} {t:Nat} {os:OsState}
theorem B3i {K:PySem.W.Frag} {name:Str} {tk:Tok} {v:Value} {x C:Addr} {fv:Array Value} {cd:ClassData} {bmB:List Value} (X:K.In hp) (hx:hp.get? x=some { cls:= .ref C,data:= .fields fv }) (hcd:PySem.W.clsIn K C=some cd) (hm:MroG cd.mro bmB)
    (hh:cd.hasDict=true) (ha:PySem.W.findIn K (.ref C) name=some none)
    (hq:∀h' tk' dx,(∀b o,b≠x→hp.get? b=some o→h'.get? b=some o)→hp.objs.size≤dx→dx≠x→h'.get? x=some { cls:= .ref C,dict:=some dx,data:= .fields fv }→
      h'.Ns1 dx (fun y=> if y=name then some v else none)→R (.ok (.ret .none)) ⟨h',g,d,tk',os⟩):
    codeAny (model prog w) A (.call (.builtin "object.__setattr__") ⟨[.ref x,.str name tk,v],[]⟩) R ⟨hp,g,d,t,os⟩:=by
  have I:PySem.W.InstAt hp x { cls:= .ref C,data:= .fields fv } C none:=⟨hx,rfl,rfl,trivial⟩
  have SF:=F.store_object
  have ne:=hm.ne
  have hob:cd.mro.contains (.type "object")=true:=(hm.cont "object").trans hm.ob
  have hxs:x≠hp.objs.size:=Nat.ne_of_lt (Heap.lt_size hx)
  have sub:PySem.W.Looks (model prog w) hp (isInstance (.ref x) (.type "object")) true:=I.type.andThen (PySem.W.looks_mroIn X (by unfold PySem.W.mroIn;rw [hcd,Option.bind_some,if_neg (by rw [ne];decide),hob]))
  refine codeAny_call_builtin SF.slot.plain SF.entry (@PySem.W.check_slot (model prog w) _ _ ⟨hp,g,d,t,os⟩ "object.__setattr__" "object" "__setattr__" (.ref x) [.str name tk,v] [] _ SF.kind SF.split sub (SF.args (.ref x) (.str name tk) v) ?_)
  have hmr:PySem.W.Looks (model prog w) hp (mroOf (.ref C)) cd.mro:=(PySem.W.looks_clsIn X hcd).andThen .now
  have L3:PySem.W.Looks (model prog w) hp (storeTaker? none) none:= .now
  have hcls:PySem.W.Looks (model prog w) hp (classData C) cd:=PySem.W.looks_clsIn X hcd
  rw [PySem.W.osa_eq,refuse_eq]
  refine wpAny_bind (wpAny_bind (I.type.at (wpAny_bind (hmr.at ?_))))
  rw [hm.pass]
  refine wpAny_pure (wpAny_bind (I.type.at (wpAny_bind ((PySem.W.looks_findIn X ha).at (wpAny_bind (L3.at ?_))))))
  show wpAny _ _ (storeInOwnDict (.ref x) (.ref C) (.str name tk) name v false) _ _ _
  obtain ⟨nm,bs,mro,ns,qn,hd,sn,sb,ab,col,del⟩:=cd
  dsimp only at hh
  subst hh
  unfold storeInOwnDict ownDictForStores
  repeat (first | with_reducible refine PySem.HandSPX.store_in_new ?_ ?_ | with_reducible refine wpAny_loadPart_at hx ?_ | with_reducible refine hcls.at ?_ | wp_step)
  · exact ⟨_,#[],_,(Heap.get?_update_ne _ _ _ _ hxs.symm).trans (Heap.get?_push_at rfl rfl),rfl,fun e he=> absurd he (by simp),fun _=> rfl⟩
  · intro h' tk' hn' hs
    have hx₁:(hp.push { cls:= .type "dict",data:= .dict #[] }).get? x=some { cls:= .ref C,data:= .fields fv }:=Heap.get?_push_of_some _ hx
    refine hq h' tk' hp.objs.size (fun b o hb ho=> ?_) (Nat.le_refl _) hxs.symm ?_ hn'
    · exact (hs.2 b (Nat.ne_of_lt (Heap.lt_size ho))).trans ((Heap.get?_update_ne _ _ _ _ hb).trans (Heap.get?_push_of_some _ ho))
    · exact (hs.2 x hxs).trans (Heap.get?_update_self _ hx₁ rfl)
theorem B3x {K:PySem.W.Frag} {name:Str} {tk:Tok} {v:Value} {x C dx:Addr} {fv:Array Value} {cd:ClassData} {bmB:List Value} {m0:Str→Option Value} {nl:List Str} (X:K.In hp) (hx:hp.get? x=some { cls:= .ref C,dict:=some dx,data:= .fields fv }) (hns:hp.Ns1 dx m0)
    (hw:Within m0 nl) (hz:nl.length≤1000) (hcd:PySem.W.clsIn K C=some cd) (hm:MroG cd.mro bmB) (hh:cd.hasDict=true) (ha:PySem.W.findIn K (.ref C) name=some none)
    (hq:∀h' tk',(∀b o,b≠dx→hp.get? b=some o→h'.get? b=some o)→h'.Ns1 dx (fun y=> if y=name then some v else m0 y)→R (.ok (.ret .none)) ⟨h',g,d,tk',os⟩):
    codeAny (model prog w) A (.call (.builtin "object.__setattr__") ⟨[.ref x,.str name tk,v],[]⟩) R ⟨hp,g,d,t,os⟩:=by
  obtain ⟨oD,esD,epD,hoD,hdD,_⟩:=hns.count hw
  have I:PySem.W.InstAt hp x { cls:= .ref C,dict:=some dx,data:= .fields fv } C (some oD):=⟨hx,rfl,rfl,hoD⟩
  have SF:=F.store_object
  have ne:=hm.ne
  have hob:cd.mro.contains (.type "object")=true:=(hm.cont "object").trans hm.ob
  have sub:PySem.W.Looks (model prog w) hp (isInstance (.ref x) (.type "object")) true:=I.type.andThen (PySem.W.looks_mroIn X (by unfold PySem.W.mroIn;rw [hcd,Option.bind_some,if_neg (by rw [ne];decide),hob]))
  refine codeAny_call_builtin SF.slot.plain SF.entry (@PySem.W.check_slot (model prog w) _ _ ⟨hp,g,d,t,os⟩ "object.__setattr__" "object" "__setattr__" (.ref x) [.str name tk,v] [] _ SF.kind SF.split sub (SF.args (.ref x) (.str name tk) v) ?_)
  have hmr:PySem.W.Looks (model prog w) hp (mroOf (.ref C)) cd.mro:=(PySem.W.looks_clsIn X hcd).andThen .now
  have L3:PySem.W.Looks (model prog w) hp (storeTaker? none) none:= .now
  have hcls:PySem.W.Looks (model prog w) hp (classData C) cd:=PySem.W.looks_clsIn X hcd
  rw [PySem.W.osa_eq,refuse_eq]
  refine wpAny_bind (wpAny_bind (I.type.at (wpAny_bind (hmr.at ?_))))
  rw [hm.pass]
  refine wpAny_pure (wpAny_bind (I.type.at (wpAny_bind ((PySem.W.looks_findIn X ha).at (wpAny_bind (L3.at ?_))))))
  show wpAny _ _ (storeInOwnDict (.ref x) (.ref C) (.str name tk) name v false) _ _ _
  obtain ⟨nm,bs,mro,ns,qn,hd,sn,sb,ab,col,del⟩:=cd
  dsimp only at hh
  subst hh
  unfold storeInOwnDict ownDictForStores
  repeat (first | with_reducible refine PySem.OEX.store_in_old hns hw hz ?_ | with_reducible refine wpAny_loadPart_at hx ?_ | with_reducible refine hcls.at ?_ | wp_step)
  intro h' tk' hn' hs
  exact hq h' tk' (fun b o hb ho=> (hs.2 b hb).trans ho) hn'
end
section
variable {X:Cx} {pins:List (Addr×Obj)} {σ:L2.St} {H:Hp} {s:Shared} {a C dx:Addr} {f:Str} {y:V} {u:Value} {fs:List (Str×V)} {Q:Unit→Shared→Prop} {E:Value→Shared→Prop} {A:Around}
theorem OexG.data {K:PySem.W.Frag} (T:OexG K C):∃cd bmB,PySem.W.clsIn K C=some cd∧MroG cd.mro bmB∧cd.hasDict=true:=by
  obtain ⟨nm,q,N,bs,bm,bmB,B,ni,ii,sn,sub,ab,col,dd,k0,k1,k2,k3,k5,hC,_,hm⟩:=T.cls
  exact ⟨{ name:=nm,bases:=bs,mro:= .ref C::bm,ns:=N,qualname:=q,hasDict:=true,slotNames:=sn,subclasses:=sub,abstract:=ab,collection:=col,hasDel:=false },bmB,by unfold PySem.W.clsIn;rw [hC] <;> rfl,hm.cons C,rfl⟩
theorem B3n (T:OexG X.K C) (I:L2.Inv X pins σ H s) (e:H a=some (exo a C none)) (hno:PySem.W.findIn X.K (.ref C) f=some none) (ry:RelV y u)
    (h:∀dx s',H dx=none→dx≠a→L2.Inv X pins σ (upd (upd H dx (exd dx [(f,y)])) a (exo a C (some dx))) s'→Q () s'):wpAny (model X.prog X.w) A (setAttr (.ref a) f u) Q E s:=by
  obtain ⟨cd,bmB,hcl,hm,hh⟩:=T.data
  obtain ⟨t1,ho⟩:=exo_at I.hok e
  obtain ⟨hp,g,d,t,os⟩:=s
  refine PySem.W.set_plain I.kIn (ox:={ cls:= .ref C,dict:=none,data:= .fields #[.ref t1,.none,.none,.none,.bool false,.none] }) (od:=none) ⟨ho,rfl,rfl,trivial⟩ T.sa ?_
  refine B3i I.kIn ho hcl hm hh hno (fun h' tk' dx k dn dne hx hn=> ?_)
  have hnd:H dx=none:=I.hok.fresh dn
  have nd:∀{b:Addr} {o:Obj},hp.get? b=some o→b≠dx:=fun {b o} q=> Nat.ne_of_lt (Nat.lt_of_lt_of_le (Heap.lt_size q) dn)
  have na:∀{b:Addr},H b=none→b≠a:=fun {b} n z=> by
    rw [z,e] at n
    cases n
  have U1:Un X.fs [] H (upd (upd H dx (exd dx [(f,y)])) a (exo a C (some dx))) hp h':={
    keep:=fun b o q n _ _=> k b o (na n) q
    slot:=fun b o q n _ _=> ⟨o.slots,k b o (na n) q⟩
    free:=fun b o q n _=> by rw [upd_ne (na n),upd_ne (nd q)];exact n
    there:=fun b o q _=> by
      by_cases hb:b=a
      · exact ⟨_,by rw [hb];exact hx⟩
      · exact ⟨o,k b o hb q⟩
    tups:=fun b xs q=> by rw [upd_ne (at_ne e q exo_tup),upd_ne (ne_of_none q hnd)];exact q
    frzs:=fun b o v q=> by rw [upd_ne (at_ne e q exo_frz),upd_ne (ne_of_none q hnd)];exact q
    tbls:=fun b ps q=> ⟨#[],by rw [upd_ne (at_ne e q exo_tbl),upd_ne (ne_of_none q hnd),q];simp⟩ }
  refine h dx _ hnd dne (I.un (t':=tk') U1 fun b o q=> ?_)
  by_cases hb:b=a
  · subst hb
    rw [upd_same] at q
    cases q
    exact exo_ok hx
  rw [upd_ne hb] at q
  by_cases hd:b=dx
  · subst hd
    rw [upd_same] at q
    cases q
    exact exd_ok hn (relO_put (fs:=[]) ry fun g=> True.intro)
  rw [upd_ne hd] at q
  exact (I.hok b o q).stay (fun c v hc z=> k c v (by
      rcases hc with hc | hc
      · rw [hc];exact hb
      · exact at_ne e hc exo_own) z)
    (fun c hc=> by rw [upd_ne (at_ne e hc exo_own),upd_ne (ne_of_none hc hnd)];exact hc) (fun c xs hc=> by rw [upd_ne (at_ne e hc exo_tup),upd_ne (ne_of_none hc hnd)];exact hc)
theorem B4R (T:OexG X.K C) (I:L2.Inv X pins σ H s) (e:H a=some (exo a C (some dx))) (ed:H dx=some (exd dx fs)) (hl:fs.length≤900) (hno:PySem.W.findIn X.K (.ref C) f=some none) (ry:RelV y u)
    (h:∀s',L2.Inv X pins σ (upd H dx (exd dx ((f,y)::fs))) s'→Q () s'):wpAny (model X.prog X.w) A (setAttr (.ref a) f u) Q E s:=by
  obtain ⟨cd,bmB,hcl,hm,hh⟩:=T.data
  obtain ⟨t1,ho⟩:=exo_at I.hok e
  obtain ⟨mA,hns,rel⟩:=exd_at I.hok ed
  have hw:=within_of rel
  obtain ⟨hp,g,d,t,os⟩:=s
  obtain ⟨oD,_,_,hoD,_,_⟩:=hns.count hw
  refine PySem.W.set_plain I.kIn (ox:={ cls:= .ref C,dict:=some dx,data:= .fields #[.ref t1,.none,.none,.none,.bool false,.none] }) (od:=some oD) ⟨ho,rfl,rfl,hoD⟩ T.sa ?_
  refine B3x I.kIn ho hns hw (by rw [List.length_map];omega) hcl hm hh hno (fun h' tk' k hn=> ?_)
  have hd:∃o,h'.get? dx=some o:=by
    obtain ⟨o,_,_,e',_⟩:=hn
    exact ⟨o,e'⟩
  exact h _ (I.write (t':=tk') (x:=dx) (e:=dx) (o:=exd dx ((f,y)::fs)) (by rw [ed];exact True.intro) (.inl rfl) k hd (exd_ok hn (relO_put ry rel)))
end
def B6x (K:PySem.W.Frag) (f:Str) (to te:TE):TS:=fun D σ H=> te σ H fun y H1=> to σ H1 fun x H2=> ∃a C:Addr,x= .ref a∧OexG K C∧PySem.W.findIn K (.ref C) f=some none∧
  ((H2 a=some (exo a C none)∧∀dx,H2 dx=none→dx≠a→D.nx σ (upd (upd H2 dx (exd dx [(f,y)])) a (exo a C (some dx))))∨
    ∃(dx:Addr) (fs:List (Str×V)),H2 a=some (exo a C (some dx))∧H2 dx=some (exd dx fs)∧fs.length≤900∧D.nx σ (upd H2 dx (exd dx ((f,y)::fs))))
section
variable {X:Cx} {o e:Expr} {es:List Expr} {to te:TE} {ta:TA} {f:Str} {p p' pos:Pos}
theorem A8o (ho:PE X o to) (he:PE X e te) (hs:swapsWith e (some (.Attribute o f p')) pos.line X.env=pure false:=by rfl):PS X (.Assign [.Attribute o f p'] e pos) (B6x X.K f to te):=by
  refine ⟨fun pins s σ H D I h=> ?_⟩
  refine plainObj_wpAny_Assign_Attribute (thn (he.run pins s σ H _ I h) fun v s1 ⟨y,H1,I1,r1,q1⟩=> thn (ho.run pins s1 σ H1 _ I1 q1) fun u s2 ⟨x,H2,I2,r2,a,C,ex,T,hno,q⟩=> ?_) hs
  subst ex
  obtain rfl:u=Value.ref a:=r2
  rcases q with ⟨ea,q⟩ | ⟨dx,fs,ea,ed,hl,q⟩
  · exact B3n T I2 ea hno r1 fun dx s' n ne J=> ⟨σ,_,J,q dx n ne⟩
  · exact B4R T I2 ea ed hl hno r1 fun s' J=> ⟨σ,_,J,q⟩
abbrev MkG (C:Addr) (sp:Sp) (vs:List V) (H1:Hp) (Q:XK):Prop:=vs.length≤1000∧∀a,H1 a=none→sp (.ref a::vs) (upd H1 a (exo a C none))
  (fun v H2=> v= .non∧∃(d:Addr) (fs:List (Str×V)),H2 a=some (exo a C (some d))∧H2 d=some (exd d fs)∧H1 d=none∧Q (.ref C) (some d) (upd (L2.del H2 a) d (.xd fs))) (fun _ _ _=> False)
theorem B6D {CX:CXT} {C fI:Addr} {k:Nat} {fd:FuncData} {ps:List Str} {sp:Sp} {pins:List (Addr×Obj)} {s:Shared} {σ:L2.St} {H:Hp} {us:List Value} {vs:List V} {Q:XK} (T:OexG X.K C) (iC:PySem.W.findIn X.K (.ref C) "__init__"=some (some (.ref fI)))
    (tI:PySem.W.typeIn X.K (.ref fI)=some (.type "function")) (F1:FnOk X.prog X.w X.K X.mg X.base CX k fI fd ps sp) (hr:Room (k+1) X.A) (hb:Binds X.K fd ps []) (hx:Passes CX X (fun _ _ _=> False)) (I1:L2.Inv X pins σ H s) (r1:Vals vs us) (q1:MkG C sp vs H Q):
    wpAny (model X.prog X.w) X.A (call (.ref C) us) (MkP X pins σ Q) X.xe s:=by
  obtain ⟨nm,q,N,bs,bm,bmB,B,ni,ii,sn,sub,ab,col,dd,k0,k1,k2,k3,k5,hC,FB,hm⟩:=T.cls
  obtain ⟨hz,q1⟩:=q1
  obtain ⟨hp,g,dr,tk,os⟩:=s
  have hsz:hp.objs.size≤hp.objs.size+1:=Nat.le_succ _
  have hn:H (hp.objs.size+1)=none:=I1.hok.fresh hsz
  have hq:=q1 (hp.objs.size+1) hn
  have kk:∀b o,hp.get? b=some o→((hp.push (PySem.W.kdv_tup us)).push (PySem.HandSPX.excO C hp.objs.size)).get? b=some o:=fun b o e=> Heap.get?_push_of_some _ (Heap.get?_push_of_some _ e)
  have hget:((hp.push (PySem.W.kdv_tup us)).push (PySem.HandSPX.excO C hp.objs.size)).get? (hp.objs.size+1)=some (PySem.HandSPX.excO C hp.objs.size):=by heap_get
  have I2:L2.Inv X pins σ (upd H (hp.objs.size+1) (exo (hp.objs.size+1) C none)) ⟨(hp.push (PySem.W.kdv_tup us)).push (PySem.HandSPX.excO C hp.objs.size),g,dr,tk,os⟩:=
    I1.laid (t':=tk) (a:=hp.objs.size+1) (o:=exo (hp.objs.size+1) C none) (h':=(hp.push (PySem.W.kdv_tup us)).push (PySem.HandSPX.excO C hp.objs.size)) kk hsz (exo_ok hget)
  have r2:Vals (V.ref (hp.objs.size+1)::vs) (Value.ref (hp.objs.size+1)::us):= .cons rfl r1
  have hl:((Value.ref (hp.objs.size+1)::us)++[]).length=ps.length:=by
    have e:=r2.length
    rw [F1.len _ _ _ _ hq] at e
    rw [List.append_nil]
    exact e.symm
  have hus:us.length≤sizeLine:=by
    rw [←Paired.length r1,sizeLine_eq]
    omega
  have b2:=hb _ (Value.ref (hp.objs.size+1)::us) I2.kIn hl
  rw [List.append_nil] at b2
  refine wpAny_call (PySem.HandSPX.call_own FB hm.cont (I1.kIn _ _ hC) (PySem.W.looks_findIn I1.kIn iC) (fun self=> PySem.W.bind_fn I1.kIn self tI) hus
    (codeAny_mono (F1.run _ X.stack _ _ ⟨Value.ref (hp.objs.size+1)::us,[]⟩ (Value.ref (hp.objs.size+1)::us) _ _ (fun _ _ _=> False) (hr.make C us []) (I2.env0.make C us []) b2 r2 hq) fun r s' hq'=> ?_))
  cases r with
  | error er=> exact hx pins σ _ _ er s' I2 hq'
  | ok fl=>
    cases fl with
    | ret u=>
      obtain ⟨v,H2,os2,bare2,un2,hok2,rv,ev,d,fs,ea,ed,hd1,q2⟩:=hq'
      subst ev
      obtain ⟨h2,g2,d2,t2,os'⟩:=s'
      exact ⟨rv,mk_end (raises_own T.exC T.tyC) I1 hsz kk un2 hok2 os2 bare2 ea ed hd1 q2⟩
    | next=> exact False.elim hq'
    | brk=> exact False.elim hq'
    | cont=> exact False.elim hq'
def B7p (C:Addr) (sp:Sp) (ta:TA):L2.St→Hp→XK→Prop:=fun σ H Q=> ta σ H fun vs H1=> MkG C sp vs H1 Q
theorem B6Q {CX:CXT} {x:Str} {C fI:Addr} {k:Nat} {fd:FuncData} {ps:List Str} {sp:Sp} (T:OexG X.K C) (iC:PySem.W.findIn X.K (.ref C) "__init__"=some (some (.ref fI))) (tI:PySem.W.typeIn X.K (.ref fI)=some (.type "function"))
    (F1:FnOk X.prog X.w X.K X.mg X.base CX k fI fd ps sp) (hr:Room (k+1) X.A) (hb:Binds X.K fd ps []) (hx:Passes CX X (fun _ _ _=> False)) (hg:Gl X x) (hm:X.mg x=some (.ref C)) (ha:PA X (e::es) ta)
    (hdb:(x==("__debug__":Str))=false:=by decide) (he:starEach (e::es) X.env=(false,eval e X.env)::starEach es X.env:=by rfl) (hpl:(backTo pos (starEach es X.env)).any (·.1)=false:=by rfl):
    PMk X (.Call (.Name x p) (e::es) [] pos) (B7p C sp ta):=by
  intro pins s σ H Q I h
  refine wpAny_Call_Name_kw (ld_glob I hg hm ?_ hdb)
  exact PySem.W.callWith_K (h₀:=X.base) I.ok.mod.kin T.kC (thn (ha.run pos pins s σ H _ I h) fun us s1 ⟨vs,H1,I1,r1,q1⟩=> ⟨I1.kIn,B6D T iC tI F1 hr hb hx I1 r1 q1⟩) he hpl
end
def initF {α:Type} (word:α) (fs:List Str) (vs:List α):List (Str×α):=(fs.zip vs).reverse++[(("word":Str),word)]
def A9G (C:Addr) (word:Str) (fs:List Str):Sp:=fun vs H Q _=> ∃a us,vs= .ref a::us∧us.length=fs.length∧H a=some (exo a C none)∧
  ∀d H2,H d=none→d≠a→H2 a=some (exo a C (some d))→H2 d=some (exd d (initF (V.str word) fs us))→(∀b,b≠a→b≠d→H2 b=H b)→Q .non H2
section
variable {P:Program} {w:World} {K:PySem.W.Frag} {mg:Str→Option Value} {base:Heap} {qual word f g:Str} {params:Arguments} {scope:Scope} {fI C:Addr} {fd:FuncData} {q1 q2 q3 q4 q5 q6 q7 q8 r5 r6 r7 r8:Pos} {j:Nat}
theorem B66 (F:FunD K "__init__" qual params [.Assign [.Attribute (.Name "self" q1) "word" q2] (.Constant (.str word) j q3) q4,.Assign [.Attribute (.Name "self" q5) f q6] (.Name f q7) q8] scope [] [] fI fd) (S:FnScope ["self",f] ["self",f] scope)
    (T:OexG K C) (nw:PySem.W.findIn K (.ref C) "word"=some none) (nf:PySem.W.findIn K (.ref C) f=some none) (hd:(f==("__debug__":Str))=false:=by decide) (hcd:(f==("__classdict__":Str))=false:=by decide):
    FnOk P w K mg base (L2.CX P w) 1 fI fd ["self",f] (A9G C word [f]):=by
  have v0:Vis scope "self":=(S.par "self" (by simp)).imp id .inl
  have v1:Vis scope f:=(S.par f (by simp)).imp id .inl
  refine F.ok S (fun vs H Q E ⟨a,us,e,l,_⟩=> by rw [e];simpa using l) fun cdv A outer s H vs Q E hr ⟨a,us,e,l,ea,q⟩=> ?_
  subst e
  obtain ⟨y,rfl⟩:∃y,us=[y]:=by
    match us,l with
    | [y],_=> exact ⟨y,rfl⟩
  refine ⟨_,pss_cons (A8o (pe_var (i:=0) rfl v0) pe_str) (pss_one (A8o (pe_var (i:=0) rfl v0) (pe_var (i:=1) rfl v1 hd hcd))),?_⟩
  refine ⟨.ref a,rfl,a,C,rfl,T,nw,.inl ⟨ea,fun d nd da=> ?_⟩⟩
  refine ⟨y,rfl,.ref a,rfl,a,C,rfl,T,nf,.inr ⟨d,_,upd_same,by rw [upd_ne da,upd_same],by simp,?_⟩⟩
  exact q d _ nd da (by rw [upd_ne (Ne.symm da),upd_same]) (by rw [upd_same];rfl) fun b h1 h2=> by rw [upd_ne h2,upd_ne h1,upd_ne h2]
end
structure XkOk (P:Program) (w:World) (K:PySem.W.Frag) (mg:Str→Option Value) (base:Heap) (x word:Str) (fs:List Str):Prop where
  gl:mg x=some (.ref (He.ga K x))
  cls:OexG K (He.ga K x)
  ini:∃fI fd ps,PySem.W.findIn K (.ref (He.ga K x)) "__init__"=some (some (.ref fI))∧PySem.W.typeIn K (.ref fI)=some (.type "function")∧Binds K fd ps []∧FnOk P w K mg base (L2.CX P w) 1 fI fd ps (A9G (He.ga K x) word fs)
def A5n (E:AExc→A1→AH→Prop) (x word:Str) (fs:List Str) (t:E4):C4:=fun _ env h=> t env h fun ws env1 h1=> E ⟨x,initF (W.str word) fs ws⟩ env1 h1
theorem RepL.initF {K:PySem.W.Frag} {H:Hp} {word:Str}:∀{fs:List Str} {ws:List W} {vs:List V},RepL K H ws vs→ws.length=fs.length→FRep K H (initF (W.str word) fs ws) (initF (V.str word) fs vs):=fun {fs ws vs} r l=> by
  have lv:vs.length=fs.length:=by rw [←r.length,l]
  refine ⟨?_,?_⟩
  · unfold Ab.initF
    rw [List.map_append,List.map_append,List.map_reverse,List.map_reverse,List.map_fst_zip (by omega),List.map_fst_zip (by omega)]
    rfl
  · unfold Ab.initF
    rw [List.map_append,List.map_append,List.map_reverse,List.map_reverse,List.map_snd_zip (by omega),List.map_snd_zip (by omega)]
    refine RepL.append ?_ (.cons .str .nil)
    clear l lv
    induction ws generalizing vs with
    | nil=> rw [r.of_nil];exact .nil
    | cons w ws ih=>
      obtain ⟨v,t,rfl,a,b⟩:=r.of_cons
      rw [List.reverse_cons,List.reverse_cons]
      exact (ih b).append (.cons a .nil)
section
variable {X:Cx} {G:Gx} {x word:Str} {fs:List Str} {t:E4} {e:Expr} {es:List Expr} {E:AExc→A1→AH→Prop} {p pos pos2:Pos} {k:Nat}
theorem B4K (R:XkOk X.prog X.w X.K X.mg X.base x word fs) (gk:G.K=X.K) (hc:X.calm=true) (tk:Takes X (cW G E)) (hr:Room k X.A) (hk:2≤k) (hg:Gl X x) (ha:AN X G (e::es) fs.length t) (hl:fs.length≤900:=by decide)
    (hdb:(x==("__debug__":Str))=false:=by decide) (he:starEach (e::es) X.env=(false,eval e X.env)::starEach es X.env:=by rfl) (hpl:(backTo pos (starEach es X.env)).any (·.1)=false:=by rfl):
    AS X G (.Raise (some (.Call (.Name x p) (e::es) [] pos)) none pos2) (A5n E x word fs t):=by
  obtain ⟨fI,fd,ps,iC,tI,hb,F⟩:=R.ini
  refine ⟨fun D D' env h l q=> q,PS.imp (ps_raise hc tk (B6Q R.cls iC tI F (hr.mono hk) hb (passes_call (W:=fun _ _ _ _=> False) takes0 fun _ _ _ _ z=> z) hg R.gl ha.aa.pa hdb he hpl)) fun D σ H ⟨env,h,Da,S,q,l⟩=> ?_⟩
  refine ⟨env,h,S,ha.aa.mono env h _ _ (fun ws env1 h1 ⟨wl,z⟩ vs H1 S1 x1 r1=> ?_) (ha.ln _ _ _ q)⟩
  have lv:vs.length=fs.length:=by rw [←r1.length,wl]
  refine ⟨by omega,fun a na=> ⟨a,vs,rfl,lv,upd_same,fun d H2 nd da e1 e2 e3=> ⟨rfl,d,_,e1,e2,?_,?_⟩⟩⟩
  · rw [upd_ne da] at nd;exact nd
  · have nd1:H1 d=none:=by rw [upd_ne da] at nd;exact nd
    have nw:New H1 (upd (L2.del H2 a) d (.xd (initF (V.str word) fs vs))):=fun p o ep=> by
      have pa:p≠a:=ne_of_none ep na
      have pd:p≠d:=ne_of_none ep nd1
      rw [upd_ne pd,del_ne pa,e3 p pa pd,upd_ne pa]
      exact ep
    refine ⟨⟨x,initF (W.str word) fs ws⟩,env1,h1,nw.bs S1,⟨by rw [gk],d,_,rfl,upd_same,RepL.initF (RepL.mono nw.keeps _ _ r1) wl⟩,z⟩
end
end Ab
namespace Ab
open PySem PySem.Spec PyProof.Rows L2
abbrev A0G:=Addr→Value→Option Addr→TS
def A22 (K:PySem.W.Frag) (Wout:WX) (D:Ends):List (Value×Nat×A0G)→WX
  | []=> Wout
  | (c,i,u)::r=> fun cls d σ H=> ∃b,PySem.W.exmOne K cls c=some b∧
      (b=true→∀x,H x=none→u x cls d { nx:=fun σ1 H1=> D.nx (σ1.set i none) H1,rt:=D.rt,bk:=fun σ1 H1=> D.bk (σ1.set i none) H1,ct:=fun σ1 H1=> D.ct (σ1.set i none) H1 } (σ.set i (some (.ref x))) H)∧
      (b=false→A22 K Wout D r cls d σ H)
inductive HdsAs (X:Cx):List ExceptHandler→List (Value×Nat×A0G)→Prop where
  | nil:HdsAs X [] []
  | cons {x n:Str} {c:Value} {i:Nat} {b:Stmt} {suite:List Stmt} {np pos:Pos} {u:A0G} {hds:List ExceptHandler} {l:List (Value×Nat×A0G)} (hi:X.N[i]? =some n) (hln:X.env.kindOf n=some .local) (hc:Names X x c)
      (hsu:∀(a:Addr) (oe:Obj) (cls:Value) (d:Option Addr) (pn:List (Addr×Obj)),Zc cls d oe→(∃vs,oe.data= .fields vs)→PSs (X.suite a ((a,oe)::pn)) (b::suite) (u a cls d)) (t:HdsAs X hds l):
      HdsAs X (.ExceptHandler (some (.Name x np)) (some n) (b::suite) pos::hds) ((c,i,u)::l)
section
variable {X:Cx} {pins:List (Addr×Obj)} {s:Shared} {Wout:WX} {D:Ends}
theorem B6y {B h:Heap} {sI:Shared} {pinsI:List (Addr×Obj)} {σ:L2.St} {H:Hp} {a:Addr} {cls:Value} {d:Option Addr} (stk:X.stack=X.env::X.outer) (fr:X.env.frame=some X.env.locals) (nd:X.N.Nodup) (tk:Takes X Wout) (ok:X.Ok)
    (J:L2.Inv X pins σ H sI) (kb:∀b o,sI.heap.get? b=some o→b∉frs X.stack→B.get? b=some o) (up:sI.heap.UpToSlots s.heap) (na:H a=none) (os:s.os=sI.os) (ag:AllBare s.gens)
    (fl:HandSPX.FlyingZ B (X.env::X.outer) a (Zc cls d) h) (uph:s.heap.UpToSlots h) (hk:X.A.frames=some (X.env::X.outer)):
    ∀{hds:List ExceptHandler} {l:List (Value×Nat×A0G)},HdsAs X hds l→A22 X.K Wout D l cls d σ H→wpAny (model X.prog X.w) X.A (handleBy (.ref a) X.env hds) (SP X pins D) X.xe { s with heap:=h }:=by
  intro hds l hh
  induction hh with
  | nil=>
    intro wish
    have wish:Wout cls d σ H:=wish
    refine wpAny_handleBy_nil ?_
    obtain ⟨_,_,_,ox,xs,T,oT,_,hx,_,hdx,h1x,_⟩:=id fl
    unfold PySem.passOn
    refine wpAny_bind (wpAny_field hx hdx h1x ?_)
    rw [if_neg (by simp:¬((Value.ref T==Value.none)=true))]
    have away:wpAny (model X.prog X.w) X.A (setFlight (.ref a) X.env.frame) (fun _ r=> wpAny (model X.prog X.w) X.A (throw (.ref a):Sem Flow) (SP X pins D) X.xe r) X.xe { s with heap:=h }:=by
      rw [fr]
      refine HandSPX.setFlight_upZ fl fun g hg ug=> wpAny_throw (tk _ _ ?_)
      exact ⟨a,B,sI,pins,σ,H,cls,d,rfl,J,kb,(up.trans uph).trans ug,.inr (.inr (by rw [stk];exact hg)),na,os,ag,wish⟩
    first
      | exact wpAny_bind (wpAny_pure (wpAny_bind away))
      | exact wpAny_bind away
  | cons hi hln hc hsu t ih=>
    rename_i x n c i b suite np pos u hds l
    intro wish
    obtain ⟨y,hy,yes,no⟩:=wish
    have lc:Loc X.env.scope n:= .inl hln
    have J1:L2.Inv X pins σ H { s with heap:=h }:=J.landed kb fl.1 (up.trans uph) os ag
    obtain ⟨ox,xs,hx,hzx,hdx⟩:=fl.there
    have off:∀{g:Heap} {o:Obj} {vs:Array Value},g.FunFrames B (X.env::X.outer)→g.get? a=some o→o.data= .fields vs→a∉frs (X.env::X.outer):=fun {g o vs} ff e dd hm=> by
      obtain ⟨_,o1,e1,nf⟩:=ff.mem hm
      rw [e] at e1;cases e1
      exact nf _ dd
    have offA:=off fl.2.2.1 hx hdx
    have aL:a≠X.env.locals:=fun z=> offA (List.mem_filterMap.mpr ⟨X.env,List.mem_cons_self,by rw [fr,z]⟩)
    have aF:a∉X.fs:=fun hm=> by
      obtain ⟨e,he,q⟩:=List.mem_filterMap.mp hm
      exact offA (List.mem_filterMap.mpr ⟨e,List.mem_cons_of_mem _ he,q⟩)
    have J2:=J1.suite hx hdx na aL aF
    have ty:PySem.W.Looks (model X.prog X.w) h (typeOf (.ref a)) cls:=fun A Q E s k q=> wpAny_typeOf_ref (k _ _ hx) (by rw [hzx.1];exact q)
    have hit:=PySem.W.exm_one (M:=model X.prog X.w) (J1.kIn) ty hy
    have named:∀{Q:Value→Shared→Prop} {E:Value→Shared→Prop},Q c { s with heap:=h }→wpAny (model X.prog X.w) (X.A.mark (some (.ref a))) (eval (.Name x np) X.env) Q E { s with heap:=h }:=fun {Q E} q=> by
      obtain ⟨g1,g2,g3 | ⟨g3,g4,g5⟩⟩:=hc
      · exact ld_glob (X:=X.suite a ((a,ox)::(X.pn++pins))) J2 g1 g3 q g2
      · exact ld_blt (X:=X.suite a ((a,ox)::(X.pn++pins))) J2 g1 g3 g4 q g5 g2
    refine wpAny_handleBy_cons (codeAny_handlers_test (named (hit.here ?_))) (by intro z;cases z)
    cases y with
    | false=> exact ih (no rfl)
    | true=>
      refine codeAny_handlers_suite_as (HandSPX.lands_againZ fl fun g flg ug=> ?_)
      have J3:L2.Inv X pins σ H { s with heap:=g }:=J.landed kb flg.1 ((up.trans uph).trans ug) os ag
      obtain ⟨oy,ys,hoy,hzy,hdy⟩:=flg.there
      have J4:=J3.suite hoy hdy na aL aF
      refine store_ok (X:=X.suite a ((a,oy)::(X.pn++pins))) (v:= .ref a) J4 nd hi lc rfl (fun s5 J5=> ?_) (.inr hln)
      refine wpAny_mono ((hsu a oy cls d (X.pn++pins) hzy ⟨_,hdy⟩).run [] s5 _ H _ J5 (yes rfl a na)) (fun f s6 done=> ?_) (fun _ _ z=> False.elim z)
      have shut:∀{σ6:L2.St} {H6:Hp} {Q:Shared→Prop},L2.Inv (X.suite a ((a,oy)::(X.pn++pins))) [] σ6 H6 s6→(∀s7,L2.Inv X pins (σ6.set i none) H6 s7→Q s7)→
          wpAny (model X.prog X.w) X.A (do bindName X.env n .none;unbindBehindTheSuite X.env n pos) (fun _ s7=> Q s7) X.xe s6:=fun {σ6 H6 Q} J6 hq=> gone_ok (J6.unsuite ok) nd hi hln hq
      cases f with
      | next=>
        obtain ⟨σ6,H6,J6,q6⟩:=done
        exact shut J6 fun s7 J7=> ⟨_,_,J7,q6⟩
      | brk=>
        obtain ⟨σ6,H6,J6,q6⟩:=done
        exact shut J6 fun s7 J7=> ⟨_,_,J7,q6⟩
      | cont=>
        obtain ⟨σ6,H6,J6,q6⟩:=done
        exact shut J6 fun s7 J7=> ⟨_,_,J7,q6⟩
      | ret v=>
        obtain ⟨v6,σ6,H6,J6,r6,q6⟩:=done
        exact shut J6 fun s7 J7=> ⟨_,_,_,J7,r6,q6⟩
theorem B5O {body:List Stmt} {h₀:ExceptHandler} {hds:List ExceptHandler} {l:List (Value×Nat×A0G)} {tb:WX→TS} {pos:Pos} (stk:X.stack=X.env::X.outer) (fr:X.env.frame=some X.env.locals) (nd:X.N.Nodup) (tk:Takes X Wout)
    (hb:∀(W:WX) (pn:List (Addr×Obj)) (xe:Value→Shared→Prop),Takes (X.tr pn xe) W→PSs (X.tr pn xe) body (tb W)) (hh:HdsAs X (h₀::hds) l):
    PS X (.Try body (h₀::hds) [] [] pos) (fun D σ H=> tb (A22 X.K Wout D l) D σ H):=by
  refine ⟨fun pins s σ H D I q=> ?_⟩
  have ok:=I.ok
  have hk:X.A.frames=some (X.env::X.outer):=by rw [ok.frames,stk]
  refine wpAny_Try_except ?_
  have tkb:Takes (X.tr (X.pn++pins) fun e r=> wpAny (model X.prog X.w) X.A (noteFrame e X.env) (fun _ r2=> wpAny (model X.prog X.w) X.A (setFlight e none) (fun _ r3=>
      wpAny (model X.prog X.w) X.A (handleBy e X.env (h₀::hds)) (SP X pins D) X.xe r3) X.xe r2) X.xe r) (A22 X.K Wout D l):=fun e r xx=> by
    obtain ⟨a,B,sI,pinsI,σ1,H1,cls,d,rfl,J1,kb,up,sky,na,os,ag,wish⟩:=xx
    have J:L2.Inv X pins σ1 H1 sI:=J1.ofTry ok
    have sky1:Sky B (X.env::X.outer) a (Zc cls d) X.env.locals r.heap:=by rw [←stk];exact sky
    change wpAny (model X.prog X.w) X.A (noteFrame (.ref a) X.env) _ _ _
    exact Sky.land Zc.steady hk fr sky1 fun h fl uph=> B6y (pinsI:=pinsI) stk fr nd tk ok J kb up na os ag fl uph hk hh wish
  refine wpAny_mono ((hb _ _ _ tkb).run [] s σ H D (I.toTry _) q) (fun f s1 done=> ?_) fun e s1 he=> he
  cases f with
  | next=>
    obtain ⟨σ1,H1,J1,z⟩:=done
    exact wpAny_execs_nil ⟨σ1,H1,J1.ofTry ok,z⟩
  | brk=>
    obtain ⟨σ1,H1,J1,z⟩:=done
    exact ⟨σ1,H1,J1.ofTry ok,z⟩
  | cont=>
    obtain ⟨σ1,H1,J1,z⟩:=done
    exact ⟨σ1,H1,J1.ofTry ok,z⟩
  | ret u=>
    obtain ⟨v,σ1,H1,J1,r,z⟩:=done
    exact ⟨v,σ1,H1,J1.ofTry ok,r,z⟩
end
end Ab
namespace Ab
open PySem PySem.Spec PyProof.Rows L2
abbrev XT:=AExc→(W→Prop)→Prop
def A2x (f:Str):XT:=fun x K=> ∃w,x.fs.lookup f=some w∧K w
abbrev XTs:=AExc→(List W→Prop)→Prop
def A6W (t:XT):Prop:=∀x K K',(∀w,K w→K' w)→t x K→t x K'
def B6C (t:XTs):Prop:=∀x K K',(∀w,K w→K' w)→t x K→t x K'
structure XS (G:Gx) (i:Nat) (a:Addr) (cls:Value) (d:Option Addr) (x:AExc) (env:A1) (h:AH) (σ:L2.St) (H:Hp):Prop where
  bs:BS G env h σ H
  at_:σ[i]? =some (some (V.ref a))
  rep:XRep G.K H x cls d
theorem XRep.new {K:PySem.W.Frag} {H H':Hp} {x:AExc} {cls:Value} {d:Option Addr} (n:New H H') (r:XRep K H x cls d):XRep K H' x cls d:=by
  obtain ⟨e,dd,vs,ed,ea,f1,f2⟩:=r
  exact ⟨e,dd,vs,ed,n _ _ ea,f1,RepL.mono n.keeps _ _ f2⟩
structure XV (X:Cx) (G:Gx) (i:Nat) (ks:List Str) (e:Expr) (t:XT):Prop where
  mono:A6W t
  pe:∀(a:Addr) (oe:Obj) (cls:Value) (d:Option Addr) (pn:List (Addr×Obj)),Zc cls d oe→(∃vs,oe.data= .fields vs)→PE (X.suite a ((a,oe)::pn)) e (fun σ H Q=> ∃x env h,XS G i a cls d x env h σ H∧x.n∈ks∧
    t x fun w=> ∀v H',New H H'→Rep G.K H' w v→Q v H')
structure XVs (X:Cx) (G:Gx) (i:Nat) (ks:List Str) (es:List Expr) (t:XTs):Prop where
  mono:B6C t
  pa:∀(a:Addr) (oe:Obj) (cls:Value) (d:Option Addr) (pn:List (Addr×Obj)),Zc cls d oe→(∃vs,oe.data= .fields vs)→PA (X.suite a ((a,oe)::pn)) es (fun σ H Q=> ∃x env h,XS G i a cls d x env h σ H∧x.n∈ks∧
    t x fun ws=> ∀vs H',New H H'→RepL G.K H' ws vs→Q vs H')
theorem FRep.lookup {K:PySem.W.Frag} {H:Hp}:∀{fs:List (Str×W)} {vs:List (Str×V)} {f:Str} {w:W},FRep K H fs vs→fs.lookup f=some w→∃v,vs.lookup f=some v∧Rep K H w v
  | [],_,_,_,_,e=> by cases e
  | (g,x)::fs,vs,f,w,⟨n,r⟩,e=> by
    obtain ⟨v,t,ev,rv,rt⟩:=RepL.of_cons (K:=K) (H:=H) r
    cases vs with
    | nil=> cases ev
    | cons p vs=>
      obtain ⟨g',y⟩:=p
      simp only [List.map_cons,List.cons.injEq] at n ev
      obtain ⟨n1,n2⟩:=n
      obtain ⟨v1,v2⟩:=ev
      subst n1 v1 v2
      rw [List.lookup_cons] at e ⊢
      cases q:(f==g) with
      | true=>
        rw [q] at e
        cases e
        exact ⟨_,rfl,rv⟩
      | false=>
        rw [q] at e
        exact FRep.lookup (fs:=fs) (vs:=vs) ⟨n2,rt⟩ e
section
variable {X:Cx} {G:Gx} {i:Nat} {ks:List Str} {n f:Str} {p pos:Pos} {e:Expr} {es:List Expr}
theorem B5v (gk:G.K=X.K) (T:∀c∈ks,XfC X.K (He.ga X.K c)∧PySem.W.findIn X.K (.ref (He.ga X.K c)) f=some none) (hi:X.N[i]? =some n) (hv:Vis X.env.scope n) (hd:(n==("__debug__":Str))=false:=by decide) (hcd:(n==("__classdict__":Str))=false:=by decide)
    (hb:attributeBase (.Name n p) f X.env (eval (.Name n p) X.env)=eval (.Name n p) X.env:=by rfl):XV X G i ks (.Attribute (.Name n p) f pos) (A2x f):=by
  refine ⟨fun x K K' k ⟨w,e,q⟩=> ⟨w,e,k _ q⟩,fun a oe cls d pn hz hf=> ⟨fun pins s σ H Q I ⟨x,env,h,S,hk,w,el,q⟩=> ?_⟩⟩
  obtain ⟨t1,t2⟩:=T x.n hk
  obtain ⟨ec,dd,vs,ed,ea,fr⟩:=S.rep
  obtain ⟨v,lv,rv⟩:=FRep.lookup fr el
  refine (pe_xf (C:=He.ga X.K x.n) (n:=f) t1 t2 hz hf (pe_var (X:=X.suite a ((a,oe)::pn)) (i:=i) hi hv hd hcd) hb).run pins s σ H Q I ?_
  exact ⟨.ref a,S.at_,rfl,by rw [ec,gk],dd,vs,v,ed,ea,lv,q v H (New.refl H) rv⟩
end
abbrev y6:=List (Str×Nat×Nat×XT)
def A0y (ks:List Str):y6→(AExc→A1→AH→Prop)→AEnds→AExc→A1→AH→Prop
  | [],E,_=> E
  | (c,i,j,sv)::r,E,D=> fun x env h=> x.n∈ks∧i < env.length∧if A0T x.n c=true then sv x (fun w=> D.nx ((env.set j (some (.val w))).set i none) h) else A0y ks r E D x env h
def f7 (env:A1):Bool:=env.all fun o=> match o with
  | some (.own _)=> false
  | _=> true
def A6j (ks:List Str) (hs:y6) (E:AExc→A1→AH→Prop) (t:(AExc→A1→AH→Prop)→C4):C4:=fun D env h=> f7 env=true∧∃Ein,(∀x e k,Ein x e k→A0y ks hs E D x e k)∧t Ein D env h
theorem A8P {env:A1} (h:f7 env=true) {i:Nat} {c:Cont} (e:env[i]? =some (some (.own c))):False:=by
  have z:=List.all_eq_true.mp h _ (List.mem_of_getElem? e)
  cases z
theorem BS.unset {G:Gx} {env:A1} {h:AH} {σ:L2.St} {H:Hp} (S:BS G env h σ H) (i:Nat):BS G (env.set i none) h (σ.set i none) H:=by
  have at_:∀{j:Nat} {sv:SV},(env.set i none)[j]? =some (some sv)→j≠i∧env[j]? =some (some sv):=fun {j sv} e=> by
    by_cases z:i=j
    · subst z
      by_cases l:i < env.length
      · rw [List.getElem?_set_self l] at e;cases e
      · rw [List.getElem?_eq_none (by rw [List.length_set];omega)] at e;cases e
    · rw [List.getElem?_set_ne z] at e
      exact ⟨Ne.symm z,e⟩
  have out:∀{j:Nat},j≠i→(σ.set i none)[j]? =σ[j]? :=fun {j} z=> List.getElem?_set_ne (Ne.symm z)
  refine ⟨by rw [List.length_set,List.length_set];exact S.len,fun j w e=> ?_,fun j c e=> ?_,fun j k c c' p e1 e2 f1 f2=> ?_,S.hp,S.fr,S.ext,S.tr,S.tabs⟩
  · obtain ⟨n,e⟩:=at_ e
    rw [out n];exact S.val j w e
  · obtain ⟨n,e⟩:=at_ e
    rw [out n];exact S.own j c e
  · obtain ⟨n1,e1⟩:=at_ e1
    obtain ⟨n2,e2⟩:=at_ e2
    rw [out n1] at f1
    rw [out n2] at f2
    exact S.uni j k c c' p e1 e2 f1 f2
theorem BS.into {G:Gx} {env:A1} {h:AH} {σ:L2.St} {H:Hp} (S:BS G env h σ H) (no:f7 env=true):BS ⟨G.K,h,H⟩ env h σ H:=
  ⟨S.len,S.val,fun i c e=> (A8P no e).elim,fun i j c c' p e=> (A8P no e).elim,S.hp,fun p o e _ _=> e,fun a o e n=> (by have n:h a=none:=n;rw [n] at e;cases e),fun p o e=> ⟨o,e⟩,S.tabs⟩
theorem BS.outof {G:Gx} {env env':A1} {h h':AH} {σ σ':L2.St} {H H':Hp} (S:BS G env h σ H) (T:BS ⟨G.K,h,H⟩ env' h' σ' H'):BS G env' h' σ' H':=by
  have up:∀{p:Addr},H p=none→G.H0 p=none:=fun {p} n=> by
    cases q:G.H0 p with
    | none=> rfl
    | some o=> obtain ⟨u,e⟩:=S.tr p o q;rw [n] at e;cases e
  refine ⟨T.len,T.val,fun i c e=> ?_,T.uni,T.hp,fun p o e n y=> ?_,fun a o e n=> ?_,fun p o e=> ?_,T.tabs⟩
  · obtain ⟨p,a,b,x,y⟩:=T.own i c e
    exact ⟨p,a,b,x,up y⟩
  · have hn:h p=none:=by
      cases q:h p with
      | none=> rfl
      | some u=> have z:=S.ext p u q n;rw [z] at e;cases e
    exact T.fr p o (S.fr p o e n y) hn y
  · cases q:h a with
    | some u=> exact S.ext a u q n
    | none=> exact up (T.ext a o e q)
  · obtain ⟨u,q⟩:=S.tr p o e
    exact T.tr p u q
theorem BS.keeps {K:PySem.W.Frag} {G:Gx} {env env':A1} {h h':AH} {σ σ':L2.St} {H H':Hp} (S:BS G env h σ H) (T:BS ⟨K,h,H⟩ env' h' σ' H'):Keeps H H':=fun p o e i=> T.fr p o e (S.imm e i).1 i.nt
inductive HdA (X:Cx) (ks:List Str):List ExceptHandler→y6→Prop where
  | nil:HdA X ks [] []
  | cons {c n y:Str} {i j:Nat} {e:Expr} {np py pos pos':Pos} {sv:XT} {hds:List ExceptHandler} {l:y6} (hi:X.N[i]? =some n) (hln:X.env.kindOf n=some .local) (hg:Gl X c) (hm:X.mg c=some (.ref (He.ga X.K c)))
      (ex:∀k∈ks,PySem.W.exmOne X.K (.ref (He.ga X.K k)) (.ref (He.ga X.K c))=some (A0T k c)) (hj:X.N[j]? =some y) (hy:Loc X.env.scope y) (fy:X.fn y=true∨X.env.scope.names.lookup y=some .local) (ne:i≠j)
      (hv:∀G:Gx,G.K=X.K→XV X G i ks e sv) (hs:swapsWithSole [.Name y py] e pos.line X.env=pure false) (hw:swappedStores [.Name y py] e X.env=pure none) (h1:(assignEach [.Name y py] X.env).map (·.2)=[assign (.Name y py) X.env])
      (hdb:(c==("__debug__":Str))=false) (t:HdA X ks hds l):HdA X ks (.ExceptHandler (some (.Name c np)) (some n) [.Assign [.Name y py] e pos] pos'::hds) ((c,i,j,sv)::l)
def uTs (K:PySem.W.Frag) (ks:List Str) (i j:Nat) (sv:XT):A0G:=fun a cls d D σ H=> ∃G x env h,G.K=K∧XS G i a cls d x env h σ H∧x.n∈ks∧sv x fun w=> ∀v H',New H H'→Rep G.K H' w v→D.nx (σ.set j (some v)) H'
def A6e (K:PySem.W.Frag) (ks:List Str):y6→List (Value×Nat×A0G)
  | []=> []
  | (c,i,j,sv)::r=> (.ref (He.ga K c),i,uTs K ks i j sv)::A6e K ks r
theorem HdA.low {X:Cx} {ks:List Str} (nd:X.N.Nodup) {hds:List ExceptHandler} {l:y6} (hh:HdA X ks hds l):HdsAs X hds (A6e X.K ks l):=by
  induction hh with
  | nil=> exact .nil
  | cons hi hln hg hm ex hj hy fy ne hv hs hw h1 hdb t ih=>
    refine .cons hi hln ⟨hg,hdb,.inl hm⟩ (fun a oe cls d pn hz hf=> ?_) ih
    have pe:PE (X.suite a ((a,oe)::pn)) _ (fun σ H Q=> ∃G x env h,G.K=X.K∧XS G _ a cls d x env h σ H∧x.n∈ks∧_):=⟨fun pins s σ H Q I ⟨G,x,env,h,gk,r⟩=> ((hv G gk).pe a oe cls d pn hz hf).run pins s σ H Q I ⟨x,env,h,r⟩⟩
    refine pss_one (PS.imp (ps_asg pe (pg_name (X:=X.suite a ((a,oe)::pn)) nd hj hy fy) hs hw h1) fun D σ H ⟨G,x,env,h,gk,S,hk,q⟩=> ?_)
    exact ⟨G,x,env,h,gk,S,hk,(hv G gk).mono x _ _ (fun w z v H1 n1 r1=> z v H1 n1 r1) q⟩
section
variable {X:Cx} {G:Gx} {ks:List Str} {hs:y6} {body:List Stmt} {h₀:ExceptHandler} {hds:List ExceptHandler} {t:(AExc→A1→AH→Prop)→C4} {E:AExc→A1→AH→Prop} {pos:Pos}
theorem B2h {D D':AEnds}:∀{hds:List ExceptHandler} {hs:y6},HdA X ks hds hs→(∀e k,D.nx e k→D'.nx e k)→∀x e k,A0y ks hs E D x e k→A0y ks hs E D' x e k:=by
  intro hds hs hh l
  induction hh with
  | nil=> exact fun x e k z=> z
  | cons hi hln hg hm ex hj hy fy ne hv hs' hw h1 hdb t ih=>
    rename_i c n y i j e' np py pos pos' sv hds l'
    intro x e k ⟨z1,z2,z3⟩
    refine ⟨z1,z2,?_⟩
    by_cases b:A0T x.n c=true
    · rw [if_pos b] at z3 ⊢
      exact (hv ⟨X.K,(fun _=> none),(fun _=> none)⟩ rfl).mono x _ _ (fun w z=> l _ _ z) z3
    · rw [if_neg b] at z3 ⊢
      exact ih x e k z3
theorem B3A (gk:G.K=X.K) {G':Gx} {Da:AEnds} {D:Ends} {env0:A1} {h0:AH} {σ0:L2.St} {H0:Hp} (S0:BS G env0 h0 σ0 H0) (eg:G'=⟨G.K,h0,H0⟩) (l:Link G H0 Da D):
    ∀{hds:List ExceptHandler} {hs:y6},HdA X ks hds hs→∀(x:AExc) (env:A1) (h:AH) (σ:L2.St) (H:Hp) (cls:Value) (d:Option Addr),BS G' env h σ H→XRep G'.K H x cls d→A0y ks hs E Da x env h→A22 X.K (cW G E) D (A6e X.K ks hs) cls d σ H:=by
  subst eg
  intro hds hs hh
  induction hh with
  | nil=> intro x env h σ H cls d S r z;exact ⟨x,env,h,S0.outof S,r,z⟩
  | cons hi hln hg hm ex hj hy fy ne hv hs' hw h1 hdb t ih=>
    rename_i c n y i j e np py pos pos' sv hds l'
    intro x env h σ H cls d S r z
    obtain ⟨hk,ie,z⟩:=z
    have ec:cls= .ref (He.ga X.K x.n):=by rw [r.1,←gk]
    refine ⟨A0T x.n c,by rw [ec];exact ex _ hk,fun b a na=> ?_,fun b=> ?_⟩
    · rw [if_pos b] at z
      have nAt:BS ⟨G.K,h0,H0⟩ (env.set i (some (.val (.ref a)))) h (σ.set i (some (.ref a))) H:=S.set (r:= .val (.ref a)) i (show Rep G.K H (.ref a) (.ref a) from .ref) trivial
      have il:i < σ.length:=by rw [←S.len];exact ie
      refine ⟨⟨G.K,h0,H0⟩,x,_,h,gk,⟨nAt,List.getElem?_set_self il,r⟩,hk,(hv ⟨G.K,h0,H0⟩ gk).mono x _ _ (fun w z v H1 n1 r1=> ?_) z⟩
      have S1:BS ⟨G.K,h0,H0⟩ env h σ H1:=n1.bs S
      have S2:BS ⟨G.K,h0,H0⟩ (env.set j (some (.val w))) h (σ.set j (some v)) H1:=S1.set (r:= .val w) j r1 trivial
      have S3:=S2.unset i
      have e2:((σ.set i (some (V.ref a))).set j (some v)).set i none=(σ.set j (some v)).set i none:=by
        rw [List.set_comm _ _ ne,List.set_set]
      show D.nx (((σ.set i (some (V.ref a))).set j (some v)).set i none) H1
      rw [e2]
      exact l.nx _ _ _ _ (S0.outof S3) (S0.keeps S3) z
    · rw [if_neg (by rw [b];exact Bool.false_ne_true)] at z
      exact ih x env h σ H cls d S r z
def GLe (G G':Gx):Prop:=∀H:Hp,(∀p o,G'.H0 p=some o→G'.h0 p=none→NT o→H p=some o)→∀p o,G.H0 p=some o→G.h0 p=none→NT o→H p=some o
theorem GLe.refl {G:Gx}:GLe G G:=fun _ h=> h
theorem BS.gle {env:A1} {h:AH} {σ:L2.St} {H:Hp} (S:BS G env h σ H):GLe G ⟨G.K,h,H⟩:=fun H1 k p o e n y=> by
  have hn:h p=none:=by
    cases q:h p with
    | none=> rfl
    | some u=> have z:=S.ext p u q n;rw [z] at e;cases e
  exact k p o (S.fr p o e n y) hn y
theorem _root_.Ab.LamHas.to {Z:Cx} {G':Gx} {f:Addr} {n:Nat} {sp:F5} (L:LamHas Z G f n sp) (g:GLe G G') (pn:List (Addr×Obj)) (xe:Value→Shared→Prop):LamHas (Z.tr pn xe) G' f n sp:=
  ⟨L.m,fun s H k=> L.fn s H (g H k),fun s H us vs Q E k=> L.run s H us vs Q E (g H k)⟩
theorem B5s (gk:G.K=X.K) (stk:X.stack=X.env::X.outer) (fr:X.env.frame=some X.env.locals) (nd:X.N.Nodup) (tk:Takes X (cW G E))
    (hb:∀(pn:List (Addr×Obj)) (xe:Value→Shared→Prop) (G':Gx) (E':AExc→A1→AH→Prop),G'.K=X.K→GLe G G'→Takes (X.tr pn xe) (cW G' E')→ASs (X.tr pn xe) G' body (t E')) (hh:HdA X ks (h₀::hds) hs):
    AS X G (.Try body (h₀::hds) [] [] pos) (A6j ks hs E t):=by
  refine ⟨fun D D' env h l ⟨no,Ein,k,q⟩=> ⟨no,Ein,fun x e g z=> B2h hh l.nx x e g (k x e g z),(hb [] (fun _ _=> True) G Ein gk .refl fun _ _ _=> trivial).mono _ _ _ _ l q⟩,PS.imp (B5O
    (tb:=fun W D σ H=> ∃(env:A1) (h:AH) (Da:AEnds) (G':Gx) (Ein:AExc→A1→AH→Prop),G'.K=X.K∧GLe G G'∧BS G' env h σ H∧t Ein Da env h∧Link G' H Da D∧∀cls d σ' H',cW G' Ein cls d σ' H'→W cls d σ' H')
    stk fr nd tk (fun W pn xe tkW=> ⟨fun pins s σ H D I ⟨env,h,Da,G',Ein,gk',gl,S,q,l,imp⟩=> (hb pn xe G' Ein gk' gl (Takes.imp tkW imp)).ps.run pins s σ H D I ⟨env,h,Da,S,q,l⟩⟩)
    (HdA.low nd hh)) fun D σ H ⟨env,h,Da,S,⟨no,Ein,k,q⟩,l⟩=> ?_⟩
  have up:∀{p:Addr},H p=none→G.H0 p=none:=fun {p} n=> by
    cases q:G.H0 p with
    | none=> rfl
    | some o=> obtain ⟨u,e⟩:=S.tr p o q;rw [n] at e;cases e
  refine ⟨env,h,Da,⟨G.K,h,H⟩,Ein,gk,S.gle,S.into no,q,⟨fun e g σ' H' T y z=> l.nx e g σ' H' (S.outof T) y z,fun r e g σ' H' v T y rr z=> l.rt r e g σ' H' v (S.outof T) y ?_ z,fun e g σ' H' T y z=> l.bk e g σ' H' (S.outof T) y z,fun e g σ' H' T y z=> l.ct e g σ' H' (S.outof T) y z⟩,
    fun cls d σ' H' ⟨x,env1,h1,S1,xr,z⟩=> B3A gk S rfl l hh x env1 h1 σ' H' cls d S1 xr (k x env1 h1 z)⟩
  cases r with
  | val w=> exact rr
  | own c=> obtain ⟨p,e1,cr,n,n0,no2⟩:=rr;exact ⟨p,e1,cr,n,up n0,no2⟩
  | slot i=> exact rr
end
end Ab
namespace Ab
open PySem PySem.Spec PyProof.Rows L2
section
variable {prog:Program} {w:World} {A:Around} {R:Result→Shared→Prop} {I:Addr} {fp wr:List Addr} {n:Nat} {P:Nat→Value→Prop} {St:Nat→Heap→Prop}
end
section
variable {prog:Program} {w:World} {A:Around} {E:Value→Shared→Prop} {s:Shared} {l:Addr} {xs:Array (Int×Tok)}
end
section
variable {X:Cx} {G:Gx} {e:Expr} {p pos kpos cp:Pos} {j:Nat} {t:R3}
end
end Ab
namespace Ab
open PySem PySem.Spec PyProof.Rows L2
section
variable {X:Cx} {G:Gx} {c:Expr} {body:List Stmt} {pos:Pos} {tc:G3} {tb:C4}
end
end Ab
namespace Ab
open PySem PySem.Spec PyProof.Rows L2
section
variable {prog:Program} {w:World} {K:Type} [DecidableEq K] {kd:KeyKind prog w K} {A:Around} {E:Value→Shared→Prop} {s:Shared}
end
section
variable {X:Cx} {pins:List (Addr×Obj)} {σ:L2.St} {H:Hp} {s:Shared} {a:Addr} {kvs:List (List Key×V)} {A:Around} {E:Value→Shared→Prop} {o i e:Expr} {td ty tv:TE} {pos pos':Pos}
end
end Ab
namespace Ab
open PySem PySem.Spec PyProof.Rows L2 RZ
def A1h (l:List (List Int×W)):List (W×W):=(W.lst [],W.non)::l.map fun p=> (W.tup (p.1.map .int),p.2)
def A2v (l:List (List Int×W)) (ns:List Int):Option W:=(l.find? fun p=> decide (p.1=ns)).map (·.2)
section
variable {X:Cx} {G:Gx}
def aInT (neg:Bool) (i:Nat) (tk:B9):AT:=fun env h Q=> tk env h fun w env1 h1=> (∃(l:List (List Int×W)) (ns:List Int),env1[i]? =some (some (.own (.map (A1h l))))∧w= .tup (ns.map .int)∧
  Q (.val (.bl (if neg=true then !(A2v l ns).isSome else (A2v l ns).isSome))) env1 h1)∨neg=false∧(∃l:List (List Int×W),env1[i]? =some (some (.own (.map (A1h l)))))∧w= .non∧Q (.val (.bl false)) env1 h1
theorem aInT.mono {neg:Bool} {i:Nat} {tk:B9} (m:B0 tk):B0 (aInT neg i tk):=fun env h Q Q' k q=> m env h _ _ (fun w e g z=> by
  rcases z with ⟨l,ns,z1,z2,z3⟩ | ⟨z1,z2,z3,z4⟩
  · exact .inl ⟨l,ns,z1,z2,k _ _ _ z3⟩
  · exact .inr ⟨z1,z2,z3,k _ _ _ z4⟩) q
def aGetT (i:Nat) (tk:B9):AT:=fun env h Q=> (∃kvs,env[i]? =some (some (.own (.map kvs))))∧tk env h fun w env1 h1=> ∃(l:List (List Int×W)) (ns:List Int) (v:W),env1[i]? =some (some (.own (.map (A1h l))))∧w= .tup (ns.map .int)∧
  A2v l ns=some v∧Q (.val v) env1 h1
theorem aGetT.mono {i:Nat} {tk:B9} (m:B0 tk):B0 (aGetT i tk):=fun env h Q Q' k q=> ⟨q.1,m env h _ _ (fun w e g ⟨l,ns,v,z1,z2,z3,z4⟩=> ⟨l,ns,v,z1,z2,z3,k _ _ _ z4⟩) q.2⟩
def aGetDT (i:Nat) (tk td:B9):AT:=fun env h Q=> (∃kvs,env[i]? =some (some (.own (.map kvs))))∧tk env h fun w env1 h1=> td env1 h1 fun d env2 h2=>
  ∃(l:List (List Int×W)) (ns:List Int),env2[i]? =some (some (.own (.map (A1h l))))∧w= .tup (ns.map .int)∧Q (.val ((A2v l ns).getD d)) env2 h2
theorem aGetDT.mono {i:Nat} {tk td:B9} (m:B0 tk) (n:B0 td):B0 (aGetDT i tk td):=fun env h Q Q' k q=>
  ⟨q.1,m env h _ _ (fun w e g z=> n e g _ _ (fun d e g ⟨l,ns,z1,z2,z3⟩=> ⟨l,ns,z1,z2,k _ _ _ z3⟩) z) q.2⟩
end
end Ab
namespace Ab
open PySem PySem.Spec PyProof.Rows L2 RZ
section
variable {X:Cx} {G:Gx} {k v:Expr} {pos:Pos} {tk tv:TE}
end
section
variable {X:Cx} {G:Gx} {k v:Expr} {pos:Pos}
def aDispT (tk tv:B9):AT:=fun env h Q=> tk env h fun w env1 h1=> tv env1 h1 fun y env2 h2=> ∃ns:List Int,w= .tup (ns.map .int)∧Q (.own (.map (A1h [(ns,y)]))) env2 h2
theorem aDispT.mono {tk tv:B9} (m:B0 tk) (n:B0 tv):B0 (aDispT tk tv):=fun env h Q Q' k q=> m env h _ _ (fun w e g z=> n e g _ _ (fun y e g ⟨ns,z1,z2⟩=> ⟨ns,z1,k _ _ _ z2⟩) z) q
end
end Ab
namespace Ab
open PySem PySem.Spec PyProof.Rows L2 RZ
def A93 (i j:Int):Prop:=0≤j∧(PySem.Builtin.Int.intBits i:Int)*j≤2 ^ 27
section
variable {X:Cx} {G:Gx} {a b:Expr} {ta tb:AT} {pos:Pos}
end
end Ab
namespace Ab
open PySem PySem.Spec PyProof.Rows L2 RZ
def oIndexW (a:Vw) (ws:List W) (Q:RV→Prop):Prop:=match ws with
  | [.int x]=> ∃ns:List Int,a.seq=some (ns.map W.int)∧x∈ns∧Q (.val (.int (ns.idxOf x)))
  | _=> False
def aIdx (to:AT) (t:E4):AT:=fun env h Q=> to env h fun ro env1 h1=> (∃ns:List Int,(view env1 h1 ro).seq=some (ns.map W.int))∧t env1 h1 fun ws env2 h2=> oIndexW (view env2 h2 ro) ws fun r=> Q r env2 h2
theorem oIndexW.mono {a:Vw} {ws:List W} {Q Q':RV→Prop} (k:∀r,Q r→Q' r) (q:oIndexW a ws Q):oIndexW a ws Q':=by
  unfold oIndexW at q ⊢
  split at q
  · obtain ⟨ns,e,m,q⟩:=q
    exact ⟨ns,e,m,k _ q⟩
  · exact q.elim
theorem aIdx.mono {to:AT} {t:E4} (a:B0 to) (b:B0 t):B0 (aIdx to t):=fun env h Q Q' k q=>
  a env h _ _ (fun ro e g z=> ⟨z.1,b e g _ _ (fun ws e2 g2 z=> z.mono fun r q=> k _ _ _ q) z.2⟩) q
section
variable {X:Cx} {G:Gx} {o e:Expr} {es:List Expr} {to:AT} {t:E4} {apos cpos:Pos}
end
end Ab
namespace Ab
open PySem PySem.Spec PyProof.Rows L2 RZ
structure OkD (P:Program) (w:World) (K:PySem.W.Frag) (mg:Str→Option Value) (base:Heap) (x:Str) (st:Stmt) (k n:Nat) (ps:List Str) (kws:List (Str×V)) (sp:F5):Prop where
  m:P7 sp
  ex:∃f fd,mg x=some (.ref f)∧FunD K x x (defArgs st) (defBody st) (defScope st) [] kws f fd∧FnOk P w K mg base (L2.CX P w) k f fd ps (g9 K n sp)
theorem OkD.mk' {P:Program} {w:World} {K:PySem.W.Frag} {mg:Str→Option Value} {base:Heap} {x:Str} {st:Stmt} {f:Addr} {fd:FuncData} {N ps:List Str} {k n:Nat} {kws:List (Str×V)} {sp:F5} {t:(AExc→A1→AH→Prop)→C4} (sm:P7 sp) (hm:mg x=some (.ref f)) (F:FunD K x x (defArgs st) (defBody st) (defScope st) [] kws f fd) (S:FnScope N ps (defScope st)) (hn:ps.length=n)
    (hb:∀(cdv:Value) (A:Around) (outer:List Env) (s:Shared) (H:Hp) (E:XK) (G:Gx) (E':AExc→A1→AH→Prop),Room k (A.deeper (envOfC x (defScope st) s.heap.objs.size f cdv))→G.K=K→Takes (bx P w K mg base N x (defScope st) f cdv A outer s H E) (cW G E')→
      ASs (bx P w K mg base N x (defScope st) f cdv A outer s H E) G (defBody st) (t E'))
    (hq:∀ws h Qa Ea,ws.length=n→sp ws h Qa Ea→t (F4 Ea) (C9 Qa) (L0 N.length ws) h):OkD P w K mg base x st (k+1) n ps kws sp:=
  ⟨sm,f,fd,hm,F,A5x [] kws F S hn hb hq⟩
section
variable {X:Cx} {G:Gx} {sp:F5} {st:Stmt} {k j n0:Nat} {ps ks:List Str} {kws0 ms:List (Str×V)} {ds:List W} {x:Str} {p pos:Pos} {e:Expr} {es:List Expr} {kws:List Keyword} {t tk:E4} {E:AExc→A1→AH→Prop} {perm:List Nat}
end
section
variable {X:Cx} {G:Gx} {sp:F5} {st:Stmt} {k j:Nat} {ps:List Str} {x:Str} {p pos:Pos} {E:AExc→A1→AH→Prop}
end
def A6v (neg:Bool):I7:=fun a b Q=> ∃x y:Bool,a= .wv (.bl x)∧b= .wv (.bl y)∧Q (.val (.bl (if neg then !decide (x=y) else decide (x=y))))
section
variable {X:Cx} {G:Gx} {a b:Expr} {ta tb:AT} {pos:Pos}
end
def aRevL (ta:AT):AT:=fun env h Q=> ta env h fun r env1 h1=> ∃xs,(view env1 h1 r).seq=some xs∧Q (.own (.seq xs.reverse)) env1 h1
theorem aRevL.mono {ta:AT} (m:B0 ta):B0 (aRevL ta):=fun env h Q Q' k q=> m env h _ _ (fun r e g ⟨xs,z1,z2⟩=> ⟨xs,z1,k _ _ _ z2⟩) q
section
variable {X:Cx} {G:Gx} {a:Expr} {ta:AT} {k:Nat} {p1 p2 p3 pos:Pos}
end
end Ab
namespace Ab
open PySem PySem.Spec PyProof.Rows L2 RZ
def oLenSet:I6:=fun as Q=> match as with
  | [.wv (.tup ws)]=> ∃ns:List Int,ws=ns.map W.int∧ns≠[]∧ns.length≤4000∧∀m:Int,(m=1↔∀x∈ns,∀y∈ns,x=y)→Q (.val (.int m))
  | _=> False
theorem oLenSet.mono {as:List Vw} {Q Q':RV→Prop} (k:∀r,Q r→Q' r) (q:oLenSet as Q):oLenSet as Q':=by
  unfold oLenSet at q ⊢
  split at q
  · obtain ⟨ns,a,b,c,q⟩:=q
    exact ⟨ns,a,b,c,fun m e=> k _ (q m e)⟩
  · exact q.elim
section
variable {X:Cx} {G:Gx} {e:Expr} {p p2 q pos kpos cp:Pos} {j:Nat} {t:R3}
end
end Ab
namespace Ab
open PySem PySem.Spec PyProof.Rows L2 RZ
def A4n (f:Str) (w:W):List (Str×W)→List (Str×W)
  | []=> [(f,w)]
  | (g,x)::r=> if g=f then (g,w)::r else (g,x)::A4n f w r
theorem FRep.put {K:PySem.W.Frag} {H:Hp} {f:Str} {w:W} {v:V} (r:Rep K H w v):∀{fs:List (Str×W)} {vs:List (Str×V)},FRep K H fs vs→FRep K H (A4n f w fs) (putF f v vs)
  | [],[],_=> ⟨rfl,.cons r .nil⟩
  | [],v::vs,h=> by cases h.1
  | p::fs,[],h=> by cases h.1
  | (g,x)::fs,(g',y)::vs,⟨h1,h2⟩=> by
    rw [List.map_cons,List.map_cons] at h1
    injection h1 with e1 e2
    have e1:g=g':=e1
    subst e1
    obtain ⟨v',r',e3,a,b⟩:=RepL.of_cons (w:=x) (ws:=fs.map (·.2)) h2
    rw [List.map_cons] at e3
    injection e3 with e3 e4
    subst e3 e4
    unfold A4n putF
    by_cases q:g=f
    · rw [if_pos q,if_pos q]
      exact ⟨by rw [List.map_cons,List.map_cons,e2],.cons r b⟩
    · rw [if_neg q,if_neg q]
      obtain ⟨i1,i2⟩:=FRep.put r (fs:=fs) (vs:=vs) ⟨e2,b⟩
      exact ⟨by rw [List.map_cons,List.map_cons,i1],.cons a i2⟩
theorem FRep.mono {K:PySem.W.Frag} {H H':Hp} (k:Keeps H H') {fs:List (Str×W)} {vs:List (Str×V)} (h:FRep K H fs vs):FRep K H' fs vs:=⟨h.1,RepL.mono k _ _ h.2⟩
theorem FRep.length {K:PySem.W.Frag} {H:Hp} {fs:List (Str×W)} {vs:List (Str×V)} (h:FRep K H fs vs):fs.length=vs.length:=by have:=congrArg List.length h.1;simpa using this
structure FldOk (K:PySem.W.Frag) (n f:Str):Prop where
  cl:Cls K (He.ga K n)
  no:NoAttr K (He.ga K n) f
section
variable {G:Gx} {env:A1} {h:AH} {σ:L2.St} {H:Hp}
end
def aFld (n f:Str) (t:AT):AT:=fun env h Q=> t env h fun r env1 h1=> ∃a fs w,r= .val (.ref a)∧h1 a=some (.ins n fs)∧fs.lookup f=some w∧Q (.val w) env1 h1
theorem aFld.mono {n f:Str} {t:AT} (m:B0 t):B0 (aFld n f t):=fun env h Q Q' k q=> m env h _ _ (fun r e g ⟨a,fs,w,z1,z2,z3,z4⟩=> ⟨a,fs,w,z1,z2,z3,k _ _ _ z4⟩) q
section
variable {X:Cx} {G:Gx} {o:Expr} {n f:Str} {to:AT} {pos:Pos}
end
structure OkM (P:Program) (w:World) (K:PySem.W.Frag) (mg:Str→Option Value) (base:Heap) (C m:Str) (st:Stmt) (k n:Nat) (ps:List Str) (kws:List (Str×V)) (sp:F5):Prop where
  sm:P7 sp
  cl:Cls K (He.ga K C)
  ex:∃f fd,Meth K (He.ga K C) m f∧FunD K m (C++"."++m) (defArgs st) (defBody st) (defScope st) [] kws f fd∧FnOk P w K mg base (L2.CX P w) k f fd ps (g9 K n sp)
def B5b (C m:Str) (st:Stmt) (ps:List Str):Prop:=∀(kV doc pm:Value) (an:Option Addr) (cdv ct:Value) (us:List Value),us.length=ps.length→bindArgs (PySem.W.fnOf m (C++"."++m) (defArgs st) (defBody st) (defScope st) .none kV doc pm an cdv ct) ⟨us,[]⟩=pure (ps.zip us)
def kRes (Q:RV→A1→AH→Prop) (env:A1):RR→AH→Prop:=fun r h2=> match r with
  | .val w=> Q (.val w) env h2
  | .own c=> Q (.own c) env h2
def aMeth (C m:Str) (E:AExc→A1→AH→Prop) (sp:F5) (to:AT) (t:E4):AT:=fun env h Q=> to env h fun r env1 h1=> ∃a fs,r= .val (.ref a)∧h1 a=some (.ins C fs)∧fs.lookup m=none∧
  t env1 h1 fun ws env2 h2=> sp (.ref a::ws) h2 (kRes Q env2) fun x h3=> E x env2 h3
theorem kRes.imp {Q Q':RV→A1→AH→Prop} {env:A1} (k:∀r e h,Q r e h→Q' r e h) (r:RR) (h:AH) (z:kRes Q env r h):kRes Q' env r h:=by
  cases r with
  | val w=> exact k _ _ _ z
  | own c=> exact k _ _ _ z
theorem aMeth.mono {C m:Str} {E:AExc→A1→AH→Prop} {sp:F5} {to:AT} {t:E4} (sm:P7 sp) (a:B0 to) (b:B0 t):B0 (aMeth C m E sp to t):=fun env h Q Q' k q=>
  a env h _ _ (fun r e g ⟨p,fs,z1,z2,z3,z4⟩=> ⟨p,fs,z1,z2,z3,b e g _ _ (fun ws e2 g2 z=> sm _ _ _ _ _ _ (fun r f y=> kRes.imp k r f y) (fun x f y=> y) z) z4⟩) q
section
variable {X:Cx} {G:Gx} {sp:F5} {C m:Str} {st:Stmt} {k j n:Nat} {ps:List Str} {o e:Expr} {es:List Expr} {pos apos:Pos} {to:AT} {t:E4} {E:AExc→A1→AH→Prop}
end
structure MkC (K:PySem.W.Frag) (mg:Str→Option Value) (n:Str):Prop where
  gl:mg n=some (.ref (He.ga K n))
  makes:PySem.W.makesIn K (He.ga K n)=true
  kp:PySem.W.keepIn K (.ref (He.ga K n))=true
def kMk (Q:RV→A1→AH→Prop) (env:A1) (a:Addr):RR→AH→Prop:=fun r h2=> r= .val .non∧Q (.val (.ref a)) env h2
def aMake (C:Str) (E:AExc→A1→AH→Prop) (sp:F5) (t:E4):AT:=fun env h Q=> t env h fun ws env1 h1=> ∀a,h1 a=none→sp (.ref a::ws) (H7 h1 a (.ins C [])) (kMk Q env1 a) fun x h3=> E x env1 h3
theorem aMake.mono {C:Str} {E:AExc→A1→AH→Prop} {sp:F5} {t:E4} (sm:P7 sp) (b:B0 t):B0 (aMake C E sp t):=fun env h Q Q' k q=>
  b env h _ _ (fun ws e g z a n=> sm _ _ _ _ _ _ (fun r f y=> ⟨y.1,k _ _ _ y.2⟩) (fun x f y=> y) (z a n)) q
section
variable {G:Gx} {env:A1} {h:AH} {σ:L2.St} {H:Hp}
theorem BS.made (S:BS G env h σ H) {a dx:Addr} {C:Str} (n:H a=none) (nd:H dx=none) (ne:dx≠a):
    BS G env (H7 h a (.ins C [])) σ (upd (upd H dx (.own a)) a (.ins (He.ga G.K C) dx []))∧Xt env h σ H env (H7 h a (.ins C [])) (upd (upd H dx (.own a)) a (.ins (He.ga G.K C) dx [])):=by
  have nw:New H (upd (upd H dx (.own a)) a (.ins (He.ga G.K C) dx [])):=fun p o e=> by
    have n1:p≠a:=fun z=> by rw [z,n] at e;cases e
    have n2:p≠dx:=fun z=> by rw [z,nd] at e;cases e
    rw [upd_ne n1,upd_ne n2];exact e
  have S1:=nw.bs S
  obtain ⟨ha,h0,no⟩:=S.noAt n
  refine ⟨⟨S1.len,S1.val,fun i c e=> ?_,S1.uni,fun b o e=> ?_,S1.fr,fun b o e y=> ?_,S1.tr,S1.tabs⟩,⟨fun p o e _ _ _=> nw p o e,fun p o e y=> ?_,fun p o e=> ⟨o,nw p o e⟩,fun i c e=> ⟨c,e⟩⟩⟩
  · obtain ⟨p,x,y,z,w⟩:=S1.own i c e
    have np:p≠a:=fun q=> no ⟨i,c,e,q▸x⟩
    exact ⟨p,x,y,by rw [c7 np];exact z,w⟩
  · by_cases hb:b=a
    · subst hb;rw [Y5] at e;cases e;exact ⟨dx,[],upd_same,rfl,.nil⟩
    · rw [c7 hb] at e;exact S1.hp b o e
  · by_cases hb:b=a
    · subst hb;exact h0
    · rw [c7 hb] at e;exact S1.ext b o e y
  · by_cases hb:p=a
    · subst hb;exact n
    · rw [c7 hb,y] at e;cases e
end
section
variable {X:Cx} {G:Gx} {sp:F5} {C:Str} {st:Stmt} {k j n:Nat} {ps:List Str} {e:Expr} {es:List Expr} {pos p:Pos} {t:E4} {E:AExc→A1→AH→Prop}
end
section
variable {P:Program} {w:World} {K:PySem.W.Frag} {mg:Str→Option Value} {base:Heap} {C m:Str} {st:Stmt} {f:Addr} {fd:FuncData} {N ps:List Str} {k n:Nat} {kws:List (Str×V)} {sp:F5}
theorem OkM.mk' {t:(AExc→A1→AH→Prop)→C4} (sm:P7 sp) (cl:Cls K (He.ga K C)) (M:Meth K (He.ga K C) m f) (F:FunD K m (C++"."++m) (defArgs st) (defBody st) (defScope st) [] kws f fd) (S:FnScope N ps (defScope st)) (hn:ps.length=n)
    (hb:∀(cdv:Value) (A:Around) (outer:List Env) (s:Shared) (H:Hp) (E:XK) (G:Gx) (E':AExc→A1→AH→Prop),Room k (A.deeper (envOfC (C++"."++m) (defScope st) s.heap.objs.size f cdv))→G.K=K→Takes (bx P w K mg base N (C++"."++m) (defScope st) f cdv A outer s H E) (cW G E')→
      ASs (bx P w K mg base N (C++"."++m) (defScope st) f cdv A outer s H E) G (defBody st) (t E'))
    (hq:∀ws h Qa Ea,ws.length=n→sp ws h Qa Ea→t (F4 Ea) (C9 Qa) (L0 N.length ws) h):OkM P w K mg base C m st (k+1) n ps kws sp:=
  ⟨sm,cl,f,fd,M,F,A5x [] kws F S hn hb hq⟩
end
end Ab
namespace Ab
open PySem PySem.Spec PyProof.Rows L2 RZ
def smap (l:List (Str×W)):List (W×W):=l.map fun p=> (W.str p.1,p.2)
def A23 (l:List (Str×W)) (s:Str) (w:W):List (Str×W):=if (l.any fun p=> decide (p.1=s))=true then l.map (fun p=> if p.1=s then (p.1,w) else p) else l++[(s,w)]
def B0A (l:List (Str×W)) (s:Str):List (Str×W):=l.filter fun p=> decide (p.1≠s)
abbrev W9 (l:List (Str×W)):W:=(Cont.map (smap l)).fz
section
variable {K:PySem.W.Frag} {H:Hp}
theorem B3a (l:List (Str×W)):((smap l).map (·.1)).map V7=l.map fun q=> some (Sum.inr q.1):=by
  simp only [smap,List.map_map];rfl
theorem A5H (l:List (Str×W)):(smap l).map (·.2)=l.map (·.2):=by
  simp only [smap,List.map_map];rfl
theorem A7V {α:Type}:∀{a b:List α},a.map some=b.map some→a=b
  | [],[],_=> rfl
  | [],_::_,e=> by cases e
  | _::_,[],e=> by cases e
  | x::a,y::b,e=> by
    rw [List.map_cons,List.map_cons] at e
    injection e with e1 e2
    rw [Option.some.inj e1,A7V e2]
theorem A5U {l:List (Str×W)} {ks:List (Key×V)} (e:((smap l).map (·.1)).map V7=ks.map (fun q=> some q.1)):ks.map (·.1)=l.map fun q=> Sum.inr q.1:=by
  rw [B3a] at e
  have z:(ks.map (·.1)).map some=(l.map fun q=> (Sum.inr q.1:Key)).map some:=by
    rw [List.map_map,List.map_map];exact e.symm
  exact A7V z
theorem A6C {l:List (Str×W)} {ks:List (List Key×V)} (e:∃r,(smap l).map (·.1)= .lst []::r∧r.map A6s=ks.map (fun q=> some q.1)):False:=by
  obtain ⟨r,e,_⟩:=e
  cases l with
  | nil=> cases e
  | cons p l=> cases e
theorem B69 {p:Addr} {l:List (Str×W)} (h:CRep K H p (.map (smap l))):∃ks,H p=some (.dK ks)∧ks.map (·.1)=l.map (fun q=> Sum.inr q.1)∧RepL K H (l.map (·.2)) (ks.map (·.2)):=by
  rcases h with ⟨ks,e,a,b⟩ | ⟨ks,e,a,b⟩
  · exact ⟨ks,e,A5U a,A5H l▸b⟩
  · exact (A6C a).elim
theorem VR.smap {v:Vw} {x:V} {l:List (Str×W)} (r:VR K H v x) (e:v.toW=W9 l):∃p ks,x= .ref p∧Rd H p (.dK ks)∧ks.map (·.1)=l.map (fun q=> Sum.inr q.1)∧RepL K H (l.map (·.2)) (ks.map (·.2)):=by
  cases v with
  | bad=> cases e
  | cv c=>
    cases c with
    | seq ws=> cases e
    | map kvs=>
      obtain ⟨p,ex,c⟩:=r
      have e1:kvs.map (·.1)=(Ab.smap l).map (·.1):=by injection e
      have e2:kvs.map (·.2)=(Ab.smap l).map (·.2):=by injection e
      rcases c with ⟨ks,a,b,d⟩ | ⟨ks,a,b,d⟩
      · rw [e1] at b;rw [e2,A5H] at d
        exact ⟨p,ks,ex,.inl a,A5U b,d⟩
      · rw [e1] at b
        exact (A6C b).elim
  | wv w=>
    have e:w=W9 l:=e
    subst e
    have z:Rep K H (.dct ((Ab.smap l).map (·.1)) ((Ab.smap l).map (·.2))) x:=r
    simp only [Rep] at z
    obtain ⟨p,ex,⟨o,ks,a,b,d⟩ | ⟨o,ks,a,b,d⟩⟩:=z
    · rw [A5H] at d
      exact ⟨p,ks,ex,.inr ⟨o,a⟩,A5U b,d⟩
    · exact (A6C b).elim
theorem A9r {s:Str}:∀{l:List (Str×W)} {ks:List (Key×V)},ks.map (·.1)=l.map (fun q=> Sum.inr q.1)→RepL K H (l.map (·.2)) (ks.map (·.2))→
    (l.lookup s=none∧valV ks (.inr s)=none)∨∃w v,l.lookup s=some w∧valV ks (.inr s)=some v∧Rep K H w v
  | [],[],_,_=> .inl ⟨rfl,rfl⟩
  | [],_::_,e,_=> by cases e
  | _::_,[],e,_=> by cases e
  | p::l,q::ks,e,r=> by
    rw [List.map_cons,List.map_cons] at e
    injection e with e1 e2
    obtain ⟨v,r1,e3,a,b⟩:=RepL.of_cons (w:=p.2) (ws:=l.map (·.2)) r
    rw [List.map_cons] at e3
    injection e3 with e3 e4
    subst e3 e4
    obtain ⟨g,w⟩:=p
    simp only [List.lookup]
    by_cases hs:s=g
    · subst hs
      rw [valV_pos e1]
      simp only [beq_self_eq_true]
      exact .inr ⟨w,q.2,rfl,rfl,a⟩
    · rw [valV_neg (show ¬q.1= .inr s from fun z=> hs (by rw [e1] at z;injection z with z;exact z.symm))]
      have hb:(s==g)=false:=beq_eq_false_iff_ne.mpr hs
      simp only [hb]
      exact A9r e2 b
end
def inM (neg:Bool) (v:Vw) (w:W) (Q:RV→Prop):Prop:=∃l s,v.toW=W9 l∧w= .str s∧Q (.val (.bl (if neg=true then !(l.lookup s).isSome else (l.lookup s).isSome)))
def aInM (neg:Bool) (tk:B9) (to:AT):AT:=fun env h Q=> tk env h fun w env1 h1=> to env1 h1 fun r env2 h2=> inM neg (view env2 h2 r) w fun x=> Q x env2 h2
theorem aInM.mono {neg:Bool} {tk:B9} {to:AT} (m:B0 tk) (n:B0 to):B0 (aInM neg tk to):=fun env h Q Q' k q=> m env h _ _ (fun w e g z=> n e g _ _ (fun r e g ⟨l,s,z1,z2,z3⟩=> ⟨l,s,z1,z2,k _ _ _ z3⟩) z) q
section
variable {X:Cx} {G:Gx} {o k e:Expr} {pos pos':Pos} {tk tv:B9} {to:AT}
def B0P (v:Vw) (w:W) (Q:RV→Prop):Prop:=∃l s u,v.toW=W9 l∧w= .str s∧l.lookup s=some u∧Q (.val u)
def aGetM (to:AT) (tk:B9):AT:=fun env h Q=> to env h fun r env1 h1=> tk env1 h1 fun w env2 h2=> B0P (view env2 h2 r) w fun x=> Q x env2 h2
theorem aGetM.mono {tk:B9} {to:AT} (n:B0 to) (m:B0 tk):B0 (aGetM to tk):=fun env h Q Q' k q=> n env h _ _ (fun r e g z=> m e g _ _ (fun w e g ⟨l,s,u,z1,z2,z3,z4⟩=> ⟨l,s,u,z1,z2,z3,k _ _ _ z4⟩) z) q
end
end Ab
namespace Ab
open PySem PySem.Spec PyProof.Rows L2 RZ
theorem B7X {x:W} {xs:List W}:atI (x::xs) 0=some x:=atI_nat (j:=0) rfl
theorem B7V {x y:W} {xs:List W}:atI (x::y::xs) 1=some y:=atI_nat (j:=1) rfl
theorem B7S {x y z:W} {xs:List W}:atI (x::y::z::xs) 2=some z:=atI_nat (j:=2) rfl
end Ab
namespace Ab
open PySem PySem.Spec PyProof.Rows L2 RZ
def B7n (K:PySem.W.Frag) (tl:TE):TI:=fun σ H R=> tl σ H fun x H1=>
  ∃a,x= .ref a∧(((∃xs,SqL K H1 a xs)∧R (Itl K a) H1)∨((∃xs,SqT K H1 a xs)∧R (Itt K a) H1))
theorem B6t {X:Cx} {tg l:Expr} {tl:TE} (hl:PE X l tl):PI X tg l (B7n X.K tl):=by
  constructor
  intro pins s σ H R I h
  refine thn (hl.run pins s σ H _ I h) ?_
  rintro v s1 ⟨x,H1,I1,r1,a,rfl,q⟩
  cases r1
  have fp:∀b∈[s1.heap.objs.size],FpOk X pins H1 b:=by
    intro b hb
    obtain rfl:b=s1.heap.objs.size:=by simpa using hb
    exact I1.fpOk (Nat.le_refl _) (I1.hok.fresh (Nat.le_refl _))
  rcases q with ⟨⟨xs,hq⟩,q⟩ | ⟨⟨xs,hq⟩,q⟩
  · obtain ⟨its,rv,p,hz⟩:=I1.list hq
    apply wpAny_pyIter_list p.isList
    exact ⟨_,[s1.heap.objs.size],_,_,H1,rfl,
      I1.kept (t':=s1.toks) fun b o e=> Heap.get?_push_of_some _ e,turn_list a _,⟨_,Heap.get?_push_size _ rfl,rfl,rfl⟩,fp,q⟩
  · obtain ⟨its,rv,p,hz⟩:=I1.tuple hq
    apply wpAny_pyIter_tuple (show s1.heap.IsTuple a its.toArray from p)
    exact ⟨_,[s1.heap.objs.size],_,_,H1,rfl,
      I1.kept (t':=s1.toks) fun b o e=> Heap.get?_push_of_some _ e,turn_tuple a _,⟨_,Heap.get?_push_size _ rfl,rfl,rfl⟩,fp,q⟩
def iSq (t:B9):Q9:=fun env h Q=> t env h fun w env' h'=> match w with
  | .lst ws=> Q ws env' h'
  | .tup ws=> Q ws env' h'
  | _=> False
theorem iSq.mono {t:B9} (m:B0 t):B0 (iSq t):=fun env h Q Q' k q=> m env h _ _ (fun w e g z=> by
  split at z
  · exact k _ _ _ z
  · exact k _ _ _ z
  · exact z) q
section
variable {X:Cx} {G:Gx} {tg e:Expr} {st:Stmt}
theorem A06 {t:B9} (gk:G.K=X.K) (a:AV X G e t):AI X G tg e (iSq t):=by
  refine ⟨iSq.mono a.mono,PI.imp (B6t a.pe) fun σ H R ⟨env,h,S,q⟩=> ?_⟩
  refine ⟨env,h,S,a.mono env h _ _ (fun w env1 h1 z v H1 S1 x1 r1=> ?_) q⟩
  cases w with
  | lst ws=>
    obtain ⟨p,vs,rfl,l,r⟩:=Rep.of_lst r1
    exact ⟨p,rfl,.inl ⟨⟨vs,l.sq⟩,z _ H1 S1 x1 (gk▸B2n l r)⟩⟩
  | tup ws=>
    obtain ⟨p,vs,rfl,l,r⟩:=Rep.of_tup r1
    exact ⟨p,rfl,.inr ⟨⟨vs,gk▸l⟩,z _ H1 S1 x1 (gk▸B3b l r)⟩⟩
  | _=> exact z.elim
def aFrz (i:Nat) (t:C4):C4:=fun D env h=> match env[i]? with
  | some (some (.own c))=> t D (env.set i (some (.val c.fz))) h
  | some (some (.val _))=> t D env h
  | _=> False
theorem aFrz.mono {i:Nat} {t:C4} (m:Z0 t):Z0 (aFrz i t):=fun D D' env h l q=> by
  unfold aFrz at q ⊢
  split at q
  · exact m _ _ _ _ l q
  · exact m _ _ _ _ l q
  · exact q
theorem A9I (i:Nat) {t:C4} (a:AS X G st t):AS X G st (aFrz i t):=by
  refine ⟨aFrz.mono a.mono,⟨fun pins s σ H Q I ⟨env,h,Da,S,q,l⟩=> ?_⟩⟩
  unfold aFrz at q
  split at q
  · rename_i c e
    obtain ⟨p,H2,es,I2,S2,x2,r2⟩:=A5C (env:=env) (env':=env) (H:=H) (H1:=H) S .refl I e
    exact a.ps.run pins s σ H2 Q I2 ⟨_,h,Da,S2,q,l.from (x2.keeps S)⟩
  · exact a.ps.run pins s σ H Q I ⟨env,h,Da,S,q,l⟩
  · exact q.elim
end
section
variable {X:Cx}
def A4X:I6:=fun as Q=> match as with
  | [a]=> ∃ns:List Int,a.items=some (ns.map W.int)∧Q (.val (.int ns.sum))
  | _=> False
end
end Ab
namespace Ab
open PySem PySem.Spec PyProof.Rows L2 RZ
abbrev Z9:=A1→AH→((AH→Prop)→List W→A1→AH→Prop)→Prop
def A4L (t:Z9):Prop:=∀env h Q Q',(∀ok ws e k,Q ok ws e k→Q' ok ws e k)→t env h Q→t env h Q'
def B6N (G:Gx) (J:It) (H1:Hp) (ok:AH→Prop) (ws:List W):Prop:=∀h H,(∀a o,h a=some o→ORep G.K H a o)→Keeps H1 H→ok h→∀i:Nat,(ws.length≤i→J.stop i H)∧∀w,ws[i]? =some w→J.go i H∧∀x H',J.yld i H x H'→New H H'∧Rep G.K H' w x
def cIL (G:Gx) (t:Z9):TI:=fun σ H R=> ∃env h,BS G env h σ H∧t env h fun ok ws env' h'=> ∀J H',BS G env' h' σ H'→Xt env h σ H env' h' H'→B6N G J H' ok ws→R J H'
structure AI2 (X:Cx) (G:Gx) (tg iter:Expr) (t:Z9):Prop where
  mono:A4L t
  pi:PI X tg iter (cIL G t)
def B7o (t:Q9):Z9:=fun env h Q=> t env h fun ws e k=> Q (fun _=> True) ws e k
theorem AI.two {X:Cx} {G:Gx} {tg e:Expr} {t:Q9} (a:AI X G tg e t):AI2 X G tg e (B7o t):=
  ⟨fun env h Q Q' k q=> a.mono env h _ _ (fun ws e g z=> k _ _ _ _ z) q,PI.imp a.pi fun σ H R ⟨env,h,S,q⟩=> ⟨env,h,S,a.mono env h _ _ (fun ws e g z J H' S1 x1 gv=> z J H' S1 x1 fun _ H'' _ kk _=> gv H'' kk) q⟩⟩
def srcW (h:AH) (r:RV) (Q:(AH→Prop)→List W→Prop):Prop:=match r with
  | .val (.ref a)=> ∃ws,h a=some (.cont (.seq ws))∧Q (fun k=> k a=some (.cont (.seq ws))) ws
  | .val (.lst ws)=> Q (fun _=> True) ws
  | .val (.tup ws)=> Q (fun _=> True) ws
  | _=> False
def iLive (t:AT):Z9:=fun env h Q=> t env h fun r env1 h1=> srcW h1 r fun ok ws=> Q ok ws env1 h1
def iLvE (t:AT):Z9:=fun env h Q=> t env h fun r env1 h1=> srcW h1 r fun ok ws=> Q ok (enW ws) env1 h1
theorem srcW.imp {h:AH} {r:RV} {Q Q':(AH→Prop)→List W→Prop} (k:∀ok ws,Q ok ws→Q' ok ws) (z:srcW h r Q):srcW h r Q':=by
  unfold srcW at z ⊢
  split at z
  · obtain ⟨ws,e,z⟩:=z;exact ⟨ws,e,k _ _ z⟩
  · exact k _ _ z
  · exact k _ _ z
  · exact z
theorem iLive.mono {t:AT} (m:B0 t):A4L (iLive t):=fun env h Q Q' k q=> m env h _ _ (fun r e g z=> srcW.imp (fun ok ws y=> k _ _ _ _ y) z) q
theorem iLvE.mono {t:AT} (m:B0 t):A4L (iLvE t):=fun env h Q Q' k q=> m env h _ _ (fun r e g z=> srcW.imp (fun ok ws y=> k _ _ _ _ y) z) q
section
variable {X:Cx} {G:Gx} {tg e:Expr}
end
def aLoopL (ok:AH→Prop) (g:H8) (tb:C4) (D:AEnds):List W→A1→AH→Prop
  | []=> fun env h=> ok h∧D.nx env h
  | w::ws=> fun env h=> ok h∧g w env h fun env1 h1=> tb { D with nx:=aLoopL ok g tb D ws,ct:=aLoopL ok g tb D ws,bk:=D.nx } env1 h1
theorem aLoopL.mono {ok:AH→Prop} {g:H8} {tb:C4} (mg:u1 g) (mt:Z0 tb) {D D':AEnds} (l:D.Le D'):∀(ws:List W) env h,aLoopL ok g tb D ws env h→aLoopL ok g tb D' ws env h
  | [],env,h,q=> ⟨q.1,l.nx _ _ q.2⟩
  | w::ws,env,h,q=> ⟨q.1,mg w env h _ _ (fun e k z=> mt { D with nx:=aLoopL ok g tb D ws,ct:=aLoopL ok g tb D ws,bk:=D.nx } { D' with nx:=aLoopL ok g tb D' ws,ct:=aLoopL ok g tb D' ws,bk:=D'.nx } e k ⟨aLoopL.mono mg mt l ws,l.rt,l.nx,aLoopL.mono mg mt l ws⟩ z) q.2⟩
section
variable {X:Cx} {G:Gx} {tg iter:Expr} {body:List Stmt} {pos:Pos}
end
def lcLoopL (ok:AH→Prop) (vs:List Nat) (g:H8) (tt:G3) (te:B9) (Q:List W→A1→AH→Prop):List W→List W→A1→AH→Prop
  | [],acc=> fun env h=> ok h∧Q acc env h
  | w::ws,acc=> fun env h=> ok h∧g w (T1 env vs) h fun e1 h1=> tt e1 h1 fun b e2 h2=> if b=true then te e2 h2 fun y e3 h3=> acc.length < sizeLine∧lcLoopL ok vs g tt te Q ws (acc++[y]) (mend env e3 vs) h3 else lcLoopL ok vs g tt te Q ws acc (mend env e2 vs) h2
theorem lcLoopL.mono {ok:AH→Prop} {vs:List Nat} {g:H8} {tt:G3} {te:B9} (mg:u1 g) (mt:B0 tt) (me:B0 te) {Q Q':List W→A1→AH→Prop} (k:∀a e h,Q a e h→Q' a e h):∀(ws acc:List W) env h,lcLoopL ok vs g tt te Q ws acc env h→lcLoopL ok vs g tt te Q' ws acc env h
  | [],acc,env,h,q=> ⟨q.1,k _ _ _ q.2⟩
  | w::ws,acc,env,h,q=> ⟨q.1,mg _ _ _ _ _ (fun e1 h1 z=> mt _ _ _ _ (fun b e2 h2 z=> by
    cases b with
    | true=> rw [if_pos rfl] at z ⊢;exact me _ _ _ _ (fun y e3 h3 z=> ⟨z.1,lcLoopL.mono mg mt me k ws _ _ _ z.2⟩) z
    | false=> rw [if_neg Bool.false_ne_true] at z ⊢;exact lcLoopL.mono mg mt me k ws _ _ _ z) z) q.2⟩
def del (H:Hp) (D:Addr):Hp:=fun p=> if p=D then none else H p
theorem A8W {H:Hp} {D:Addr}:del H D D=none:=by unfold del;rw [if_pos rfl]
theorem del_ne {H:Hp} {D p:Addr} (n:p≠D):del H D p=H p:=by unfold del;rw [if_neg n]
theorem A8Y {H:Hp} {D p:Addr} {o:HO} (e:del H D p=some o):p≠D∧H p=some o:=by
  have n:p≠D:=fun z=> by rw [z,A8W] at e;cases e
  exact ⟨n,(del_ne n).symm.trans e⟩
theorem Xt.del {env env':A1} {h h':AH} {σ:L2.St} {H H':Hp} {D:Addr} (x:Xt env h σ H env' h' H'):Xt env h σ (del H D) env' h' H':=
  ⟨fun p o e n w t=> x.fr p o (A8Y e).2 n w t,fun p o e n=> by
    by_cases q:p=D
    · rw [q];exact A8W
    · rw [del_ne q];exact x.hn p o e n,fun p o e=> x.th p o (A8Y e).2,x.sl⟩
section
variable {X:Cx} {G:Gx} {elt tg iter:Expr} {ifs:List Expr} {scope:Scope} {own:List (Str×Nat)} {pos:Pos} {ti:Z9} {g:H8} {tt:G3} {te:B9} {sl:List Nat}
def lc2Loop (ok:AH→Prop) (vs:List Nat) (g:H8) (tt:G3) (ti1:Z9) (vs1:List Nat) (g1:H8) (tt1:G3) (te:B9) (Q:List W→A1→AH→Prop):List W→List W→A1→AH→Prop
  | [],acc=> fun env h=> ok h∧Q acc env h
  | w::ws,acc=> fun env h=> ok h∧g w (T1 env vs) h fun e1 h1=> tt e1 h1 fun b e2 h2=> if b=true then ti1 e2 h2 fun ok1 ws1 e3 h3=> lcLoopL ok1 vs1 g1 tt1 te (fun acc' e4 h4=> lc2Loop ok vs g tt ti1 vs1 g1 tt1 te Q ws acc' (mend env e4 vs) h4) ws1 acc e3 h3 else lc2Loop ok vs g tt ti1 vs1 g1 tt1 te Q ws acc (mend env e2 vs) h2
variable {ti1:Z9} {g1:H8} {tt1:G3} {vs1 sl1:List Nat} {tg1 iter1:Expr} {ifs1:List Expr}
theorem lc2Loop.mono {ok:AH→Prop} {vs:List Nat} (mg:u1 g) (mt:B0 tt) (mi:A4L ti1) (mg1:u1 g1) (mt1:B0 tt1) (me:B0 te) {Q Q':List W→A1→AH→Prop} (k:∀a e h,Q a e h→Q' a e h):∀(ws acc:List W) env h,lc2Loop ok vs g tt ti1 vs1 g1 tt1 te Q ws acc env h→lc2Loop ok vs g tt ti1 vs1 g1 tt1 te Q' ws acc env h
  | [],acc,env,h,q=> ⟨q.1,k _ _ _ q.2⟩
  | w::ws,acc,env,h,q=> ⟨q.1,mg _ _ _ _ _ (fun e1 h1 z=> mt _ _ _ _ (fun b e2 h2 z=> by
    cases b with
    | true=> rw [if_pos rfl] at z ⊢;exact mi _ _ _ _ (fun ok1 ws1 e3 h3 z=> lcLoopL.mono mg1 mt1 me (fun acc' e4 h4 z=> lc2Loop.mono mg mt mi mg1 mt1 me k ws _ _ _ z) _ _ _ _ z) z
    | false=> rw [if_neg Bool.false_ne_true] at z ⊢;exact lc2Loop.mono mg mt mi mg1 mt1 me k ws _ _ _ z) z) q.2⟩
end
end Ab
namespace Ab
open PySem PySem.Spec PyProof.Rows L2 RZ
mutual
def W.nodct:W→Bool
  | .dct _ _=> false
  | .tup ws=> W.nodcts ws
  | .lst ws=> W.nodcts ws
  | _=> true
def W.nodcts:List W→Bool
  | []=> true
  | w::ws=> w.nodct && W.nodcts ws
end
def SV.nodct:SV→Bool
  | .val w=> w.nodct
  | .own (.seq ws)=> W.nodcts ws
  | .own (.map kvs)=> W.nodcts (kvs.map (·.2))
def A9b (e:A1):Bool:=e.all fun x=> match x with
  | some sv=> sv.nodct
  | none=> true
section
variable {K:PySem.W.Frag} {H H':Hp} {q:Addr} {od:Obj} {u:HO} {kq:List (Key×V)}
theorem A8D (hq:H q=some (.frz od (.dK kq))) {p:Addr} {o:HO} (e:H p=some o) (n:∀od',o≠ .frz od' (.dK kq)):p≠q:=fun z=> by
  rw [z,hq] at e;exact n od (Option.some.inj e).symm
mutual
theorem Rep.unlock (hq:H q=some (.frz od (.dK kq))) (kp:∀p o,H p=some o→Imm o→p≠q→H' p=some o):∀(w:W) (v:V),w.nodct=true→Rep K H w v→Rep K H' w v
  | .non,_,_,h=> by simpa only [Rep] using h
  | .bl _,_,_,h=> by simpa only [Rep] using h
  | .int _,_,_,h=> by simpa only [Rep] using h
  | .str _,_,_,h=> by simpa only [Rep] using h
  | .ref _,_,_,h=> by simpa only [Rep] using h
  | .ty _,_,_,h=> by simpa only [Rep] using h
  | .tup ws,v,d,h=> by
    simp only [Rep] at h ⊢
    obtain ⟨a,vs,e,s,r⟩:=h
    refine ⟨a,vs,e,s.imp (fun e=> kp _ _ e trivial (A8D hq e fun _ z=> by cases z)) id,RepL.unlock hq kp ws vs ?_ r⟩
    simpa only [W.nodct] using d
  | .lst ws,v,d,h=> by
    simp only [Rep] at h ⊢
    obtain ⟨a,vs,e,⟨o,s⟩,r⟩:=h
    refine ⟨a,vs,e,⟨o,kp _ _ s trivial (A8D hq s fun _ z=> by cases z)⟩,RepL.unlock hq kp ws vs ?_ r⟩
    simpa only [W.nodct] using d
  | .dct ks ws,v,d,h=> by simp only [W.nodct] at d;cases d
theorem RepL.unlock (hq:H q=some (.frz od (.dK kq))) (kp:∀p o,H p=some o→Imm o→p≠q→H' p=some o):∀(ws:List W) (vs:List V),W.nodcts ws=true→RepL K H ws vs→RepL K H' ws vs
  | [],vs,_,h=> by simpa only [RepL] using h
  | w::ws,vs,d,h=> by
    simp only [W.nodcts,Bool.and_eq_true] at d
    simp only [RepL] at h ⊢
    obtain ⟨v,r,e,a,b⟩:=h
    exact ⟨v,r,e,Rep.unlock hq kp w v d.1 a,RepL.unlock hq kp ws r d.2 b⟩
end
theorem CRep.unlock (hq:H q=some (.frz od (.dK kq))) (kp:∀p o,H p=some o→Imm o→p≠q→H' p=some o) {p:Addr} (s:H' p=H p):∀{c:Cont},(SV.own c).nodct=true→CRep K H p c→CRep K H' p c
  | .seq ws,d,⟨vs,e,r⟩=> ⟨vs,s.trans e,RepL.unlock hq kp _ _ d r⟩
  | .map kvs,d,.inl ⟨ks,e,t,r⟩=> .inl ⟨ks,s.trans e,t,RepL.unlock hq kp _ _ d r⟩
  | .map kvs,d,.inr ⟨ks,e,t,r⟩=> .inr ⟨ks,s.trans e,t,RepL.unlock hq kp _ _ d r⟩
theorem TabsK.unlock {o o':HO} (t:TabsK K H) (e:H q=some o) (n:∀ps,o≠ .tbl ps) (n2:∀φ,o≠ .ext φ):TabsK K (L2.upd H q o'):=fun p hp=> by
  obtain ⟨ps,h1,h2,h3⟩:=t p hp
  refine ⟨ps,?_,h2,fun pos cv hc=> ?_⟩
  · rw [upd_ne (fun z=> by rw [z,e] at h1;exact n _ (Option.some.inj h1))];exact h1
  · obtain ⟨c,e1,e2⟩:=h3 pos cv hc
    refine ⟨c,e1,?_⟩
    rw [upd_ne (fun z=> by rw [z,e] at e2;exact n2 _ (Option.some.inj e2))];exact e2
end
section
variable {G:Gx} {env e:A1} {h:AH} {σ σ':L2.St} {H Hk:Hp} {q:Addr} {od:Obj} {kq:List (Key×V)}
open Classical
noncomputable def A2p (G:Gx) (env:A1) (σ:L2.St) (H:Hp):Gx:=⟨G.K,fun _=> none,fun p=> if OwnAt env σ p then none else H p⟩
theorem A3h {p:Addr} {o:HO} (n:¬OwnAt env σ p) (e:H p=some o):(A2p G env σ H).H0 p=some o:=by
  show (if OwnAt env σ p then none else H p)=_
  rw [if_neg n];exact e
theorem A8H {p:Addr} {o:HO} (e:(A2p G env σ H).H0 p=some o):¬OwnAt env σ p∧H p=some o:=by
  have e:(if OwnAt env σ p then none else H p)=some o:=e
  by_cases n:OwnAt env σ p
  · rw [if_pos n] at e;cases e
  · rw [if_neg n] at e;exact ⟨n,e⟩
theorem BS.lock (S:BS G env h σ H) {l:List (Str×W)} (hq:h q=some (.cont (.map (smap l)))):∃kq,H q=some (.dK kq)∧kq.map (·.1)=l.map (fun p=> Sum.inr p.1)∧RepL G.K H (l.map (·.2)) (kq.map (·.2))∧¬OwnAt env σ q∧
    ∀od,BS (A2p G env σ (upd H q (.frz od (.dK kq)))) env (fun _=> none) σ (upd H q (.frz od (.dK kq)))∧Keeps H (upd H q (.frz od (.dK kq))):=by
  obtain ⟨kq,e0,e1,e2⟩:=B69 (S.hp q _ hq)
  have noq:¬OwnAt env σ q:=fun ⟨i,c,a,b⟩=> by
    obtain ⟨p,x,_,n,_⟩:=S.own i c a
    rw [b] at x;cases x
    rw [hq] at n;cases n
  refine ⟨kq,e0,e1,e2,noq,fun od=> ?_⟩
  have kp:Keeps H (upd H q (.frz od (.dK kq))):=fun p o e i=> by
    have n:p≠q:=fun z=> by rw [z,e0] at e;cases e;exact i.elim
    rw [upd_ne n];exact e
  refine ⟨⟨S.len,fun i w z=> ?_,fun i c z=> ?_,S.uni,fun _ _ z=> (by cases z),fun p o z _ _=> (A8H z).2,fun _ _ z=> (by cases z),fun p o z=> ⟨o,(A8H z).2⟩,S.tabs.upd fun o z=> (by rw [e0] at z;cases z;trivial)⟩,kp⟩
  · obtain ⟨v,a,b⟩:=S.val i w z;exact ⟨v,a,Rep.mono kp w v b⟩
  · obtain ⟨p,a,b,_,_⟩:=S.own i c z
    have np:p≠q:=fun y=> noq ⟨i,c,z,y▸a⟩
    refine ⟨p,a,b.mono kp (upd_ne np),rfl,?_⟩
    show (if OwnAt env σ p then none else _)=none
    rw [if_pos ⟨i,c,z,a⟩]
theorem BS.open (S:BS G env h σ H) {l:List (Str×W)} (hq:h q=some (.cont (.map (smap l)))) (e0:H q=some (.dK kq)) (Sk:BS (A2p G env σ (upd H q (.frz od (.dK kq)))) e (fun _=> none) σ' Hk) (nd:A9b e=true):
    Hk q=some (.frz od (.dK kq))∧BS G e h σ' (upd Hk q (.dK kq))∧Keeps H (upd Hk q (.dK kq)):=by
  have noq:¬OwnAt env σ q:=fun ⟨i,c,a,b⟩=> by
    obtain ⟨p,x,_,n,_⟩:=S.own i c a
    rw [b] at x;cases x
    rw [hq] at n;cases n
  have fr:∀p o,H p=some o→p≠q→¬OwnAt env σ p→NT o→Hk p=some o:=fun p o e n w t=> Sk.fr p o (A3h w (by rw [upd_ne n];exact e)) rfl t
  have hk:Hk q=some (.frz od (.dK kq)):=Sk.fr q _ (A3h noq upd_same) rfl (fun _ z=> (by cases z))
  have kp:Keeps H (upd Hk q (.dK kq)):=fun p o e i=> by
    have n:p≠q:=fun z=> by rw [z,e0] at e;cases e;exact i.elim
    rw [upd_ne n]
    exact fr p o e n (S.imm e i).2 i.nt
  have up:∀p o,Hk p=some o→Imm o→p≠q→upd Hk q (.dK kq) p=some o:=fun p o e _ n=> by rw [upd_ne n];exact e
  have at_:∀{j:Nat} {sv:SV},e[j]? =some (some sv)→sv.nodct=true:=fun {j sv} z=> by
    have:=List.all_eq_true.mp nd (some sv) (List.mem_of_getElem? z)
    exact this
  have not_own:∀{p:Addr} {o:HO},H p=some o→(A2p G env σ (upd H q (.frz od (.dK kq)))).H0 p=none→p≠q→OwnAt env σ p:=fun {p o} e n ne=> Classical.byContradiction fun y=> by
    rw [A3h y (show upd H q _ p=some o by rw [upd_ne ne];exact e)] at n;cases n
  refine ⟨hk,⟨Sk.len,fun i w z=> ?_,fun i c z=> ?_,Sk.uni,fun a o z=> ?_,fun p o z y t=> ?_,S.ext,fun p o z=> ?_,Sk.tabs.unlock hk (fun _ z=> (by cases z)) (fun _ z=> (by cases z))⟩,kp⟩
  · obtain ⟨v,a,b⟩:=Sk.val i w z
    exact ⟨v,a,Rep.unlock hk up w v (at_ z) b⟩
  · obtain ⟨p,a,b,_,d⟩:=Sk.own i c z
    have np:p≠q:=fun y=> by
      obtain ⟨o,eo,m⟩:=b.there
      rw [y,hk] at eo;cases eo;exact m
    refine ⟨p,a,b.unlock hk up (upd_ne np) (at_ z),?_,?_⟩
    · cases x:h p with
      | none=> rfl
      | some o=>
        obtain ⟨u,eu,_⟩:=(S.hp p o x).there
        obtain ⟨j,c',f1,f2⟩:=not_own eu d np
        obtain ⟨p',f3,_,f4,_⟩:=S.own j c' f1
        rw [f2] at f3;cases f3
        rw [f4] at x;cases x
    · cases x:G.H0 p with
      | none=> rfl
      | some o=>
        obtain ⟨u,eu⟩:=S.tr p o x
        obtain ⟨j,c',f1,f2⟩:=not_own eu d np
        obtain ⟨p',f3,_,_,f4⟩:=S.own j c' f1
        rw [f2] at f3;cases f3
        rw [f4] at x;cases x
  · by_cases ha:a=q
    · subst ha
      rw [hq] at z;cases z
      exact CRep.mono kp (upd_same.trans e0.symm) (show CRep G.K H a (.map (smap l)) from S.hp a _ hq)
    · obtain ⟨u,eu,m⟩:=(S.hp a o z).there
      have no:¬OwnAt env σ a:=fun ⟨j,c',f1,f2⟩=> by
        obtain ⟨p',f3,_,f4,_⟩:=S.own j c' f1
        rw [f2] at f3;cases f3
        rw [f4] at z;cases z
      exact (S.hp a o z).mono kp (by rw [upd_ne ha,fr a u eu ha no m.nt,eu])
  · have e:=S.fr p o z y t
    have np:p≠q:=fun x=> by
      subst x
      rw [S.ext p _ hq y] at z;cases z
    rw [upd_ne np]
    refine fr p o e np (fun ⟨j,c',f1,f2⟩=> ?_) t
    obtain ⟨p',f3,_,_,f4⟩:=S.own j c' f1
    rw [f2] at f3;cases f3
    rw [f4] at z;cases z
  · by_cases np:p=q
    · subst np;exact ⟨_,upd_same⟩
    · obtain ⟨u,eu⟩:=S.tr p o z
      have no:¬OwnAt env σ p:=fun ⟨j,c',f1,f2⟩=> by
        obtain ⟨p',f3,_,_,f4⟩:=S.own j c' f1
        rw [f2] at f3;cases f3
        rw [f4] at z;cases z
      obtain ⟨u',eu'⟩:=Sk.tr p u (A3h no (by rw [upd_ne np];exact eu))
      exact ⟨u',by rw [upd_ne np];exact eu'⟩
theorem BS.le {G:Gx} {env:A1} {h h':AH} {σ:L2.St} {H:Hp} (S:BS G env h σ H) (l:AH.Le h' h):BS G env h' σ H:=
  ⟨S.len,S.val,fun i c e=> (by
    obtain ⟨p,a,b,d,f⟩:=S.own i c e
    refine ⟨p,a,b,?_,f⟩
    cases z:h' p with
    | none=> rfl
    | some u=> rw [l p u z] at d;cases d),S.uni,fun a o e=> S.hp a o (l a o e),S.fr,fun a o e=> S.ext a o (l a o e),S.tr,S.tabs⟩
end
def itL (a b:Nat) (tb:C4) (D:A1→Prop):List (Str×W)→A1→Prop
  | [],e=> A9b e=true∧D e
  | p::r,e=> tb ⟨fun e' _=> itL a b tb D r e',fun _ _ _=> False,fun _ _=> False,fun e' _=> itL a b tb D r e'⟩ ((e.set a (some (.val (.str p.1)))).set b (some (.val p.2))) fun _=> none
theorem itL.mono {a b:Nat} {tb:C4} (m:Z0 tb) {D D':A1→Prop} (k:∀e,D e→D' e):∀(l:List (Str×W)) (e:A1),itL a b tb D l e→itL a b tb D' l e
  | [],e,q=> ⟨q.1,k e q.2⟩
  | p::r,e,q=> m ⟨fun e' _=> itL a b tb D r e',fun _ _ _=> False,fun _ _=> False,fun e' _=> itL a b tb D r e'⟩ ⟨fun e' _=> itL a b tb D' r e',fun _ _ _=> False,fun _ _=> False,fun e' _=> itL a b tb D' r e'⟩ _ _ ⟨fun e' _ z=> itL.mono m k r e' z,fun _ _ _ z=> z,fun _ _ z=> z,fun e' _ z=> itL.mono m k r e' z⟩ q
section
variable {X:Cx} {G:Gx} {i a b:Nat} {n f A B Sn:Str} {body:List Stmt} {pos p1 p2 p3 p4 p5 p6 p7:Pos} {k0:Nat} {tb:C4}
end
end Ab
namespace Ab
open PySem PySem.Spec PyProof.Rows L2 RZ
def Sta (H H':Hp):Prop:=∀p o,H p=some o→NT o→H' p=some o
section
variable {G:Gx} {env e:A1} {h:AH} {σ σ':L2.St} {H H':Hp}
theorem Sta.keeps (s:Sta H H'):Keeps H H':=fun p o e i=> s p o e i.nt
theorem BS.same (S:BS G env h σ H) (s:Sta H H') (th:∀p o,H p=some o→∃u,H' p=some u) (tb:TabsK G.K H'):BS G env h σ H'∧Xt env h σ H env h H':=by
  refine ⟨⟨S.len,fun i w z=> ?_,fun i c z=> ?_,S.uni,fun a o z=> ?_,fun p o z y t=> s p o (S.fr p o z y t) t,S.ext,fun p o z=> ?_,tb⟩,⟨fun p o e _ _ t=> s p o e t,fun p o e n=> (by rw [n] at e;cases e),th,fun i c e=> ⟨c,e⟩⟩⟩
  · obtain ⟨v,a,b⟩:=S.val i w z;exact ⟨v,a,Rep.mono s.keeps w v b⟩
  · obtain ⟨p,a,b,d,f⟩:=S.own i c z
    obtain ⟨u,eu,m⟩:=b.there
    exact ⟨p,a,b.mono s.keeps ((s p u eu m.nt).trans eu.symm),d,f⟩
  · obtain ⟨u,eu,m⟩:=(S.hp a o z).there
    exact (S.hp a o z).mono s.keeps ((s a u eu m.nt).trans eu.symm)
  · obtain ⟨u,eu⟩:=S.tr p o z;exact th p u eu
def VOnly (e:A1):Prop:=∀(i:Nat) (c:Cont),e[i]? ≠some (some (.own c))
theorem VOnly.set (v:VOnly e) {a:Nat} {w:W}:VOnly (e.set a (some (.val w))):=fun i c z=> by
  by_cases hi:a=i
  · subst hi
    by_cases hl:a < e.length
    · rw [List.getElem?_set_self hl] at z;cases z
    · rw [List.getElem?_eq_none (by rw [List.length_set];omega)] at z;cases z
  · rw [List.getElem?_set_ne hi] at z;exact v i c z
theorem VOnly.no (v:VOnly e) {p:Addr}:¬OwnAt e σ p:=fun ⟨i,c,z,_⟩=> v i c z
end
def A6U (a b:Nat) (e0:A1) (p:Str×W):A1:=(e0.set a (some (.val (.str p.1)))).set b (some (.val p.2))
def dcL (a b:Nat) (tk tv:B9) (Q:List (Str×W)→Prop) (e0:A1):List (Str×W)→List (Str×W)→Prop
  | [],acc=> W.nodcts (acc.map (·.2))=true∧Q acc
  | p::r,acc=> tk (A6U a b e0 p) (fun _=> none) fun w e2 _=> e2=A6U a b e0 p∧tv (A6U a b e0 p) (fun _=> none) fun u _ _=> ∃s,w= .str s∧acc.length < sizeLine∧dcL a b tk tv Q e0 r (A23 acc s u)
theorem dcL.mono {a b:Nat} {tk tv:B9} {e0:A1} (mk:B0 tk) (mv:B0 tv) {Q Q':List (Str×W)→Prop} (k:∀l,Q l→Q' l):∀(l acc:List (Str×W)),dcL a b tk tv Q e0 l acc→dcL a b tk tv Q' e0 l acc
  | [],acc,q=> ⟨q.1,k _ q.2⟩
  | p::r,acc,q=> mk _ _ _ _ (fun w e2 _ ⟨z1,z2⟩=> ⟨z1,mv _ _ _ _ (fun u _ _ ⟨s,y1,y2,y3⟩=> ⟨s,y1,y2,dcL.mono mk mv k r _ y3⟩) z2⟩) q
section
variable {X:Cx} {G:Gx} {i a b:Nat} {n f A B Sn:Str} {kx vx:Expr} {pos p1 p2 p3 p4 p5 p6 p7:Pos} {k0:Nat} {tk tv:B9} {scope:Scope} {own:List (Str×Nat)}
end
end Ab
namespace Ab
open PySem PySem.Spec PyProof.Rows L2 RZ
section
variable {X:Cx} {CX:CXT} {k:Nat} {f C:Addr} {fd:FuncData} {ps:List Str} {sp:Sp} {E:XK}
def isStr:V→Prop:=fun v=> ∃s,v= .str s
open Builtin in
structure NeOk (K:PySem.W.Frag) (C:Addr):Prop where
  ne:PySem.W.findIn K (.ref C) "__ne__"=some (some (.builtin "object.__ne__"))
  mr:PySem.W.mroIn K C (.type "object")=some true
open Builtin in
end
end Ab
namespace Ab
open PySem PySem.Spec PyProof.Rows L2 RZ
def aOwn (C:Str) (sp:F5) (po:RR→(RV→Prop)→Prop) (to:AT):AT:=fun env h Q=> to env h fun r env1 h1=> ∃a fs,r= .val (.ref a)∧h1 a=some (.ins C fs)∧sp [.ref a] h1 (fun x h2=> po x fun y=> Q y env1 h2) fun _ _=> False
def B6c (po:RR→(RV→Prop)→Prop):Prop:=∀r K K',(∀y,K y→K' y)→po r K→po r K'
theorem aOwn.mono {C:Str} {sp:F5} {po:RR→(RV→Prop)→Prop} {to:AT} (sm:P7 sp) (pm:B6c po) (m:B0 to):B0 (aOwn C sp po to):=fun env h Q Q' k q=>
  m env h _ _ (fun r e g ⟨a,fs,z1,z2,z⟩=> ⟨a,fs,z1,z2,sm _ _ _ _ _ _ (fun x f y=> pm _ _ _ (fun y' z=> k _ _ _ z) y) (fun _ _ z=> z) z⟩) q
section
variable {X:Cx} {G:Gx} {sp:F5} {C:Str} {st:Stmt} {k j:Nat} {ps:List Str} {o o2:Expr} {p pos:Pos} {to t2:AT}
def aEqO (C:Str) (neg:Bool) (sp:F5) (ta tb:AT):AT:=fun env h Q=> ta env h fun r env1 h1=> tb env1 h1 fun r2 env2 h2=> ∃a b fs gs,r= .val (.ref a)∧r2= .val (.ref b)∧h2 a=some (.ins C fs)∧h2 b=some (.ins C gs)∧
  sp [.ref a,.ref b] h2 (fun x h3=> ∃k:Bool,x= .val (.bl k)∧Q (.val (.bl (if neg=true then !k else k))) env2 h3) fun _ _=> False
theorem aEqO.mono {C:Str} {neg:Bool} {sp:F5} {ta tb:AT} (sm:P7 sp) (m:B0 ta) (n:B0 tb):B0 (aEqO C neg sp ta tb):=fun env h Q Q' k q=>
  m env h _ _ (fun r e g z=> n e g _ _ (fun r2 e2 g2 ⟨a,b,fs,gs,z1,z2,z3,z4,z⟩=> ⟨a,b,fs,gs,z1,z2,z3,z4,sm _ _ _ _ _ _ (fun x f ⟨b,y1,y2⟩=> ⟨b,y1,k _ _ _ y2⟩) (fun _ _ z=> z) z⟩) z) q
section
variable (gk:G.K=X.K) (O:OkM X.prog X.w X.K X.mg X.base C "__eq__" st k 2 ps [] sp) (bd:B5b C "__eq__" st ps) (hr:Room j X.A) (kj:k+1≤j) (ho:AE X G o to) (h2:AE X G o2 t2)
include gk O bd hr kj ho h2
end
structure IsO (K:PySem.W.Frag) (mg:Str→Option Value) (n C:Str) (b:Bool):Prop where
  gl:mg C=some (.ref (He.ga K C))
  cl:Cls K (He.ga K n)
  ca:PySem.W.findIn K (.ref (He.ga K n)) "__class__"=some (some (.builtin "object.__class__"))
  cn:PySem.W.specialIn K (.builtin "object.__class__") "__get__"=some (some (.builtin "getset_descriptor.__get__"))
  ct:PySem.W.takesIn K (.builtin "object.__class__")=some true
  cm:PySem.W.mroIn K (He.ga K n) (.type "object")=some true
  ko:PySem.W.kitOne K (.ref (He.ga K n)) (.ref (He.ga K C))=some b
end
end Ab
namespace Ab
open PySem PySem.Spec PyProof.Rows L2 RZ
def aMethM (C m:Str) (E:AExc→A1→AH→Prop) (sp:F5) (N:Nat) (gW:List W→List W→List W) (to:AT) (t tk:E4):AT:=fun env h Q=> to env h fun r env1 h1=> ∃a fs,r= .val (.ref a)∧h1 a=some (.ins C fs)∧fs.lookup m=none∧
  t env1 h1 fun ws env2 h2=> tk env2 h2 fun zs env3 h3=> (gW (.ref a::ws) zs).length=N∧sp (gW (.ref a::ws) zs) h3 (kRes Q env3) fun x h4=> E x env3 h4
theorem aMethM.mono {C m:Str} {E:AExc→A1→AH→Prop} {sp:F5} {N:Nat} {gW:List W→List W→List W} {to:AT} {t tk:E4} (sm:P7 sp) (a:B0 to) (b:B0 t) (c:B0 tk):B0 (aMethM C m E sp N gW to t tk):=fun env h Q Q' k q=>
  a env h _ _ (fun r e g ⟨p,fs,z1,z2,z3,z4⟩=> ⟨p,fs,z1,z2,z3,b e g _ _ (fun ws e2 g2 z=> c e2 g2 _ _ (fun zs e3 g3 z=> ⟨z.1,sm _ _ _ _ _ _ (fun r f y=> kRes.imp k r f y) (fun x f y=> y) z.2⟩) z) z4⟩) q
def aMakeM (C:Str) (E:AExc→A1→AH→Prop) (sp:F5) (N:Nat) (gW:List W→List W→List W) (t tk:E4):AT:=fun env h Q=> t env h fun ws env1 h1=> tk env1 h1 fun zs env2 h2=> (∀a:Addr,(gW (.ref a::ws) zs).length=N)∧∀a,h2 a=none→sp (gW (.ref a::ws) zs) (H7 h2 a (.ins C [])) (kMk Q env2 a) fun x h3=> E x env2 h3
theorem aMakeM.mono {C:Str} {E:AExc→A1→AH→Prop} {sp:F5} {N:Nat} {gW:List W→List W→List W} {t tk:E4} (sm:P7 sp) (b:B0 t) (c:B0 tk):B0 (aMakeM C E sp N gW t tk):=fun env h Q Q' k q=>
  b env h _ _ (fun ws e g z=> c e g _ _ (fun zs e g z=> ⟨z.1,fun a n=> sm _ _ _ _ _ _ (fun r f y=> ⟨y.1,k _ _ _ y.2⟩) (fun x f y=> y) (z.2 a n)⟩) z) q
section
variable {X:Cx} {G:Gx} {sp:F5} {C m:Str} {st:Stmt} {k j n0:Nat} {ps ks:List Str} {kws0:List (Str×V)} {mz:List V} {ds:List W} {o e:Expr} {es:List Expr} {kws:List Keyword} {pos apos p:Pos} {to:AT} {t tk:E4} {E:AExc→A1→AH→Prop} {perm:List Nat}
end
end Ab
namespace Ab
open PySem PySem.Spec PyProof.Rows L2 RZ
def A6u (l2:List (Str×W)):List (Str×W)→Bool
  | []=> true
  | p::r=> match l2.lookup p.1 with
    | none=> false
    | some u=> K5 p.2 u && A6u l2 r
def A4i (l:List (Str×W)):Bool:=l.all fun p=> p.2.dat 60
section
variable {X:Cx} {pins:List (Addr×Obj)} {σ:L2.St} {H:Hp} {s:Shared}
end
def oEqM:I7:=fun a b Q=> ∃l1 l2,a.toW=W9 l1∧b.toW=W9 l2∧A4i l1=true∧A4i l2=true∧Q (.val (.bl (l1.length==l2.length && A6u l2 l1)))
theorem oEqM.mono (a b:Vw) (Q Q':RV→Prop) (k:∀r,Q r→Q' r) (q:oEqM a b Q):oEqM a b Q':=
  let ⟨l1,l2,x1,x2,c,d,q⟩:=q
  ⟨l1,l2,x1,x2,c,d,k _ q⟩
def oNeM:I7:=fun a b Q=> ∃l1 l2,a.toW=W9 l1∧b.toW=W9 l2∧A4i l1=true∧A4i l2=true∧Q (.val (.bl (!(l1.length==l2.length && A6u l2 l1))))
theorem oNeM.mono (a b:Vw) (Q Q':RV→Prop) (k:∀r,Q r→Q' r) (q:oNeM a b Q):oNeM a b Q':=
  let ⟨l1,l2,x1,x2,c,d,q⟩:=q
  ⟨l1,l2,x1,x2,c,d,k _ q⟩
section
variable {X:Cx}
end
section
variable {X:Cx}
def A90:R2:=fun x y H Q=> ∃l k xs,x= .ref l∧y= .int k∧Rd H l (.lst xs)∧ -(2 ^ 63)≤k∧k < 2 ^ 63∧xs.length*k.toNat≤sizeLine∧∀p,H p=none→Q (.ref p) (upd H p (.lst (List.replicate k.toNat xs).flatten))
theorem B4s:OpR X (binaryOp .Mult) A90:=by
  intro pins s σ H x y v u Q I rx ry h
  obtain ⟨l,k,xs,rfl,rfl,hH,h1,h2,hz,q⟩:=h
  cases rx
  obtain ⟨t,rfl⟩:=ry
  obtain ⟨z,its,n,r,e⟩:=A55 I hH
  have hl:=r.length
  have hlen:its.toArray.size*k.toNat≤sizeLine:=by rw [List.size_toArray,←hl];exact hz
  have hcap:¬its.toArray.size*k.toNat > (2 ^ 63 - 1) / 8:=by
    have:(sizeLine:Nat)≤(2 ^ 63 - 1) / 8:=by decide
    omega
  have hfit:¬(!Builtin.List.listFitsIndex k)=true:=by
    rw [fitsIndex_both h1 h2]
    exact Bool.false_ne_true
  have hlong:¬Builtin.List.listTooLong (its.toArray.size*k.toNat)=true:=by
    rw [notLongL hlen]
    exact Bool.false_ne_true
  have hnew:List.foldl (fun x1 x2=> x1++x2) #[] (List.replicate (if its.toArray.isEmpty=true then 0 else k.toNat) its.toArray)=(List.replicate k.toNat its).flatten.toArray:=by
    have f0:∀m:Nat,List.foldl (fun x1 x2=> x1++x2) #[] (List.replicate m its.toArray)=(List.replicate m its).flatten.toArray:=fun m=> by
      have:=foldl_rep its m []
      rw [List.nil_append] at this
      exact this
    rw [f0]
    cases its with
    | nil=> simp
    | cons a r'=> rw [if_neg (by simp)]
  refine wpAny_binaryOp_repeat_ref (T:="list") (U:="int") (by decide) ⟨_,e,rfl⟩ (fun s'=> typeIs_int s' k t) noFill_list_mul F.fills_int_mul F.slot_int_rmul repeat_list F.slot_int_index.lookup
    (call_meets F.slot_int_rmul (typeIs_int s k t) F.entry_int_rmul (F.args_int_rmul_2 _ _) (int___rmul___int_list k t l its.toArray n)
      ⟨e,rfl,⟨_,e,rfl⟩,call_meets F.slot_list_mul ⟨_,e,rfl⟩ F.entry_list_mul (F.args_list_mul_2 _ _) (AutoListH.list___mul___list_int_3 l its.toArray n k t hfit hcap hlong) ⟨e,?_⟩⟩)
  rw [hnew]
  exact ⟨.ref _,_,I.lnew (t':=s.toks) (r.rep k.toNat) (by rw [PyProof.Rows.lm_len_rep_flat,Nat.mul_comm];exact hz),rfl,q _ I.fresh⟩
def v8 (x:Str) (n:Int):Str:=⟨(List.replicate n.toNat x.cps.toList).flatten.toArray⟩
def B0C:R2:=fun x y H Q=> ∃a n,x= .str a∧y= .int n∧0≤n∧n≤1000∧a.length≤1000∧Q (.str (v8 a n)) H
theorem A8A (x:Array Nat):∀(n:Nat) (acc:Array Nat),(List.replicate n x).foldl (· ++ ·) acc=acc++(List.replicate n x.toList).flatten.toArray
  | 0,acc=> by simp
  | n+1,acc=> by
    rw [List.replicate_succ,List.foldl_cons,A8A x n,List.replicate_succ,List.flatten_cons]
    obtain ⟨x⟩:=x
    simp
theorem B41:OpR X (binaryOp .Mult) B0C:=by
  intro pins s σ H x y v u Q I rx ry h
  obtain ⟨a,n,rfl,rfl,n0,n1,la,q⟩:=h
  obtain ⟨t,rfl⟩:=rx
  obtain ⟨t',rfl⟩:=ry
  have hz:a.length*n.toNat≤1000000:=Nat.le_trans (Nat.mul_le_mul la (show n.toNat≤1000 by omega)) (by decide)
  refine PySem.P.mul_str (by
    have h1:¬n < -(2 ^ 63:Int):=by omega
    have h2:¬n≥2 ^ 63:=by omega
    rw [decide_eq_false h1,decide_eq_false h2];rfl) (fun h1 _=> ?_) (fun _ _=> ?_) ?_
  · have h3:(9223372036854775:Int)≤(2 ^ 63 - 1) / n:=by
      have:=Int.le_ediv_of_mul_le (a:=9223372036854775) (b:=2 ^ 63 - 1) (c:=n) (by omega) (by omega)
      exact this
    omega
  · unfold Builtin.Str.tooLong
    rw [decide_eq_false]
    rw [show sizeLine=16777216 from rfl]
    omega
  · by_cases h1:n < 1
    · rw [if_pos h1]
      have e:n=0:=by omega
      subst e
      exact ⟨by decide,.str _,H,I.tok _,⟨_,rfl⟩,q⟩
    · rw [if_neg h1]
      by_cases h2:(n==1 || a.length==0)=true
      · rw [if_pos h2]
        have e:v8 a n=a:=by
          rcases Bool.or_eq_true_iff.mp h2 with e | e
          · have e:n=1:=by simpa using e
            subst e
            show Str.mk _=a
            simp
          · have e:a.length=0:=by simpa using e
            obtain ⟨⟨c⟩⟩:=a
            have:c=[]:=List.eq_nil_of_length_eq_zero e
            subst this
            unfold v8
            simp
        rw [e] at q
        exact ⟨.str a,H,I,⟨t,rfl⟩,q⟩
      · rw [if_neg h2]
        have e:(⟨(List.replicate n.toNat a.cps).foldl (· ++ ·) #[]⟩:Str)=v8 a n:=by
          unfold v8
          rw [A8A]
          simp
        rw [e]
        refine ⟨?_,.str _,H,I.tok _,⟨_,rfl⟩,q⟩
        show (v8 a n).cps.size≤_
        unfold v8
        simp only [List.size_toArray,List.length_flatten,List.map_replicate,List.sum_replicate_nat,Array.length_toList]
        rw [show sizeLine=16777216 from rfl,Nat.mul_comm]
        exact Nat.le_trans hz (by decide)
end
def oMulX:I7:=fun a b Q=> match b with
  | .wv (.int j)=> match a with
    | .wv (.int i)=> CMulW i j∧Q (.val (.int (i*j)))
    | .wv (.str x)=> (0≤j∧j≤1000∧x.length≤1000)∧Q (.val (.str (v8 x j)))
    | a=> ∃xs,a.seq=some xs∧(-(2 ^ 63)≤j∧j < 2 ^ 63∧xs.length*j.toNat≤sizeLine)∧Q (.own (.seq (List.replicate j.toNat xs).flatten))
  | _=> False
theorem oMulX.mono (a b:Vw) (Q Q':RV→Prop) (k:∀r,Q r→Q' r) (q:oMulX a b Q):oMulX a b Q':=by
  unfold oMulX at q ⊢
  split at q
  · split at q
    · exact ⟨q.1,k _ q.2⟩
    · exact ⟨q.1,k _ q.2⟩
    · obtain ⟨xs,e,z,q⟩:=q;exact ⟨xs,e,z,k _ q⟩
  · exact q
theorem B3m {K:PySem.W.Frag}:OpA K (fun x y H Q=> (rI CMulW (fun i j=> .int (i*j)) x y H Q∨B0C x y H Q)∨A90 x y H Q) oMulX:=
  ⟨oMulX.mono,fun a b x y H Q0 Q ra rb q k=> by
    unfold oMulX at q
    split at q
    · rename_i j
      have ey:y= .int j:=rb.int
      split at q
      · rename_i i
        exact .inl (.inl ⟨i,j,ra.int,ey,q.1,k _ _ (.val q.2 .int)⟩)
      · rename_i x
        exact .inl (.inr ⟨x,j,ra.str,ey,q.1.1,q.1.2.1,q.1.2.2,k _ _ (.val q.2 .str)⟩)
      · obtain ⟨xs,e,z,q⟩:=q
        obtain ⟨p,vs,ex,d1,r1⟩:=ra.seq e
        exact .inr ⟨p,j,vs,ex,ey,d1,z.1,z.2.1,by rw [←r1.length];exact z.2.2,fun p' n=> k _ _ (.lst n q (r1.rep _))⟩
    · exact q.elim⟩
section
variable {X:Cx} {G:Gx} {a b:Expr} {ta tb:AT} {pos:Pos}
theorem A5O (ha:AE X G a ta) (hb:AE X G b tb):AE X G (.BinOp a .Mult b pos) (aOp2 oMulX ta tb):=A08 ((op_mulW.or B41).or B4s) B3m ha hb
end
abbrev AJT:=A1→AH→(Str→A1→AH→Prop)→Prop
def fmtV (v:Vw) (Q:Str→Prop):Prop:=match v with
  | .wv (.str y)=> y.length≤sizeLine∧Q y
  | .wv (.int i)=> i.natAbs.log2 < 1920∧Q (toString i)
  | _=> False
def aFmt (t:AT):AT:=fun env h Q=> t env h fun r env1 h1=> fmtV (view env1 h1 r) fun y=> Q (.val (.str y)) env1 h1
theorem fmtV.imp {v:Vw} {Q Q':Str→Prop} (k:∀y,Q y→Q' y) (q:fmtV v Q):fmtV v Q':=by
  unfold fmtV at q ⊢
  split at q
  · exact ⟨q.1,k _ q.2⟩
  · exact ⟨q.1,k _ q.2⟩
  · exact q
theorem aFmt.mono {t:AT} (m:B0 t):B0 (aFmt t):=fun env h Q Q' k q=> m env h _ _ (fun r e g z=> z.imp fun y z=> k _ _ _ z) q
def jsL:List AT→Str→AJT
  | [],acc=> fun env h Q=> Q acc env h
  | t::ts,acc=> fun env h Q=> t env h fun r env1 h1=> ∃y:Str,r= .val (.str y)∧(acc++y).length≤sizeLine∧jsL ts (acc++y) env1 h1 Q
inductive AJ (X:Cx) (G:Gx):List Expr→List AT→Prop where
  | nil:AJ X G [] []
  | cons {e:Expr} {t:AT} {es:List Expr} {ts:List AT} (h:AE X G e t) (r:AJ X G es ts):AJ X G (e::es) (t::ts)
section
variable {X:Cx} {G:Gx} {e v1 v2:Expr} {t:AT} {es rest:List Expr} {ts:List AT} {pos:Pos}
theorem AJ.mono (a:AJ X G es ts):∀acc,B0 (jsL ts acc):=by
  induction a with
  | nil=> exact fun acc env h Q Q' k q=> k _ _ _ q
  | cons h r ih=> exact fun acc env g Q Q' k q=> h.mono env g _ _ (fun r e g ⟨y,e1,e2,z⟩=> ⟨y,e1,e2,ih _ _ _ _ _ k z⟩) q
end
end Ab
namespace Ab
open PySem PySem.Spec PyProof.Rows L2 RZ
def g7 (x:Str):List W:=x.cps.toList.map fun c=> .str ⟨#[c]⟩
theorem B3f {x:Str}:(g7 x).length=x.cps.size:=by unfold g7;simp
theorem B34 {x:Str} {i:Nat} {w:W} (e:(g7 x)[i]? =some w):∃c,x.cps[i]? =some c∧w= .str ⟨#[c]⟩:=by
  unfold g7 at e
  rw [List.getElem?_map] at e
  cases q:x.cps.toList[i]? with
  | none=> rw [q] at e;cases e
  | some c=>
    rw [q] at e
    have e:some (W.str ⟨#[c]⟩)=some w:=e
    cases e
    exact ⟨c,by rw [←Array.getElem?_toList];exact q,rfl⟩
theorem B3E {K:PySem.W.Frag} {H:Hp} {x:Str}:A2r K (Its x) H (g7 x):=fun H' kk i=> by
  refine ⟨fun h=> (by rw [B3f] at h;exact h),fun w e=> ?_⟩
  obtain ⟨c,ec,rfl⟩:=B34 e
  have hi:i < x.cps.size:=by
    by_cases q:i < x.cps.size
    · exact q
    · rw [Array.getElem?_eq_none (by omega)] at ec;cases ec
  exact ⟨hi,fun v H2 ⟨e1,c',ec',ev⟩=> by
    subst e1
    rw [ec] at ec'
    cases ec'
    subst ev
    exact ⟨.refl _,.str⟩⟩
def A1g (t:AT):Q9:=fun env h Q=> t env h fun r env1 h1=> ∃x,r= .val (.str x)∧Q (g7 x) env1 h1
section
variable {X:Cx} {G:Gx} {tg e a b o k:Expr} {t ta tb to:AT} {tk:B9} {pos:Pos}
theorem A4A (ha:AE X G e t):AI X G tg e (A1g t):=by
  refine ⟨fun env h Q Q' k q=> ha.mono env h _ _ (fun r e g ⟨x,z1,z2⟩=> ⟨x,z1,k _ _ _ z2⟩) q,PI.imp (pi_str ha.pe) fun σ H R ⟨env,h,S,q⟩=> ?_⟩
  refine ⟨env,h,S,ha.mono env h _ _ (fun r env1 h1 ⟨x,z1,z⟩ v H1 S1 x1 r1 _=> ?_) q⟩
  subst z1
  exact ⟨x,Rep.of_str (K:=G.K) (H:=H1) r1,z _ H1 S1 x1 B3E⟩
def V6 (i j:Str):Bool:= !(Builtin.Str.occurrences j i 0 j.length 1).isEmpty
def B0m (neg:Bool):R2:=fun x y H Q=> ∃i j,x= .str i∧y= .str j∧Q (.bl (if neg=true then !V6 i j else V6 i j)) H
theorem B5g:OpR X (compareOp .In) (B0m false):=op_in_str
def oInS (neg:Bool):I7:=fun a b Q=> match a,b with
  | .wv (.str i),.wv (.str j)=> Q (.val (.bl (if neg=true then !V6 i j else V6 i j)))
  | _,_=> False
theorem oInS.mono {neg:Bool} (a b:Vw) (Q Q':RV→Prop) (k:∀r,Q r→Q' r) (q:oInS neg a b Q):oInS neg a b Q':=by
  unfold oInS at q ⊢
  split at q
  · exact k _ q
  · exact q
theorem B5N {K:PySem.W.Frag} {neg:Bool}:OpA K (B0m neg) (oInS neg):=⟨oInS.mono,fun a b x y H Q0 Q ra rb q k=> by
  unfold oInS at q
  split at q
  · exact ⟨_,_,ra.str,rb.str,k _ _ (.val q .bl)⟩
  · exact q.elim⟩
theorem A32 (ha:AE X G a ta) (hb:AE X G b tb) (h1:behindInMarks .In b=false:=by rfl):AE X G (.Compare a [.In] [b] pos) (aOp2 (oInS false) ta tb):=A4H B5g B5N ha hb h1
theorem A89 {x z:Str} (hg:Gl X x) (hm:∃t,X.mg x=some (.str z t)) (hd:(x==("__debug__":Str))=false:=by decide):AE X G (.Name x pos) (aC (.str z)):=by
  obtain ⟨t,hm⟩:=hm
  exact A1D (v:= .str z) (pe_glob (v:= .str z) hg hm ⟨t,rfl⟩ hd) fun _=> .str
end
end Ab
namespace Ab
open PySem PySem.Spec PyProof.Rows L2 RZ
section
variable {X:Cx} {G:Gx} {i a b:Nat} {n f A B Sn:Str} {kx vx:Expr} {pos p1 p2 p3 p4 p5 p6 p7:Pos} {k0:Nat} {tk tv:B9} {scope:Scope} {own:List (Str×Nat)}
end
section
variable {X:Cx} {G:Gx} {elt tg iter:Expr} {ifs:List Expr} {scope:Scope} {own:List (Str×Nat)} {pos:Pos} {ti:Z9} {g:H8} {tt:G3} {te:B9} {sl:List Nat}
variable {ti1:Z9} {g1:H8} {tt1:G3} {vs1 sl1:List Nat} {tg1 iter1:Expr} {ifs1:List Expr}
end
end Ab
namespace Ab
open PySem PySem.Spec PyProof.Rows L2 RZ
theorem VRL.three {K:PySem.W.Frag} {H:Hp} {a b c:Vw} {vs:List V} (r:VRL K H [a,b,c] vs):∃v u t,vs=[v,u,t]∧VR K H a v∧VR K H b u∧VR K H c t:=by
  cases r with
  | cons r1 rr=>
    obtain ⟨u,t,rfl,r2,r3⟩:=VRL.two rr
    exact ⟨_,u,t,rfl,r1,r2,r3⟩
def B0f (hi:Int) (n:Nat):List W:=(List.range n).map fun (i:Nat)=> W.int (hi - i)
section
variable {X:Cx} {G:Gx} {tg e:Expr} {pos:Pos} {x:Str}
end
end Ab
namespace Ab
open PySem PySem.Spec PyProof.Rows L2 RZ
section
variable {X:Cx} {G:Gx} {body:List Stmt} {f₀:Stmt} {fs:List Stmt} {pos:Pos} {E:AExc→A1→AH→Prop}
variable {sp:F5} {st:Stmt} {k j n:Nat} {ps:List Str} {x y:Str} {p:Pos} {e:Expr} {es:List Expr} {t:E4}
end
section
variable {P:Program} {w:World} {K:PySem.W.Frag} {mg:Str→Option Value} {base:Heap} {C m:Str} {f:Addr} {fd:FuncData} {N ps:List Str} {k n:Nat} {sp:F5} {st:Stmt} {kws:List (Str×V)}
end
end Ab
namespace Ab
open PySem PySem.Spec PyProof.Rows L2 RZ
section
variable {K:PySem.W.Frag}
end
section
variable {X:Cx} {G:Gx} {o k e a b tg:Expr} {to ta tb:AT} {tk:B9} {t:B9} {i j:Nat} {x y:Str} {px py pt pos apos cpos:Pos} {kt:Nat} {k2:Nat} {pt2:Pos}
end
end Ab
namespace Ab
open PySem PySem.Spec PyProof.Rows L2 RZ
theorem A8F {α β:Type} (f:α→β):∀(l:List α) (j:Nat),(l.eraseIdx j).map f=(l.map f).eraseIdx j
  | [],_=> rfl
  | _::_,0=> rfl
  | a::l,j+1=> by rw [List.map_cons,List.eraseIdx_cons_succ,List.eraseIdx_cons_succ,List.map_cons,A8F f l j]
def A9z:V→List V→Hp→VK→Prop:=fun x vs H Q=> ∃(l:Addr) (xs:List V) (i:Int) (y:V),x= .ref l∧vs=[.int i,y]∧H l=some (.lst xs)∧xs.length < sizeLine∧0≤i∧i < 2 ^ 63∧Q .non (upd H l (.lst (xs.take i.toNat++[y]++xs.drop i.toNat)))
theorem B47 {X:Cx}:MtR X "list.insert" A9z:=mt_insert
def A0D:P5:=fun xs ws Q=> match ws with
  | [.int i,y]=> xs.length < sizeLine∧0≤i∧i < 2 ^ 63∧Q (xs.take i.toNat++[y]++xs.drop i.toNat) .non
  | _=> False
theorem B3I {K:PySem.W.Frag}:LmOk K A9z A0D:=
  ⟨fun xs ws Q Q' k q=> by
    unfold A0D at q ⊢
    split at q
    · exact ⟨q.1,q.2.1,q.2.2.1,k _ _ q.2.2.2⟩
    · exact q,fun H p xs vs ws us Qf Q l rl rw0 q k=> by
    unfold A0D at q
    split at q
    · obtain ⟨v,t,rfl,rv,rt⟩:=rw0.of_cons
      obtain ⟨v2,t2,rfl,rv2,rt2⟩:=rt.of_cons
      rw [rt2.of_nil,Rep.of_int (K:=K) (H:=H) rv]
      exact ⟨p,vs,_,v2,rfl,rfl,l,by rw [←rl.length];exact q.1,q.2.1,q.2.2.1,k _ _ _ _ q.2.2.2 (((rl.take _).append (.cons rv2 .nil)).append (rl.drop _)) .non⟩
    · exact q.elim⟩
def B37:P5:=fun xs ws Q=> match ws with
  | []=> Q xs.reverse .non
  | _=> False
def B51:P5:=fun xs ws Q=> match ws with
  | []=> Q [] .non
  | _=> False
end Ab
namespace Ab
open PySem PySem.Spec PyProof.Rows L2 RZ
def A4W (v:Vw) (w d:W) (Q:RV→Prop):Prop:=∃l s,v.toW=W9 l∧w= .str s∧Q (.val ((l.lookup s).getD d))
def isM (v:Vw):Prop:=∃l,v.toW=W9 l
def aGetMD (to:AT) (tk td:B9):AT:=fun env h Q=> to env h fun r env1 h1=> isM (view env1 h1 r)∧tk env1 h1 fun w env2 h2=> td env2 h2 fun d env3 h3=> A4W (view env3 h3 r) w d fun x=> Q x env3 h3
theorem aGetMD.mono {tk td:B9} {to:AT} (n:B0 to) (m:B0 tk) (o:B0 td):B0 (aGetMD to tk td):=fun env h Q Q' k q=> n env h _ _ (fun r e g z=> ⟨z.1,m e g _ _ (fun w e g z=> o e g _ _ (fun d e g ⟨l,s,z1,z2,z4⟩=> ⟨l,s,z1,z2,k _ _ _ z4⟩) z) z.2⟩) q
section
variable {X:Cx} {G:Gx} {o k e:Expr} {apos cpos:Pos} {tk td:B9} {to:AT}
theorem B4N (hu:X.A.units+64 < cLine) (ho:AE X G o to) (hk:AV X G k tk) (hd:AV X G e td) (m:M2 X o "get" apos k e cpos):
    AE X G (.Call (.Attribute o "get" apos) [k,e] [] cpos) (aGetMD to tk td):=by
  refine ⟨aGetMD.mono ho.mono hk.mono hd.mono,PE.imp (pe_dget2 (by omega) ho.pe hk.pe hd.pe m) fun σ H Q ⟨env,h,S,q⟩=> ?_⟩
  refine ⟨env,h,S,ho.mono env h _ _ (fun r env1 h1 ⟨⟨l0,z0⟩,z⟩ x H1 S1 x1 r1 f1=> ?_) q⟩
  obtain ⟨p0,ks0,ex0,rd0,_,_⟩:=(r1.vr S1).smap z0
  subst ex0
  refine ⟨p0,rfl,.inl ⟨ks0,rd0⟩,env1,h1,S1,hk.mono env1 h1 _ _ (fun w env2 h2 z y H2 S2 x2 r2=> ?_) z⟩
  refine ⟨env2,h2,S2,hd.mono env2 h2 _ _ (fun d env3 h3 ⟨l,s,z1,z2,zq⟩ u H3 S3 x3 r3=> ?_) z⟩
  obtain ⟨p,ks,ex,rd,e1,e2⟩:=((r1.xt S1 (x2.trans x3)).vr S3).smap z1
  injection ex with ex
  subst ex
  subst z2
  have ey:y= .str s:=Rep.of_str (K:=G.K) (H:=H2) r2
  subst ey
  rcases A9r (s:=s) e1 e2 with ⟨a,b⟩ | ⟨w,v,a,b,rv⟩
  · rw [a] at zq
    exact ⟨none,.inl ⟨ks,.inr s,rd,rfl,b.symm⟩,zq u H3 S3 (x1.trans (x2.trans x3)) r3 trivial⟩
  · rw [a] at zq
    exact ⟨some v,.inl ⟨ks,.inr s,rd,rfl,b.symm⟩,zq v H3 S3 (x1.trans (x2.trans x3)) rv trivial⟩
end
end Ab
namespace Ab
open PySem PySem.Spec PyProof.Rows L2 RZ
def Y0:I6:=fun as Q=> match as with
  | [.wv (.int i)]=> i.natAbs.log2 < 1920∧Q (.val (.str (toString i)))
  | [.wv (.str s)]=> Q (.val (.str s))
  | _=> False
def A95:List V→Hp→VK→Prop:=fun xs H Q=> (∃i:Int,xs=[.int i]∧i.natAbs.log2 < 1920∧Q (.str (toString i)) H)∨∃a,xs=[.str a]∧Q (.str a) H
theorem B3Y {X:Cx}:CallR X (.type "str") A95:=by
  intro pins s σ H xs us Q I r h
  rcases h with h | h
  · exact call_str_int pins s σ H xs us Q I r h
  · exact SkE.call_str_str pins s σ H xs us Q I r h
theorem B4w {K:PySem.W.Frag}:CallA K A95 Y0:=
  ⟨fun as Q Q' k q=> by
    unfold Y0 at q ⊢
    split at q
    · exact ⟨q.1,k _ q.2⟩
    · exact k _ q
    · exact q,fun as vs H Q0 Q r q k=> by
    unfold Y0 at q
    split at q
    · obtain ⟨v,rfl,r1⟩:=r.one
      exact .inl ⟨_,by rw [r1.int],q.1,k _ _ (.val q.2 .str)⟩
    · obtain ⟨v,rfl,r1⟩:=r.one
      exact .inr ⟨_,by rw [r1.str],k _ _ (.val q .str)⟩
    · exact q.elim⟩
def aJoin (to te:AT):AT:=fun env h Q=> to env h fun r env1 h1=> (∃s,view env1 h1 r= .wv (.str s))∧te env1 h1 fun r2 env2 h2=> ∃(s:Str) (ys:List Str),view env2 h2 r= .wv (.str s)∧(view env2 h2 r2).items=some (ys.map W.str)∧(ys.map (·.length)).sum+ys.length*s.length≤16777216∧Q (.val (.str (Txt.join s ys))) env2 h2
theorem aJoin.mono {to te:AT} (a:B0 to) (b:B0 te):B0 (aJoin to te):=fun env h Q Q' k q=>
  a env h _ _ (fun r e g z=> ⟨z.1,b e g _ _ (fun r2 e2 g2 ⟨s,ys,z1,z2,z3,z4⟩=> ⟨s,ys,z1,z2,z3,k _ _ _ z4⟩) z.2⟩) q
section
variable {X:Cx} {G:Gx} {o e:Expr} {to te:AT} {apos pos:Pos}
theorem A84 (gk:G.K=X.K) (ho:AE X G o to) (he:AE X G e te) (hs:starEach [e] X.env=[(false,eval e X.env)]:=by rfl) (hb:attributeBase o "join" X.env (eval o X.env)=eval o X.env:=by rfl) (hl:(apos.endLine==pos.line)=true:=by rfl):
    AE X G (.Call (.Attribute o "join" apos) [e] [] pos) (aJoin to te):=by
  refine ⟨aJoin.mono ho.mono he.mono,PE.imp (pe_join ho.pe he.pe hs hb hl) fun σ H Q ⟨env,h,S,q⟩=> ?_⟩
  refine ⟨env,h,S,ho.mono env h _ _ (fun r env1 h1 ⟨⟨s0,z0⟩,z⟩ x H1 S1 x1 r1 f1=> ?_) q⟩
  have rr:=r1.vr S1
  rw [z0] at rr
  have ex:x= .str s0:=rr.str
  subst ex
  refine ⟨⟨s0,rfl⟩,env1,h1,S1,he.mono env1 h1 _ _ (fun r2 env2 h2 ⟨s,ys,z1,z2,z3,zq⟩ y H2 S2 x2 r2' f2=> ?_) z⟩
  have r1':=(r1.xt S1 x2).vr S2
  rw [z1] at r1'
  have e2:V.str s0= .str s:=r1'.str
  injection e2 with e2
  subst e2
  obtain ⟨p,vs,rfl,d,rl⟩:=(r2'.vr S2).items z2
  rw [rl.of_strs] at d
  refine ⟨s0,p,ys,rfl,rfl,?_,z3,zq _ _ S2 (x1.trans x2) (show Rep G.K H2 (.str _) _ from .str) trivial⟩
  rcases d with d | d
  · exact .inl (gk▸(f9 d))
  · exact .inr (gk▸d)
end
section
variable {X:Cx} {CX:CXT} {k:Nat} {f C:Addr} {fd:FuncData} {ps:List Str} {sp:Sp} {E:XK}
end
section
variable {X:Cx} {G:Gx} {sp:F5} {C:Str} {st:Stmt} {k j:Nat} {ps:List Str} {o:Expr} {p pos:Pos} {to:AT}
end
end Ab
namespace Ab
open PySem PySem.Spec PyProof.Rows L2 RZ
def aM1 (o:I6) (to te:AT):AT:=fun env h Q=> to env h fun r env1 h1=> (∃s,view env1 h1 r= .wv (.str s))∧te env1 h1 fun r2 env2 h2=> o [view env2 h2 r,view env2 h2 r2] fun x=> Q x env2 h2
def r2N (r:V→List V→Hp→VK→Prop):List V→Hp→VK→Prop:=fun vs H Q=> ∃x y,vs=[x,y]∧r x [y] H Q
theorem aM1.mono {K:PySem.W.Frag} {r:List V→Hp→VK→Prop} {o:I6} {to te:AT} (ca:CallA K r o) (a:B0 to) (b:B0 te):B0 (aM1 o to te):=fun env h Q Q' k q=>
  a env h _ _ (fun r e g z=> ⟨z.1,b e g _ _ (fun r2 e2 g2 z=> ca.mono _ _ _ (fun x q=> k _ _ _ q) z) z.2⟩) q
def X6:I6:=fun as Q=> match as with
  | [.wv (.str a),.wv (.str b)]=> (b.length==0)=false∧a.length+2≤sizeLine∧Q (.own (.seq ((Txt.split a b).map W.str)))
  | _=> False
theorem A74 {K:PySem.W.Frag} {H:Hp}:∀ys:List Str,RepL K H (ys.map W.str) (ys.map V.str)
  | []=> .nil
  | y::r=> .cons .str (A74 r)
theorem B3h {K:PySem.W.Frag}:CallA K (r2N rSplitAny) X6:=
  ⟨fun as Q Q' k q=> by
    unfold X6 at q ⊢
    split at q
    · exact ⟨q.1,q.2.1,k _ q.2.2⟩
    · exact q,fun as vs H Q0 Q r q k=> by
    unfold X6 at q
    split at q
    · obtain ⟨v,u,rfl,r1,r2⟩:=r.two
      exact ⟨v,u,rfl,.inl ⟨_,_,r1.str,by rw [r2.str],q.1,q.2.1,fun p n=> k _ _ (.lst n q.2.2 (A74 _))⟩⟩
    · exact q.elim⟩
section
variable {X:Cx} {G:Gx} {o e:Expr} {to te:AT} {apos pos:Pos}
theorem A5M (ho:AE X G o to) (he:AE X G e te) (hs:starEach [e] X.env=[(false,eval e X.env)]:=by rfl) (hb:attributeBase o "split" X.env (eval o X.env)=eval o X.env:=by rfl) (hl:(apos.endLine==pos.line)=true:=by rfl):
    AE X G (.Call (.Attribute o "split" apos) [e] [] pos) (aM1 X6 to te):=by
  have ca:=B3h (K:=G.K)
  refine ⟨aM1.mono ca ho.mono he.mono,PE.imp (pe_splitAny ho.pe he.pe hs hb hl) fun σ H Q ⟨env,h,S,q⟩=> ?_⟩
  refine ⟨env,h,S,ho.mono env h _ _ (fun r env1 h1 ⟨⟨s0,z0⟩,z⟩ x H1 S1 x1 r1 f1=> ?_) q⟩
  have rr:=r1.vr S1
  rw [z0] at rr
  have ex:x= .str s0:=rr.str
  subst ex
  refine ⟨⟨s0,rfl⟩,env1,h1,S1,he.mono env1 h1 _ _ (fun r2 env2 h2 zq y H2 S2 x2 r2' f2=> ?_) z⟩
  have vr:VRL G.K H2 [view env2 h2 r,view env2 h2 r2] [.str s0,y]:= .cons ((r1.xt S1 x2).vr S2) (.cons (r2'.vr S2) .nil)
  obtain ⟨x',y',e1,z2⟩:=ca.ok _ _ _ _ (fun v H3=> Q v H3) vr zq fun v H3 out=> by
    obtain ⟨res,q0,a,b,c,d⟩:=out.end S2 (x1.trans x2)
    exact q0 v H3 a b c d
  injection e1 with e1 e2
  injection e2 with e2
  subst e1 e2
  exact z2
end
def T2:I6:=fun as Q=> match as with
  | [.wv (.str a)]=> ∃n,intText? a=some n∧a.length≤640∧Q (.val (.int n))
  | _=> False
theorem A3r {K:PySem.W.Frag}:CallA K (fun xs H Q=> ∃a n,xs=[.str a]∧intText? a=some n∧a.length≤640∧Q (.int n) H) T2:=
  ⟨fun as Q Q' k q=> by
    unfold T2 at q ⊢
    split at q
    · obtain ⟨n,a,b,q⟩:=q;exact ⟨n,a,b,k _ q⟩
    · exact q,fun as vs H Q0 Q r q k=> by
    unfold T2 at q
    split at q
    · obtain ⟨v,rfl,r1⟩:=r.one
      obtain ⟨n,a,b,q⟩:=q
      exact ⟨_,n,by rw [r1.str],a,b,k _ _ (.val q .int)⟩
    · exact q.elim⟩
end Ab
namespace Ab
open PySem PySem.Spec PyProof.Rows L2 RZ
def K3 (tab:List (Str×Int)) (x:Str):Option Int:=(tab.find? fun p=> decide (p.1=x)).map (·.2)
structure DcF (K:PySem.W.Frag) (w:World) (a:Addr) (tab:List (Str×Int)):Prop where
  kd:∃es n,KDict K w a es n
  hit:∀x i,K3 tab x=some i→∃t,PySem.W.nsIn K a x=some (some (.int i t))
  miss:∀x,K3 tab x=none→PySem.W.nsIn K a x=some none
theorem B24 {e:DictEntry} {p:Str×Int} (h:A4h e=some p):∃t u,e.key= .str p.1 t∧e.val= .int p.2 u:=by
  unfold A4h at h
  obtain ⟨a,b⟩:=p
  cases ek:e.key with
  | str x t=>
    rw [ek] at h
    cases ev:e.val with
    | int i u=>
      rw [ev] at h
      have h:=Option.some.inj h
      cases h
      exact ⟨t,u,rfl,rfl⟩
    | _=> rw [ev] at h;cases h
  | _=> rw [ek] at h;cases h
theorem A3l {x:Str}:∀{es:List DictEntry} {tab:List (Str×Int)},es.map A4h=tab.map some→
    (∀i,K3 tab x=some i→∃e t,es.find? (·.key.isStr x)=some e∧e.val= .int i t)∧(K3 tab x=none→es.find? (·.key.isStr x)=none)∧es.any (·.refKey)=false
  | [],[],_=> ⟨fun i h=> (by cases h),fun _=> rfl,rfl⟩
  | [],_::_,h=> by cases h
  | _::_,[],h=> by cases h
  | e::es,p::tab,h=> by
    rw [List.map_cons,List.map_cons] at h
    injection h with h1 h2
    obtain ⟨a,b,c⟩:=A3l (x:=x) h2
    obtain ⟨t,u,ek,ev⟩:=B24 h1
    have rk:e.refKey=false:=by
      unfold DictEntry.refKey
      rw [ek]
    by_cases g:p.1=x
    · have hk:e.key.isStr x=true:=by rw [ek,←g];simp [Value.isStr]
      refine ⟨fun i hi=> ⟨e,u,by rw [List.find?_cons_of_pos (by exact hk)],?_⟩,fun hi=> ?_,by rw [List.any_cons,rk,c];rfl⟩
      · unfold K3 at hi
        rw [List.find?_cons_of_pos (by simpa using g)] at hi
        cases hi
        exact ev
      · unfold K3 at hi
        rw [List.find?_cons_of_pos (by simpa using g)] at hi
        cases hi
    · have hk:¬e.key.isStr x=true:=by
        rw [ek]
        simpa [Value.isStr] using g
      have kl:K3 (p::tab) x=K3 tab x:=by
        unfold K3
        rw [List.find?_cons_of_neg (by simpa using g)]
      rw [kl,List.find?_cons_of_neg (by exact hk)]
      exact ⟨a,b,by rw [List.any_cons,rk,c];rfl⟩
theorem A9A {K:PySem.W.Frag} {w:World} {x:Str} {tab:List (Str×Int)} (k:∃es n,KDict K w (He.ga K x) es n) (h:A4e K x tab=true):DcF K w (He.ga K x) tab:=by
  obtain ⟨es,n,kd⟩:=k
  unfold A4e at h
  rw [kd.at_] at h
  have h:=of_decide_eq_true h
  refine ⟨⟨es,n,kd⟩,fun y i hi=> ?_,fun y hi=> ?_⟩
  · obtain ⟨e,t,e1,e2⟩:=(A3l (x:=y) h).1 i hi
    refine ⟨t,?_⟩
    unfold PySem.W.nsIn
    rw [kd.at_]
    dsimp only
    rw [e1,←e2]
  · have e1:=(A3l (x:=y) h).2.1 hi
    unfold PySem.W.nsIn
    rw [kd.at_]
    dsimp only
    rw [e1,(A3l (x:=y) h).2.2]
    rfl
def DcG (K:PySem.W.Frag) (w:World) (mg:Str→Option Value) (x:Str) (tab:List (Str×Int)):Prop:=mg x=some (.ref (He.ga K x))∧DcF K w (He.ga K x) tab
def aInKD (neg:Bool) (tab:List (Str×Int)) (tk:B9):AT:=fun env h Q=> tk env h fun w env1 h1=> ∃s,w= .str s∧Q (.val (.bl (if neg=true then !(K3 tab s).isSome else (K3 tab s).isSome))) env1 h1
theorem aInKD.mono {neg:Bool} {tab:List (Str×Int)} {tk:B9} (m:B0 tk):B0 (aInKD neg tab tk):=fun env h Q Q' k q=> m env h _ _ (fun w e g ⟨s,z1,z2⟩=> ⟨s,z1,k _ _ _ z2⟩) q
def aIxKD (tab:List (Str×Int)) (tk:B9):AT:=fun env h Q=> tk env h fun w env1 h1=> ∃s i,w= .str s∧K3 tab s=some i∧Q (.val (.int i)) env1 h1
theorem aIxKD.mono {tab:List (Str×Int)} {tk:B9} (m:B0 tk):B0 (aIxKD tab tk):=fun env h Q Q' k q=> m env h _ _ (fun w e g ⟨s,i,z1,z0,z2⟩=> ⟨s,i,z1,z0,k _ _ _ z2⟩) q
section
variable {X:Cx} {G:Gx} {k:Expr} {pos dpos:Pos} {x:Str} {tab:List (Str×Int)} {tk:B9}
def B0M (neg:Bool) (tab:List (Str×Int)) (ty:TE):TE:=fun σ H Q=> ty σ H fun y H1=> ∃s,y= .str s∧Q (.bl (if neg=true then !(K3 tab s).isSome else (K3 tab s).isSome)) H1
theorem B3p {ty:TE} (gk:G.K=X.K) (hg:Gl X x) (D:DcG X.K X.w X.mg x tab) (hd:(x==("__debug__":Str))=false) (hk:PE X k ty):PC X .NotIn k (.Name x dpos) (B0M true tab ty):=by
  obtain ⟨hm,⟨es,n,kd⟩,hit,miss⟩:=D
  refine ⟨fun pins s σ H Q I h=> ?_⟩
  refine thn (hk.run pins s σ H _ I h) fun iv s1 ⟨y,H1,I1,ry,z,ey,q⟩=> thn ((pe_glob (v:= .ref (He.ga X.K x)) hg hm rfl hd).run pins s1 σ H1 (fun v H'=> v= .ref (He.ga X.K x)∧H'=H1) I1 ⟨rfl,rfl⟩) fun u s2 ⟨v,H2,I2,rx,ev,eH⟩=> ?_
  subst ev eH ey
  cases c:K3 tab z with
  | none=>
    rw [c] at q
    exact op_notIn_kd kd pins s2 σ H2 (.str z) (.ref _) iv u Q I2 ry rx ⟨z,none,rfl,rfl,miss z c,q⟩
  | some i=>
    rw [c] at q
    obtain ⟨t,e⟩:=hit z i c
    exact op_notIn_kd kd pins s2 σ H2 (.str z) (.ref _) iv u Q I2 ry rx ⟨z,_,rfl,rfl,e,q⟩
theorem B2j {neg:Bool} {σ:L2.St} {H:Hp} {Q:Bool→Hp→Prop} (hk:AV X G k tk) (q:cT G (aTst (aInKD neg tab tk)) σ H Q):tB (B0M neg tab (cV G tk)) σ H Q:=by
  obtain ⟨env,h,S,q⟩:=q
  refine ⟨env,h,S,hk.mono env h _ _ (fun w env1 h1 ⟨s,ew,z⟩ y H1 S1 x1 r1=> ?_) q⟩
  subst ew
  exact ⟨s,Rep.of_str (K:=G.K) (H:=H1) r1,_,rfl,z H1 S1 x1⟩
theorem B4P (gk:G.K=X.K) (hg:Gl X x) (D:DcG X.K X.w X.mg x tab) (hk:AV X G k tk) (hd:(x==("__debug__":Str))=false:=by decide) (h1:behindInMarks .NotIn (.Name x dpos)=false:=by rfl):AP X G (.Compare k [.NotIn] [.Name x dpos] pos) (aTst (aInKD true tab tk)):=
  ⟨aTst.mono (aInKD.mono hk.mono),PT.imp (pt_cmp (B3p gk hg D hd hk.pe) h1) fun _ _ _ q=> B2j hk q⟩
theorem A8u (gk:G.K=X.K) (hg:Gl X x) (D:DcG X.K X.w X.mg x tab) (hk:AV X G k tk) (hs:PlainIx k:=by exact fun _ _=> rfl) (hd:(x==("__debug__":Str))=false:=by decide):AE X G (.Subscript (.Name x dpos) k pos) (aIxKD tab tk):=by
  obtain ⟨hm,⟨es,n,kd⟩,hit,miss⟩:=D
  refine ⟨aIxKD.mono hk.mono,PE.imp (pe_ix ix_kdict (pe_glob (v:= .ref (He.ga X.K x)) hg hm rfl hd) hk.pe hs) fun σ H Q ⟨env,h,S,q⟩=> ?_⟩
  refine ⟨env,h,S,hk.mono env h _ _ (fun w env1 h1 ⟨s,i,ew,e0,z⟩ y H1 S1 x1 r1=> ?_) q⟩
  subst ew
  obtain ⟨t,e⟩:=hit s i e0
  exact ⟨_,s,.int i,rfl,Rep.of_str (K:=G.K) (H:=H1) r1,⟨es,n,_,kd.at_,kd.lit,e,⟨t,rfl⟩⟩,z _ H1 S1 x1 (Rep.int (K:=G.K) (H:=H1)) trivial⟩
end
end Ab
namespace Ab
open PySem PySem.Spec PyProof.Rows L2 RZ
def B6n:I6:=fun as Q=> match as with
  | [.wv (.bl b)]=> Q (.val (.int (if b then 1 else 0)))
  | _=> False
end Ab
namespace Ab
open PySem PySem.Spec PyProof.Rows L2
theorem B30 {n:String} {bm:List Value} (h:A59 n bm=true):∃B ii bmB,ExcBaseFacts B n ii bmB∧MroG bm bmB:=by
  unfold A59 at h
  rcases Bool.or_eq_true_iff.mp h with h | h
  · obtain ⟨a,b⟩:=Bool.and_eq_true_iff.mp h
    obtain rfl:=of_decide_eq_true a
    exact ⟨_,_,_,F.excBase_ValueError,A5G B6k _ b⟩
  rcases Bool.or_eq_true_iff.mp h with h | h
  · obtain ⟨a,b⟩:=Bool.and_eq_true_iff.mp h
    obtain rfl:=of_decide_eq_true a
    exact ⟨_,_,_,F.excBase_LookupError,A5G B6T _ b⟩
  · obtain ⟨a,b⟩:=Bool.and_eq_true_iff.mp h
    obtain rfl:=of_decide_eq_true a
    exact ⟨_,_,_,F.excBase_IndexError,A5G B7H _ b⟩
theorem B5U {K:PySem.W.Frag} {C:Addr} (h:A6h K C=true):∃nm q N bs bm bmB B newId initId sn sub ab col dd k0 k1 k2 k3 k5,K.lookup C=some (excClassObj nm q C N bs bm true sn sub ab col dd k0 k1 k2 k3 k5 newId)∧ExcBaseFacts B newId initId bmB∧MroG bm bmB:=by
  unfold A6h at h
  split at h
  · rename_i t dd cd sl e
    obtain ⟨h1,h⟩:=Bool.and_eq_true_iff.mp h
    split at h
    · rename_i C' bm k0 k1 k2 k3 n k5 hm hs
      obtain ⟨h2,h⟩:=Bool.and_eq_true_iff.mp h
      obtain ⟨h3,h⟩:=Bool.and_eq_true_iff.mp h
      obtain ⟨h4,h5⟩:=Bool.and_eq_true_iff.mp h
      have h1:=of_decide_eq_true h1
      have h2:=of_decide_eq_true h2
      obtain ⟨B,ii,bmB,FB,M⟩:=B30 h3
      obtain ⟨nm,bs,mro,ns,qn,hd,sn,sub,ab,col,del⟩:=cd
      dsimp only at hm h4 h5
      have h4:del=false:=by simpa using h4
      subst h1 h2 hm h4 h5
      have es:sl=#[k0,k1,k2,k3,some (.builtin n),k5]:=by
        obtain ⟨l⟩:=sl
        simp only at hs
        rw [hs]
      subst es
      exact ⟨nm,qn,ns,bs,bm,bmB,B,n,ii,sn,sub,ab,col,dd,k0,k1,k2,k3,k5,e,FB,M⟩
    · cases h
  · cases h
structure XkF (K:PySem.W.Frag) (x:Str) (fs:List Str):Prop where
  cls:OexG K (He.ga K x)
  ini:PySem.W.findIn K (.ref (He.ga K x)) "__init__"=some (some (.ref (He.ma K (He.ga K x) "__init__")))
  fn:PySem.W.typeIn K (.ref (He.ma K (He.ga K x) "__init__"))=some (.type "function")
  xf:XfC K (He.ga K x)
  no:∀f∈("word":Str)::fs,PySem.W.findIn K (.ref (He.ga K x)) f=some none
theorem B6e {K:PySem.W.Frag} {x:Str} {fs:List Str} (h:xkB K x fs=true):XkF K x fs:=by
  unfold xkB at h
  obtain ⟨h1,h⟩:=Bool.and_eq_true_iff.mp h
  obtain ⟨h2,h⟩:=Bool.and_eq_true_iff.mp h
  obtain ⟨h3,h⟩:=Bool.and_eq_true_iff.mp h
  obtain ⟨h4,h⟩:=Bool.and_eq_true_iff.mp h
  obtain ⟨h5,h⟩:=Bool.and_eq_true_iff.mp h
  obtain ⟨h6,h⟩:=Bool.and_eq_true_iff.mp h
  obtain ⟨h7,h⟩:=Bool.and_eq_true_iff.mp h
  obtain ⟨h8,h9⟩:=Bool.and_eq_true_iff.mp h
  exact ⟨⟨B5U h1,of_decide_eq_true h2,of_decide_eq_true h3,of_decide_eq_true h4,h5⟩,of_decide_eq_true h6,of_decide_eq_true h7,xfB_ok h8,fun f m=> of_decide_eq_true (List.all_eq_true.mp h9 f m)⟩
theorem B6O {K:PySem.W.Frag} {ks:List Str} {c:Str} (h:B0k K ks c=true):∀k∈ks,PySem.W.exmOne K (.ref (He.ga K k)) (.ref (He.ga K c))=some (A0T k c):=fun k m=> of_decide_eq_true (List.all_eq_true.mp h k m)
theorem B6G {K:PySem.W.Frag} {ks:List Str} {f:Str} (h:B0V K ks f=true):∀c∈ks,XfC K (He.ga K c)∧PySem.W.findIn K (.ref (He.ga K c)) f=some none:=fun c m=> by
  obtain ⟨a,b⟩:=Bool.and_eq_true_iff.mp (List.all_eq_true.mp h c m)
  exact ⟨xfB_ok a,of_decide_eq_true b⟩
theorem xk1 {P:Program} {w:World} {K:PySem.W.Frag} {mg:Str→Option Value} {base:Heap} {x qual word f:Str} {params:Arguments} {scope:Scope} {fd:FuncData} {q1 q2 q3 q4 q5 q6 q7 q8:Pos} {j:Nat} (X:XkF K x [f]) (gl:mg x=some (.ref (He.ga K x)))
    (F:FunD K "__init__" qual params [.Assign [.Attribute (.Name "self" q1) "word" q2] (.Constant (.str word) j q3) q4,.Assign [.Attribute (.Name "self" q5) f q6] (.Name f q7) q8] scope [] [] (He.ma K (He.ga K x) "__init__") fd) (S:FnScope ["self",f] ["self",f] scope)
    (bd:∀(kV doc pm:Value) (an:Option Addr) (cdv ct:Value) (us:List Value),us.length=2→bindArgs (PySem.W.fnOf "__init__" qual params [.Assign [.Attribute (.Name "self" q1) "word" q2] (.Constant (.str word) j q3) q4,.Assign [.Attribute (.Name "self" q5) f q6] (.Name f q7) q8] scope .none kV doc pm an cdv ct) ⟨us,[]⟩=pure ((["self",f]:List Str).zip us))
    (hd:(f==("__debug__":Str))=false:=by decide) (hcd:(f==("__classdict__":Str))=false:=by decide):XkOk P w K mg base x word [f]:=
  ⟨gl,X.cls,_,fd,["self",f],X.ini,X.fn,F.bindsN bd,B66 F S X.cls (X.no _ (by simp)) (X.no _ (by simp)) hd hcd⟩
end Ab
namespace Ab
open PySem PySem.Spec PyProof.Rows L2
theorem A8w {ts:A1C} {K:PySem.W.Frag} {w:World} (e:A1W ts K=A1a ts w) (i:Nat) {t:Str×List Str} (h:ts[i]? =some t:=by rfl):∃es n,KDict K w (He.ga K t.1) es n:=by
  have e2:(A1W ts K)[i]? =(A1a ts w)[i]? :=by rw [e]
  unfold A1W A1a at e2
  rw [List.getElem?_map,List.getElem?_map,h] at e2
  exact He.dicW_ok (Option.some.inj e2)
end Ab
namespace Ab
open PySem PySem.Spec PyProof.Rows L2
end Ab
namespace Ab
open PySem PySem.Spec PyProof.Rows L2 RZ
abbrev MC:=AH→(RR→AH→Prop)→(AExc→AH→Prop)→Prop
abbrev CE:=(SV→MC)→MC
abbrev CW:=(W→MC)→MC
abbrev CB:=(Bool→MC)→MC
abbrev CS:=(List SV→MC)→MC
abbrev C2:=(List W→MC)→MC
abbrev CO:=(Option Int→MC)→MC
def SV.fz:SV→W
  | .val w=> w
  | .own c=> c.fz
def SV.rr:SV→RR
  | .val w=> .val w
  | .own c=> .own c
def SV.rv:SV→RV
  | .val w=> .val w
  | .own c=> .own c
def RR.sv:RR→SV
  | .val w=> .val w
  | .own c=> .own c
def K4 (h:AH):SV→Vw
  | .val w=> viewW h w
  | .own c=> .cv c
def bad:MC:=fun _ _ _=> False
def E8 (p:Prop) (m:MC):MC:=fun h Q E=> p∧m h Q E
def ret (x:SV):MC:=fun h Q _=> Q x.rr h
def Y3 (k:SV→MC):RV→MC
  | .val w=> k (.val w)
  | .own c=> k (.own c)
  | .slot _=> bad
def y0:I7:=oII (fun _ _=> True) fun i j=> .int (i - j)
def P0:I7:=oII B0S fun i j=> .int (i % j)
def Y1:I7:=oII CDivW fun i j=> .int (i / j)
def A0P:I7:=oII CPow fun i j=> .int (i ^ j.toNat)
def y8:I7:=oII (fun _ _=> True) fun i j=> .bl (decide (i < j))
def oLe:I7:=oII (fun _ _=> True) fun i j=> .bl (decide (i≤j))
def oGt:I7:=oII (fun _ _=> True) fun i j=> .bl (decide (j < i))
def oGe:I7:=oII (fun _ _=> True) fun i j=> .bl (decide (j≤i))
def B7g:I6:=oBls fun bs=> bs.any id
def Q8:I6:=oBls fun bs=> bs.all id
def B7t:I6:=o1I fun i=> if i < 0 then -i else i
def B65:I6:=o2I fun i j=> if j < i then j else i
def B6f:I6:=o2I fun i j=> if j > i then j else i
def eV (x:SV):CE:=fun k=> k x
def eC (w:W):CE:=fun k=> k (.val w)
def C7 (o:I7) (x y:SV) (k:SV→MC):MC:=fun h Q E=> o (K4 h x) (K4 h y) fun r=> Y3 k r h Q E
def A8 (o:I7) (a b:CE):CE:=fun k=> a fun x=> b fun y=> C7 o x y k
def A0 (a:CE):CW:=fun k=> a fun x=> k x.fz
def B2:C2:=fun k=> k []
def A2 (a:CW) (b:C2):C2:=fun k=> a fun w=> b fun ws=> k (w::ws)
def A6Y (ws:List W) (k:SV→MC):MC:=fun h Q E=> ∃(kvs:List (W×W)) (ks:List Key),ws=W8 kvs∧kvs.map (fun p=> V7 p.1)=ks.map some∧ks.Nodup∧kvs.length≤15∧k (.own (.map kvs)) h Q E
def A6D (a:C2):CE:=fun k=> a fun ws=> A6Y ws k
def B0h (x:SV) (w d:W) (k:SV→MC):MC:=fun h Q E=> ∃kvs key,x= .own (.map kvs)∧A92 kvs∧V7 w=some key∧k (.val (B0H kvs key d)) h Q E
def B6b (x:SV) (mk md:CW):CE:=fun k=> fun h Q E=> (∃kvs,x= .own (.map kvs))∧(mk fun w=> md fun d=> B0h x w d k) h Q E
def Q1 (a:C2):CE:=fun k=> a fun ws=> E8 (ws.length≤sizeLine) (k (.val (.tup ws)))
def Q2 (a:C2):CE:=fun k=> a fun ws=> E8 (ws.length≤sizeLine) (k (.own (.seq ws)))
def O2 (x:SV) (k:Int→MC):MC:=fun h Q E=> match K4 h x with
  | .wv (.int i)=> k i h Q E
  | _=> False
def W0 (x:SV) (k:Bool→MC):MC:=fun h Q E=> match K4 h x with
  | .wv (.bl i)=> k i h Q E
  | _=> False
def Z8:CO:=fun k=> k none
def Z2 (a:CE):CO:=fun k=> a fun x=> O2 x fun i=> k (some i)
def slc (x:SV) (l u:Option Int) (k:SV→MC):MC:=fun h Q E=> oSl (K4 h x) l u fun r=> Y3 k r h Q E
def Z7 (a:CE) (lo hi:CO):CE:=fun k=> a fun x=> lo fun l=> hi fun u=> slc x l u k
def B8:CS:=fun k=> k []
def B3 (a:CE) (b:CS):CS:=fun k=> a fun x=> b fun xs=> k (x::xs)
def cb (o:I6) (xs:List SV) (k:SV→MC):MC:=fun h Q E=> o (xs.map (K4 h)) fun r=> Y3 k r h Q E
def C0 (o:I6) (a:CS):CE:=fun k=> a fun xs=> cb o xs k
def V8:CB:=fun k=> k true
def D3 (a:CE):CB:=fun k=> a fun x=> W0 x k
def tAnd (a b:CB):CB:=fun k=> a fun x=> if x=true then b k else k false
def tOr (a b:CB):CB:=fun k=> a fun x=> if x=true then k true else b k
def U6 (a:CB):CB:=fun k=> a fun x=> k (!x)
def eIf (c:CB) (a b:CE):CE:=fun k=> c fun x=> if x=true then a k else b k
def g8 (a b:CE):CE:=fun k=> a fun x=> W0 x fun c=> if c=true then b k else k (.val (.bl false))
def eOr (a b:CE):CE:=fun k=> a fun x=> W0 x fun c=> if c=true then k (.val (.bl true)) else b k
def A6l (a:CE):CE:=fun k=> a fun x=> W0 x fun c=> k (.val (.bl (!c)))
def A6x (a:CE):CE:=fun k=> a fun x=> O2 x fun i=> k (.val (.int (-i)))
def Z4 (P P':Int→Int→Bool) (a b c:CE):CE:=fun k=> a fun x=> b fun y=> O2 x fun i=> O2 y fun j=>
  if P i j=true then c fun z=> O2 z fun l=> k (.val (.bl (P' j l))) else k (.val (.bl false))
def call (m:MC) (k:SV→MC):MC:=fun h Q E=> m h (fun r h'=> k r.sv h' Q E) E
def D5 (f:List W→MC) (a:C2):CE:=fun k=> a fun ws=> call (f ws) k
def call0 (m:MC) (k:SV→MC):MC:=fun h Q E=> m h (fun r h'=> k r.sv h' Q E) fun _ _=> False
def A0H (f:List W→MC) (a:C2):CE:=fun k=> a fun ws=> call0 (f ws) k
def w9 (x:AExc):MC:=fun h _ E=> E x h
def perm (p:List Nat) (ws:List W) (k:List W→MC):MC:=E8 (ws.length=p.length) (k (p.map fun i=> ws.getD i .non))
def B7G (p:List Nat) (a:C2):C2:=fun k=> a fun ws=> perm p ws k
def items (w:W) (k:List W→MC):MC:=match w with
  | .tup ws=> k ws
  | .lst ws=> k ws
  | _=> bad
def o8 (a:CW):C2:=fun k=> a fun w=> items w k
def A4d (xs:List SV) (k:List W→MC):MC:=match xs with
  | [x]=> O2 x fun j=> E8 (-(2 ^ 62)≤j∧j < 2 ^ 62) (k (P4 0 j.toNat))
  | _=> bad
def A6p (xs:List SV) (k:List W→MC):MC:=match xs with
  | [x,y]=> O2 x fun i=> O2 y fun j=> E8 (-(2 ^ 62)≤i∧i < 2 ^ 62∧ -(2 ^ 62)≤j∧j < 2 ^ 62) (k (P4 i (j - i).toNat))
  | _=> bad
def A07 (a:CS):C2:=fun k=> a fun xs=> A4d xs k
def B64 (a:CS):C2:=fun k=> a fun xs=> A6p xs k
def A4c (ws:List W) (k:List W→MC):MC:=match ws with
  | [.tup xs,.tup ys]=> k (List.zipWith (fun a b=> W.tup [a,b]) xs ys)
  | [.lst xs,.lst ys]=> k (List.zipWith (fun a b=> W.tup [a,b]) xs ys)
  | _=> bad
def B7z (a:C2):C2:=fun k=> a fun ws=> A4c ws k
def B0N (a:CW):C2:=fun k=> a fun w=> items w fun ws=> k (enW ws)
def enz (ws:List W) (k:List W→MC):MC:=match ws with
  | [a,b]=> items a fun xs=> items b fun ys=> k (ezW xs ys)
  | _=> bad
def B7k (a:C2):C2:=fun k=> a fun ws=> enz ws k
def un2 (w:W) (k:W→W→MC):MC:=match w with
  | .tup [a,b]=> k a b
  | _=> bad
def un3 (w:W) (k:W→W→W→MC):MC:=match w with
  | .tup [a,b,c]=> k a b c
  | _=> bad
def un5 (w:W) (k:W→W→W→W→W→MC):MC:=match w with
  | .tup [a,b,c,d,e]=> k a b c d e
  | _=> bad
def uq2 (w:W) (k:W→W→MC):MC:=items w fun ws=> match ws with
  | [a,b]=> k a b
  | _=> bad
def uq3 (w:W) (k:W→W→W→MC):MC:=items w fun ws=> match ws with
  | [a,b,c]=> k a b c
  | _=> bad
def uq4 (w:W) (k:W→W→W→W→MC):MC:=items w fun ws=> match ws with
  | [a,b,c,d]=> k a b c d
  | _=> bad
def uq5 (w:W) (k:W→W→W→W→W→MC):MC:=items w fun ws=> match ws with
  | [a,b,c,d,e]=> k a b c d e
  | _=> bad
def A1l (w:W) (k:W→SV→MC):MC:=items w fun ws=> match ws with
  | x::r=> k x (.own (.seq r))
  | _=> bad
def M7 (body:W→(Option W→MC)→MC) (k:List W→MC):List W→List W→MC
  | [],acc=> k acc
  | w::ws,acc=> body w fun o=> match o with
    | some y=> E8 (acc.length < sizeLine) (M7 body k ws (acc++[y]))
    | none=> M7 body k ws acc
def T5 (it:C2) (body:W→(Option W→MC)→MC):CE:=fun k=> it fun ws=> M7 body (fun acc=> k (.own (.seq acc))) ws []
def A0S {σ:Type} (body:W→σ→(σ→MC)→(σ→MC)→MC) (k:σ→MC):List W→σ→MC
  | [],s=> k s
  | w::ws,s=> body w s (A0S body k ws) k
def join {σ:Type} (k:σ→MC) (f:(σ→MC)→MC):MC:=f k
def SV.isSq (h:AH):SV→Prop
  | .own (.seq _)=> True
  | .val (.ref a)=> ∃xs,h a=some (.cont (.seq xs))
  | _=> False
def isq (x:SV) (m:MC):MC:=fun h Q E=> x.isSq h∧m h Q E
def lm (f:P5) (x:SV) (ws:List W) (k:SV→W→MC):MC:=fun h Q E=> match x with
  | .own (.seq xs)=> f xs ws fun xs' w=> k (.own (.seq xs')) w h Q E
  | .val (.ref a)=> (match h a with
    | some (.cont (.seq xs))=> f xs ws fun xs' w=> k (.val (.ref a)) w (H7 h a (.cont (.seq xs'))) Q E
    | _=> False)
  | _=> False
def ext (x y:SV) (k:SV→MC):MC:=fun h Q E=> match K4 h y with
  | .cv (.seq ys)=> (match x with
    | .own (.seq xs)=> xs.length+ys.length≤sizeLine∧k (.own (.seq (xs++ys))) h Q E
    | .val (.ref a)=> (match h a with
      | some (.cont (.seq xs))=> xs.length+ys.length≤sizeLine∧k (.val (.ref a)) (H7 h a (.cont (.seq (xs++ys)))) Q E
      | _=> False)
    | _=> False)
  | _=> False
def X7 (x y:SV) (w:W) (k:SV→MC):MC:=fun h Q E=> match K4 h y with
  | .wv (.int i)=> (match x with
    | .own (.seq xs)=> ∃j,ixN xs.length i=some j∧k (.own (.seq (xs.set j w))) h Q E
    | .val (.ref a)=> (match h a with
      | some (.cont (.seq xs))=> ∃j,ixN xs.length i=some j∧k (.val (.ref a)) (H7 h a (.cont (.seq (xs.set j w)))) Q E
      | _=> False)
    | _=> False)
  | _=> False
def A97 (f:Int→Int→Int) (x y:SV) (e:CE) (k:SV→MC):MC:=O2 y fun i=> E8 (0≤i∧i < 2 ^ 62) fun h Q E=> match x with
  | .own (.seq xs)=> (match xs[i.toNat]? with
    | some (.int a)=> e (fun z=> O2 z fun b=> k (.own (.seq (xs.set i.toNat (.int (f a b)))))) h Q E
    | _=> False)
  | .val (.ref p)=> (match h p with
    | some (.cont (.seq xs))=> (match xs[i.toNat]? with
      | some (.int a)=> e (fun z=> O2 z fun b=> fun h' Q E=> match h' p with
        | some (.cont (.seq ys))=> i.toNat < ys.length∧k (.val (.ref p)) (H7 h' p (.cont (.seq (ys.set i.toNat (.int (f a b)))))) Q E
        | _=> False) h Q E
      | _=> False)
    | _=> False)
  | _=> False
def A6w (x:SV) (k:SV→MC):MC:=O2 x fun n=> E8 (0≤n∧n≤16777216) (k (.own (.seq (P4 0 n.toNat))))
def A6P (a:CE):CE:=fun k=> a fun x=> A6w x k
def G5 (mc:CB) (m1 m2:MC):MC:=mc fun b=> if b=true then m1 else m2
def A2z {σ:Type} (mi:C2) (s0:σ) (body:W→σ→(σ→MC)→(σ→MC)→MC) (k:σ→MC):MC:=mi fun ws=> A0S body k ws s0
def lmC (f:P5) (x:SV) (ma:C2) (k:SV→W→MC):MC:=isq x (ma fun ws=> lm f x ws k)
def A6k (x:SV) (m:CE) (k:SV→MC):MC:=isq x (m fun y=> ext x y k)
def Y2 (mv:CW) (x:SV) (m:CE) (k:SV→MC):MC:=mv fun w=> m fun y=> X7 x y w k
def A6Q (mv:CW) (x:SV) (m:CE) (m2:SV→CE) (k:SV→MC):MC:=mv fun w=> un2 w fun a b=> m fun y=> X7 x y a fun x1=> m2 x1 fun y2=> X7 x1 y2 b k
def B7W (f:Int→Int→Int) (x:SV) (m m2:CE) (k:SV→MC):MC:=m fun y=> A97 f x y m2 k
def pr2 (ws:List W) (k:W→W→MC):MC:=match ws with
  | [v,w]=> k v w
  | _=> bad
def A6r (ma:C2) (k:W→W→MC):MC:=ma fun ws=> pr2 ws k
def A2q (mv:CW) (k:W→SV→MC):MC:=mv fun w=> A1l w k
def A20 (x:SV) (k:W→MC):MC:=fun h Q E=> match x with
  | .own c=> ∀p,h p=none→k (.ref p) (H7 h p (.cont c)) Q E
  | _=> False
def B0Y (m:CE):CW:=fun k=> m fun x=> A20 x k
def lmR (f:P5) (x:SV) (ma:C2) (k:MC):MC:=fun h Q E=> match x with
  | .val (.ref p)=> (∃xs,h p=some (.cont (.seq xs)))∧(ma fun ws=> fun h2 Q E=> match h2 p with
    | some (.cont (.seq xs))=> f xs ws fun xs' _=> k (H7 h2 p (.cont (.seq xs'))) Q E
    | _=> False) h Q E
  | _=> False
def lmE (f:P5) (m:CE) (ma:C2) (k:MC):MC:=m fun x=> lmR f x ma k
def upc (f:List W→MC):F5:=fun ws h Q E=> ∃Q0 E0,(∀r k,Q0 r k→Q r k)∧(∀x k,E0 x k→E x k)∧f ws h Q0 E0
theorem upc.m {f:List W→MC}:P7 (upc f):=fun ws h Q Q' E E' k k' ⟨Q0,E0,a,b,z⟩=> ⟨Q0,E0,fun r h q=> k _ _ (a r h q),fun r h q=> k' _ _ (b r h q),z⟩
end Ab
namespace Ab
open PySem PySem.Spec PyProof.Rows L2 RZ
def Rl (env:A1):RV→SV→Prop
  | .val w,s=> s= .val w
  | .own c,s=> s= .own c
  | .slot i,s=> ∃c,s= .own c∧env[i]? =some (some (.own c))
theorem N2 {env:A1} {h:AH} {r:RV} {s:SV} (a:Rl env r s):view env h r=K4 h s:=by
  cases r with
  | val w=> cases a;rfl
  | own c=> cases a;rfl
  | slot i=> obtain ⟨c,rfl,e⟩:=a;show A6K env[i]? =_;rw [e];rfl
section
variable {Q:RR→AH→Prop} {E:AExc→AH→Prop} {env:A1}
def SE (Q:RR→AH→Prop) (E:AExc→AH→Prop) (env:A1) (t:AT) (m:CE):Prop:=∀h (k:SV→MC) (K:RV→A1→AH→Prop),(∀r s h',Rl env r s→k s h' Q E→K r env h')→m k h Q E→t env h K
def SN (Q:RR→AH→Prop) (E:AExc→AH→Prop) (env:A1) (t:AT) (m:CE):Prop:=∀h (k:SV→MC) (K:RV→A1→AH→Prop),(∀s h',k s h' Q E→K s.rv env h')→m k h Q E→t env h K
def SA {α:Type} (Q:RR→AH→Prop) (E:AExc→AH→Prop) (env:A1) (t:A1→AH→(α→A1→AH→Prop)→Prop) (m:(α→MC)→MC):Prop:=∀h (k:α→MC) (K:α→A1→AH→Prop),(∀s h',k s h' Q E→K s env h')→m k h Q E→t env h K
inductive Rls (env:A1):List RV→List SV→Prop where
  | nil:Rls env [] []
  | cons {r:RV} {rs:List RV} {s:SV} {ss:List SV}:Rl env r s→Rls env rs ss→Rls env (r::rs) (s::ss)
theorem A8V {h:AH} {rs:List RV} {ss:List SV} (a:Rls env rs ss):rs.map (view env h)=ss.map (K4 h):=by
  induction a with
  | nil=> rfl
  | cons a _ ih=> rw [List.map_cons,List.map_cons,N2 a,ih]
def SR (Q:RR→AH→Prop) (E:AExc→AH→Prop) (env:A1) (t:R3) (m:CS):Prop:=∀h (k:List SV→MC) (K:List RV→A1→AH→Prop),(∀r s h',Rls env r s→k s h' Q E→K r env h')→m k h Q E→t env h K
theorem B7O {s:SV}:Rl env s.rv s:=by cases s <;> rfl
variable {t t1 t2 t3:AT} {m m1 m2 m3:CE} {tv:B9} {mv:CW} {ta ta2:E4} {ma ma2:C2} {tb tb2:G3} {mb mb2:CB} {tr:R3} {mr:CS} {tl th:AOT} {ml mh:CO} {ti:Q9} {mi:C2}
theorem SN.se (a:SN Q E env t m):SE Q E env t m:=fun h k K hk z=> a h k K (fun s h' z=> hk _ _ _ B7O z) z
theorem Q6 {i:Nat} {x:SV} (e:env[i]? =some (some x)):SE Q E env (aVar i) (eV x):=fun h k K hk z=> by
  unfold aVar
  rw [e]
  cases x with
  | val w=> exact hk (.val w) (.val w) h rfl z
  | own c=> exact hk (.slot i) (.own c) h ⟨c,rfl,e⟩ z
theorem A7 {i:Nat} {w:W} (e:env[i]? =some (some (.val w))):SN Q E env (aVar i) (eV (.val w)):=fun h k K hk z=> by
  unfold aVar
  rw [e]
  exact hk (.val w) h z
theorem A6 {w:W}:SN Q E env (aC w) (eC w):=fun h k K hk z=> hk _ _ z
def X1 (o:I7):Prop:=∀a b Q Q',(∀r,Q r→Q' r)→o a b Q→o a b Q'
def u2 (o:I6):Prop:=∀as Q Q',(∀r,Q r→Q' r)→o as Q→o as Q'
theorem A2i {k:SV→MC} {K:RV→A1→AH→Prop} {h:AH} (hk:∀s h',k s h' Q E→K s.rv env h') (r:RV) (z:Y3 k r h Q E):K r env h:=by
  cases r with
  | val w=> exact hk (.val w) h z
  | own c=> exact hk (.own c) h z
  | slot i=> exact z.elim
theorem B1 {o:I7} (om:X1 o) (a:SE Q E env t1 m1) (b:SE Q E env t2 m2):SN Q E env (aOp2 o t1 t2) (A8 o m1 m2):=fun h k K hk z=>
  a h _ _ (fun rx x h1 r1 z=> b h1 _ _ (fun ry y h2 r2 z=> by rw [N2 r1,N2 r2];exact om _ _ _ _ (fun r z=> A2i hk r z) z) z) z
theorem A5 (a:SN Q E env t m):SA Q E env (aFz t) (A0 m):=fun h k K hk z=> a h _ _ (fun s h' z=> by
  cases s with
  | val w=> exact hk _ _ z
  | own c=> exact hk _ _ z) z
theorem C1:SA Q E env aNil B2:=fun h k K hk z=> hk _ _ z
theorem A9 (a:SA Q E env tv mv) (b:SA Q E env ta ma):SA Q E env (aCons tv ta) (A2 mv ma):=fun h k K hk z=> a h _ _ (fun w h1 z=> b h1 _ _ (fun ws h2 z=> hk _ _ z) z) z
theorem r4 (a:SA Q E env ta ma):SN Q E env (aTup ta) (Q1 ma):=fun h k K hk z=> a h _ _ (fun ws h1 z=> ⟨z.1,hk (.val _) _ z.2⟩) z
theorem W4 (a:SA Q E env ta ma):SN Q E env (aLst ta) (Q2 ma):=fun h k K hk z=> a h _ _ (fun ws h1 z=> ⟨z.1,hk (.own _) _ z.2⟩) z
theorem B4X (a:SA Q E env ta ma):SN Q E env (A6b ta) (A6D ma):=fun h k K hk z=> a h _ _ (fun ws h1 ⟨kvs,ks,z1,z2,z3,z4,z5⟩=> ⟨kvs,ks,z1,z2,z3,z4,hk (.own _) _ z5⟩) z
theorem A1V {x:SV} {k:Int→MC} {h:AH} (z:O2 x k h Q E):∃i,K4 h x= .wv (.int i)∧k i h Q E:=by
  unfold O2 at z
  split at z
  · rename_i i e;exact ⟨i,e,z⟩
  · exact z.elim
theorem A37 {x:SV} {k:Bool→MC} {h:AH} (z:W0 x k h Q E):∃i,K4 h x= .wv (.bl i)∧k i h Q E:=by
  unfold W0 at z
  split at z
  · rename_i i e;exact ⟨i,e,z⟩
  · exact z.elim
theorem w8:SA Q E env c8 Z8:=fun h k K hk z=> hk _ _ z
theorem u8 (a:SE Q E env t m):SA Q E env (f8 t) (Z2 m):=fun h k K hk z=> a h _ _ (fun r s h1 rl z=> by
  obtain ⟨i,e,z⟩:=A1V z
  rw [N2 rl,e]
  exact hk _ _ z) z
theorem w7 (a:SE Q E env t m) (b:SA Q E env tl ml) (c:SA Q E env th mh):SN Q E env (i4 t tl th) (Z7 m ml mh):=fun h k K hk z=>
  a h _ _ (fun r s h1 rl z=> b h1 _ _ (fun l h2 z=> c h2 _ _ (fun u h3 z=> by rw [N2 rl];exact oSl.mono (fun r z=> A2i hk r z) z) z) z) z
theorem E3:SR Q E env D6 B8:=fun h k K hk z=> hk _ _ _ .nil z
theorem C6 (a:SE Q E env t m) (b:SR Q E env tr mr):SR Q E env (C3 t tr) (B3 m mr):=fun h k K hk z=> a h _ _ (fun r s h1 rl z=> b h1 _ _ (fun rs ss h2 rls z=> hk _ _ _ (.cons rl rls) z) z) z
theorem F3 {o:I6} (om:u2 o) (a:SR Q E env tr mr):SN Q E env (aCB o tr) (C0 o mr):=fun h k K hk z=> a h _ _ (fun rs ss h1 rl z=> by
  rw [A8V rl]
  exact om _ _ _ (fun r z=> A2i hk r z) z) z
theorem Y6:SA Q E env U5 V8:=fun h k K hk z=> hk _ _ z
theorem G0 (a:SE Q E env t m):SA Q E env (aTst t) (D3 m):=fun h k K hk z=> a h _ _ (fun r s h1 rl z=> by
  obtain ⟨i,e,z⟩:=A37 z
  rw [N2 rl,e]
  exact hk _ _ z) z
theorem A0F {b:Bool} {A B:MC} {P R:Prop} {h:AH} (x:A h Q E→P) (y:B h Q E→R) (z:(if b=true then A else B) h Q E):if b=true then P else R:=by
  cases b with
  | true=> rw [if_pos rfl] at z ⊢;exact x z
  | false=> rw [if_neg Bool.false_ne_true] at z ⊢;exact y z
theorem A31 (a:SA Q E env tb mb) (b:SA Q E env tb2 mb2):SA Q E env (aAndT tb tb2) (tAnd mb mb2):=fun h k K hk z=> a h _ _ (fun x h1 z=> A0F (fun z=> b h1 _ _ hk z) (fun z=> hk _ _ z) z) z
theorem A0M (a:SA Q E env tb mb) (b:SA Q E env tb2 mb2):SA Q E env (aOrT tb tb2) (tOr mb mb2):=fun h k K hk z=> a h _ _ (fun x h1 z=> A0F (fun z=> hk _ _ z) (fun z=> b h1 _ _ hk z) z) z
theorem d5 (a:SA Q E env tb mb):SA Q E env (aNotT tb) (U6 mb):=fun h k K hk z=> a h _ _ (fun x h1 z=> hk _ _ z) z
theorem A58 (c:SA Q E env tb mb) (a:SN Q E env t1 m1) (b:SN Q E env t2 m2):SN Q E env (aIfE tb t1 t2) (eIf mb m1 m2):=fun h k K hk z=> c h _ _ (fun x h1 z=> A0F (fun z=> a h1 _ _ hk z) (fun z=> b h1 _ _ hk z) z) z
theorem A0L (a:SE Q E env t1 m1) (b:SN Q E env t2 m2):SN Q E env (u0 t1 t2) (g8 m1 m2):=fun h k K hk z=> a h _ _ (fun r s h1 rl z=> by
  obtain ⟨i,e,z⟩:=A37 z
  rw [N2 rl,e]
  exact A0F (fun z=> b h1 _ _ hk z) (fun z=> hk (.val _) _ z) z) z
theorem B0L (a:SE Q E env t1 m1) (b:SN Q E env t2 m2):SN Q E env (A4j t1 t2) (eOr m1 m2):=fun h k K hk z=> a h _ _ (fun r s h1 rl z=> by
  obtain ⟨i,e,z⟩:=A37 z
  rw [N2 rl,e]
  exact A0F (fun z=> hk (.val _) _ z) (fun z=> b h1 _ _ hk z) z) z
theorem B6H (a:SE Q E env t1 m1):SN Q E env (A6L t1) (A6l m1):=fun h k K hk z=> a h _ _ (fun r s h1 rl z=> by
  obtain ⟨i,e,z⟩:=A37 z
  rw [N2 rl,e]
  exact hk (.val _) _ z) z
theorem A1U {P P':Int→Int→Bool} (a:SE Q E env t1 m1) (b:SE Q E env t2 m2) (c:SE Q E env t3 m3):SN Q E env (aChn P P' t1 t2 t3) (Z4 P P' m1 m2 m3):=fun h k K hk z=>
  a h _ _ (fun r s h1 rl z=> b h1 _ _ (fun r2 s2 h2 rl2 z=> by
    obtain ⟨i,e,z⟩:=A1V z
    obtain ⟨j,e2,z⟩:=A1V z
    rw [N2 rl,N2 rl2,e,e2]
    refine A0F (fun z=> c h2 _ _ (fun r3 s3 h3 rl3 z=> ?_) z) (fun z=> hk (.val _) _ z) z
    obtain ⟨l,e3,z⟩:=A1V z
    rw [N2 rl3,e3]
    exact hk (.val _) _ z) z) z
theorem B5W {E':AExc→A1→AH→Prop} {f:List W→MC} {ws:List W} {h:AH} {k:SV→MC} {K:RV→A1→AH→Prop} (hk:∀s h',k s h' Q E→K s.rv env h') (hE:∀x h,E x h→E' x env h) (z:call (f ws) k h Q E):
    upc f ws h (fun r h2=> match r with
  | .val w=> K (.val w) env h2
  | .own c=> K (.own c) env h2) fun x h2=> E' x env h2:=
  ⟨_,_,fun r h' z=> by cases r <;> exact hk _ _ z,hE,z⟩
theorem G6 {E':AExc→A1→AH→Prop} {f:List W→MC} (hE:∀x h,E x h→E' x env h) (a:SA Q E env ta ma):SN Q E env (aCall E' (upc f) ta) (D5 f ma):=fun h k K hk z=> a h _ _ (fun ws h1 z=> B5W hk hE z) z
theorem A2Y {f:List W→MC} (a:SA Q E env ta ma):SN Q E env (aCall E0 (upc f) ta) (A0H f ma):=fun h k K hk z=> a h _ _ (fun ws h1 z=> ⟨_,_,fun r h' z=> by cases r <;> exact hk _ _ z,fun _ _ z=> z,z⟩) z
theorem A8K {w:W} {k:List W→MC} {h:AH} (z:items w k h Q E):∃ws,(w= .tup ws∨w= .lst ws)∧k ws h Q E:=by
  unfold items at z
  split at z
  · exact ⟨_,.inl rfl,z⟩
  · exact ⟨_,.inr rfl,z⟩
  · exact z.elim
theorem A0q (a:SA Q E env tv mv):SA Q E env (iSq tv) (o8 mv):=fun h k K hk z=> a h _ _ (fun w h1 z=> by
  obtain ⟨ws,e,z⟩:=A8K z
  rcases e with rfl | rfl <;> exact hk _ _ z) z
theorem A2a (a:SR Q E env tr mr):SA Q E env (A1B tr) (A07 mr):=fun h k K hk z=> a h _ _ (fun rs ss h1 rl z=> by
  rw [A8V rl]
  unfold A4d at z
  split at z
  · obtain ⟨j,e,z⟩:=A1V z
    rw [List.map_cons,List.map_nil,e]
    exact ⟨z.1.1,z.1.2,hk _ _ z.2⟩
  · exact z.elim) z
def Gd (g:H8) (w:W) (env e1:A1):Prop:=∀h (K:A1→AH→Prop),K e1 h→g w env h K
theorem U4 {i:Nat} {w:W}:Gd (G8 i) w env (env.set i (some (.val w))):=fun h K k=> k
theorem B6J {w:W} {f:W→W→MC} {h:AH} (z:un2 w f h Q E):∃a b,w= .tup [a,b]∧f a b h Q E:=by
  unfold un2 at z
  split at z
  · exact ⟨_,_,rfl,z⟩
  · exact z.elim
theorem B44 {w:W} {f:W→SV→MC} {h:AH} (z:A1l w f h Q E):∃x r,(w= .tup (x::r)∨w= .lst (x::r))∧f x (.own (.seq r)) h Q E:=by
  obtain ⟨ws,e,z⟩:=A8K z
  split at z
  · exact ⟨_,_,e,z⟩
  · exact z.elim
def U7 (mt:CB) (me:CW) (kk:Option W→MC):MC:=mt fun b=> if b=true then me fun y=> kk (some y) else kk none
theorem X4 {vs:List Nat} {g:H8} {w:W} {e1:A1} (gd:Gd g w (T1 env vs) e1) (tst:SA Q E e1 tb mb) (elt:SA Q E e1 tv mv) (hm:mend env e1 vs=env) {h:AH} {kk:Option W→MC} {K1:W→A1→AH→Prop} {K0:A1→AH→Prop}
    (h1:∀y h',kk (some y) h' Q E→K1 y env h') (h0:∀h',kk none h' Q E→K0 env h') (z:U7 mb mv kk h Q E):
    g w (T1 env vs) h fun e1 h1=> tb e1 h1 fun b e2 h2=> if b=true then tv e2 h2 fun y e3 h3=> K1 y (mend env e3 vs) h3 else K0 (mend env e2 vs) h2:=
  gd h _ (tst h _ _ (fun b h2 z=> A0F (fun z=> elt h2 _ _ (fun y h3 z=> by rw [hm];exact h1 y h3 z) z) (fun z=> by rw [hm];exact h0 h2 z) z) z)
def LcB (Q:RR→AH→Prop) (E:AExc→AH→Prop) (env:A1) (vs:List Nat) (g:H8) (tt:G3) (te:B9) (mb:W→(Option W→MC)→MC):Prop:=
  ∀w h (kk:Option W→MC) (K1:W→A1→AH→Prop) (K0:A1→AH→Prop),(∀y h',kk (some y) h' Q E→K1 y env h')→(∀h',kk none h' Q E→K0 env h')→mb w kk h Q E→
    g w (T1 env vs) h fun e1 h1=> tt e1 h1 fun b e2 h2=> if b=true then te e2 h2 fun y e3 h3=> K1 y (mend env e3 vs) h3 else K0 (mend env e2 vs) h2
theorem A4R {vs:List Nat} {g:H8} {body:W→(Option W→MC)→MC} {k:List W→MC} {K:List W→A1→AH→Prop} (hk:∀acc h',k acc h' Q E→K acc env h') (b:LcB Q E env vs g tb tv body):
    ∀(ws acc:List W) (h:AH),M7 body k ws acc h Q E→lcLoop vs g tb tv K ws acc env h
  | [],acc,h,z=> hk acc h z
  | w::ws,acc,h,z=> b w h _ (fun y e3 h3=> acc.length < sizeLine∧lcLoop vs g tb tv K ws (acc++[y]) e3 h3) (fun e2 h2=> lcLoop vs g tb tv K ws acc e2 h2)
      (fun y h' z=> ⟨z.1,A4R hk b ws (acc++[y]) h' z.2⟩) (fun h' z=> A4R hk b ws acc h' z) z
theorem Z1 {vs:List Nat} {g:H8} {body:W→(Option W→MC)→MC} (it:SA Q E env ti mi) (b:LcB Q E env vs g tb tv body):SN Q E env (P6 vs ti g tb tv) (T5 mi body):=fun h k K hk z=>
  it h _ _ (fun ws h1 z=> A4R (k:=fun acc=> k (.own (.seq acc))) (fun acc h' z=> hk (.own (.seq acc)) h' z) b ws [] h1 z) z
theorem B4r (a:SE Q E env t m):SN Q E env (A6Z t) (A6P m):=fun h k K hk z=> a h _ _ (fun r s h1 rl z=> by
  obtain ⟨i,e,z⟩:=A1V z
  rw [N2 rl,e]
  exact ⟨z.1,hk (.own _) _ z.2⟩) z
variable {D:AEnds} {s u:C4} {i j:Nat}
theorem E6 {mc:MC} (a:∀h,mc h Q E→s { D with nx:=u D } env h):∀h,mc h Q E→aSeq s u D env h:=a
theorem E7 {mc:MC} (a:∀h,mc h Q E→u D env h):∀h,mc h Q E→({ D with nx:=u D }:AEnds).nx env h:=a
theorem G9 (hr:∀r s env h,Rl env r s→Q s.rr h→D.rt r env h) (a:SE Q E env t m):∀h,(m ret) h Q E→G1 t D env h:=fun h z=> a h _ _ (fun r s h' rl z=> hr _ _ _ _ rl z) z
theorem B4t {mc:MC} (a:∀h,mc h Q E→t env h D.rt):∀h,mc h Q E→G1 t D env h:=a
theorem A33 {k:SV→MC} (e':SV→A1) (he:∀x,env.set i (some x)=e' x) (a:SN Q E env t m) (n:∀x h,k x h Q E→D.nx (e' x) h):∀h,(m k) h Q E→A1j i t D env h:=fun h z=> a h _ _ (fun s h' z=> by
  have q:=n s h' z
  rw [←he] at q
  cases s <;> exact q) z
theorem N9 {k:W→MC} (e':W→A1) (he:∀x,env.set i (some (.val x))=e' x) (a:SA Q E env tv mv) (n:∀x h,k x h Q E→D.nx (e' x) h):∀h,(mv k) h Q E→J9 tv (G8 i) D env h:=fun h z=> a h _ _ (fun s h' z=> by
  have q:=n s h' z
  rw [←he] at q
  exact q) z
theorem B55 {P R:A1→AH→Prop} {h:AH} (q:P env h):U5 env h fun b e2 h2=> if b=true then P e2 h2 else R e2 h2:=by
  show (if true=true then P env h else R env h)
  rw [if_pos rfl]
  exact q
theorem B0J {P R:AH→Prop} (h:AH) (z:P h) (f:∀h,P h→R h):R h:=f h z
theorem A9O {g:H8} {w:W} {e1:A1} (e2:A1) (gd:Gd g w env e1) (he:e1=e2):Gd g w env e2:=he▸gd
theorem B4L {vs:List Nat} {g:H8} {body:W→(Option W→MC)→MC} {k:SV→MC} (e':SV→A1) (he:∀x,env.set i (some x)=e' x) (it:SA Q E env ti mi) (b:LcB Q E env vs g tb tv body) (n:∀x h,k x h Q E→D.nx (e' x) h):∀h,(T5 mi body k) h Q E→A5i i (P6 vs ti g tb tv) D env h:=fun h z=>
  it h _ _ (fun ws h1 z=> A4R (k:=fun acc=> k (.own (.seq acc))) (fun acc h' z=> by
    have q:=n (.own (.seq acc)) h' z
    rw [←he] at q
    exact q) b ws [] h1 z) z
theorem B5z {k:W→W→MC} (e':W→W→A1) (he:∀v w,(env.set i (some (.val v))).set j (some (.val w))=e' v w) (a:SA Q E env ta ma) (n:∀v w h,k v w h Q E→D.nx (e' v w) h):∀h,A6r ma k h Q E→A6n i j ta D env h:=fun h z=> a h _ _ (fun ws h' z=> by
  unfold pr2 at z
  split at z
  · have q:=n _ _ _ z
    rw [←he] at q
    exact q
  · exact z.elim) z
theorem B5S {k:W→SV→MC} (e':W→SV→A1) (he:∀v w,(env.set i (some (.val v))).set j (some w)=e' v w) (a:SA Q E env tv mv) (n:∀v w h,k v w h Q E→D.nx (e' v w) h):∀h,A2q mv k h Q E→aStar i j tv D env h:=fun h z=> a h _ _ (fun w h' z=> by
  obtain ⟨x,r,e,z⟩:=B44 z
  have q:=n _ _ _ z
  rw [←he] at q
  rcases e with rfl | rfl <;> exact q) z
theorem M0 {c:G3} {mc:CB} {m1 m2:MC} (a:SA Q E env c mc) (x:∀h,m1 h Q E→s D env h) (y:∀h,m2 h Q E→u D env h):∀h,G5 mc m1 m2 h Q E→L4 c s u D env h:=fun h z=>
  a h _ _ (fun b h' z=> A0F (x h') (y h') z) z
theorem M3 {mc:MC} (n:∀h,mc h Q E→D.nx env h):∀h,mc h Q E→L7 D env h:=n
theorem A9U {x:SV} {mc:MC} (e':A1) (he:env.set i (some (.val x.fz))=e') (e:env[i]? =some (some x)) (a:∀h,mc h Q E→s D e' h):∀h,mc h Q E→aFrz i s D env h:=fun h z=> by
  have q:=a h z
  rw [←he] at q
  unfold aFrz
  rw [e]
  cases x with
  | own c=> exact q
  | val w=>
    obtain ⟨hi,e'⟩:=List.getElem?_eq_some_iff.mp e
    have:env.set i (some (SV.val (SV.val w).fz))=env:=by
      conv=> rhs;rw [←List.set_getElem_self (as:=env) hi]
      rw [e']
      rfl
    rw [this] at q
    exact q
theorem B5T {x:SV} {k:W→MC} (e':W→A1) (he:∀p,env.set i (some (.val p))=e' p) (e:env[i]? =some (some x)) (a:∀p h,k p h Q E→s D (e' p) h):∀h,A20 x k h Q E→A1X i s D env h:=fun h z=> by
  unfold A1X
  rw [e]
  cases x with
  | val w=> exact z.elim
  | own c=>
    intro p n
    have q:=a _ _ (z p n)
    rw [←he] at q
    exact q
theorem A0s {β J:Type} {kk:β→MC} {f:(β→MC)→MC} (envOf:β→J→A1) (r:∀b j h,kk b h Q E→u D (envOf b j) h)
    (b:(∀b j h,kk b h Q E→({ D with nx:=u D }:AEnds).nx (envOf b j) h)→∀h,f kk h Q E→s { D with nx:=u D } env h):∀h,join kk f h Q E→aSeq s u D env h:=b r
theorem A86 {σ J:Type} {g:H8} {tb:C4} {body:W→σ→(σ→MC)→(σ→MC)→MC} {k:σ→MC} (envOf:σ→J→A1) (r:∀s j h,k s h Q E→D.nx (envOf s j) h)
    (b:∀w s j (kn:σ→MC) (N:A1→AH→Prop),(∀s j h,kn s h Q E→N (envOf s j) h)→∀h,body w s kn k h Q E→g w (envOf s j) h fun e1 h1=> tb { D with nx:=N,ct:=N,bk:=D.nx } e1 h1):
    ∀ws s j h,A0S body k ws s h Q E→aLoop g tb D ws (envOf s j) h
  | [],s,j,h,z=> r s j h z
  | w::ws,s,j,h,z=> b w s j (A0S body k ws) (aLoop g tb D ws) (fun s j h z=> A86 envOf r b ws s j h z) h z
theorem A9L {σ J:Type} {g:H8} {tb:C4} {body:W→σ→(σ→MC)→(σ→MC)→MC} {k:σ→MC} (envOf:σ→J→A1) (s0:σ) (j0:J) (he:envOf s0 j0=env) (it:SA Q E env ti mi) (r:∀s j h,k s h Q E→D.nx (envOf s j) h)
    (b:(∀s j h,k s h Q E→D.nx (envOf s j) h)→∀w s j (kn:σ→MC) (N:A1→AH→Prop),(∀s j h,kn s h Q E→N (envOf s j) h)→∀h,body w s kn k h Q E→g w (envOf s j) h fun e1 h1=> tb { D with nx:=N,ct:=N,bk:=D.nx } e1 h1):
    ∀h,A2z mi s0 body k h Q E→A4l ti g tb D env h:=fun h z=> it h _ _ (fun ws h' z=> he▸A86 envOf r (b r) ws s0 j0 h' z) z
theorem A5p {x:SV} (e:env[i]? =some (some x)):env.set i (some x)=env:=by
  obtain ⟨hi,e'⟩:=List.getElem?_eq_some_iff.mp e
  conv=> rhs;rw [←List.set_getElem_self (as:=env) hi]
  rw [e']
theorem A5V {x:SV} {h:AH} {K:RV→A1→AH→Prop} (e:env[i]? =some (some x)) (q:∀r,(∃c,x= .own c∧r= .slot i)∨(∃w,x= .val w∧r= .val w)→K r env h):aVar i env h K:=by
  unfold aVar
  rw [e]
  cases x with
  | val w=> exact q _ (.inr ⟨w,rfl,rfl⟩)
  | own c=> exact q _ (.inl ⟨c,rfl,rfl⟩)
theorem A3m {h:AH} {c:Cont} (e:env[i]? =some (some (.own c))):N4 env h (.slot i)=some c:=by
  show (match env[i]? with
    | some (some (.own c))=> some c
    | _=> none)=_
  rw [e]
theorem A2d {h:AH} {p:Addr} {c:Cont} (e:h p=some (.cont c)):N4 env h (.val (.ref p))=some c:=by
  show (match h p with
    | some (.cont c)=> some c
    | _=> none)=_
  rw [e]
def LmM (f:P5):Prop:=∀xs ws Q Q',(∀a b,Q a b→Q' a b)→f xs ws Q→f xs ws Q'
theorem A9n {f:P5} {x:SV} {k:SV→W→MC} {K:RV→A1→AH→Prop} (fm:LmM f) (e:env[i]? =some (some x)) (a:SA Q E env ta ma) (n:∀x' w h,k x' w h Q E→K (.val w) (env.set i (some x')) h):
    ∀h,lmC f x ma k h Q E→aLm f (aVar i) ta env h K:=fun h z=> by
  refine A5V e fun r hr=> ?_
  obtain ⟨zi,z⟩:=z
  rcases hr with ⟨c,rfl,rfl⟩ | ⟨w,rfl,rfl⟩
  · have pl:N4 env h (.slot i)=some c:=A3m e
    cases c with
    | map kvs=> exact zi.elim
    | seq xs=>
      refine ⟨by rw [pl];trivial,a h _ _ (fun ws h2 z=> ?_) z⟩
      have pl:N4 env h2 (.slot i)=some (.seq xs):=A3m e
      rw [pl]
      exact fm _ _ _ _ (fun xs' w z=> n _ _ _ z) z
  · cases w with
    | ref p=>
      obtain ⟨xs,ep⟩:=zi
      have pl:N4 env h (.val (.ref p))=some (.seq xs):=A2d ep
      refine ⟨by rw [pl];trivial,a h _ _ (fun ws h2 z=> ?_) z⟩
      have z:(match h2 p with
        | some (.cont (.seq xs))=> f xs ws fun xs' w=> k (.val (.ref p)) w (H7 h2 p (.cont (.seq xs'))) Q E
        | _=> False):=z
      split at z
      · rename_i xs2 e2
        have pl:N4 env h2 (.val (.ref p))=some (.seq xs2):=A2d e2
        rw [pl]
        refine fm _ _ _ _ (fun xs' w z=> ?_) z
        have q:=n _ _ _ z
        rw [A5p e] at q
        exact q
      · exact z.elim
    | _=> exact zi.elim
theorem B0D {f:P5} {x:SV} {k:SV→W→MC} (e':SV→A1) (he:∀x,env.set i (some x)=e' x) (fm:LmM f) (e:env[i]? =some (some x)) (a:SA Q E env ta ma) (n:∀x' w h,k x' w h Q E→D.nx (e' x') h):∀h,lmC f x ma k h Q E→A1c (aLm f (aVar i) ta) D env h:=
  A9n (K:=fun _ env1 h1=> D.nx env1 h1) fm e a (fun x' w h z=> by rw [he];exact n x' w h z)
theorem B5X {x:SV} {k:SV→MC} (e':SV→A1) (he:∀x,env.set i (some x)=e' x) (e:env[i]? =some (some x)) (a:SE Q E env t m) (n0:∀x' h,k x' h Q E→D.nx (e' x') h):∀h,A6k x m k h Q E→A1c (aExt (aVar i) t) D env h:=fun h z=> by
  have n:∀x' h,k x' h Q E→D.nx (env.set i (some x')) h:=fun x' h z=> by rw [he];exact n0 x' h z
  refine A5V (K:=fun ro env1 h1=> A6a (N4 env1 h1 ro)∧t env1 h1 fun re env2 h2=> match view env2 h2 re with
    | .cv (.seq ys)=> (match N4 env2 h2 ro with
      | some (.seq xs)=> xs.length+ys.length≤sizeLine∧D.nx (A0R env2 ro (.seq (xs++ys))) (A0Q h2 ro (.seq (xs++ys)))
      | _=> False)
    | _=> False) e fun r hr=> ?_
  obtain ⟨zi,z⟩:=z
  rcases hr with ⟨c,rfl,rfl⟩ | ⟨w,rfl,rfl⟩
  · cases c with
    | map kvs=> exact zi.elim
    | seq xs=>
      have pl:∀h,N4 env h (.slot i)=some (.seq xs):=fun h=> A3m e
      refine ⟨by rw [pl];trivial,a h _ _ (fun re y h2 rl z=> ?_) z⟩
      rw [N2 rl]
      unfold ext at z
      split at z
      · rename_i ys e1
        first | rw [pl,e1] | rw [pl]
        exact ⟨z.1,n _ _ z.2⟩
      · exact z.elim
  · cases w with
    | ref p=>
      obtain ⟨xs,ep⟩:=zi
      have pl:N4 env h (.val (.ref p))=some (.seq xs):=A2d ep
      refine ⟨by rw [pl];trivial,a h _ _ (fun re y h2 rl z=> ?_) z⟩
      rw [N2 rl]
      unfold ext at z
      split at z
      · rename_i ys e1
        try rw [e1]
        have z:(match h2 p with
          | some (.cont (.seq xs))=> xs.length+ys.length≤sizeLine∧k (.val (.ref p)) (H7 h2 p (.cont (.seq (xs++ys)))) Q E
          | _=> False):=z
        split at z
        · rename_i xs2 e2
          have pl:N4 env h2 (.val (.ref p))=some (.seq xs2):=A2d e2
          rw [pl]
          have q:=n _ _ z.2
          rw [A5p e] at q
          exact ⟨z.1,q⟩
        · exact z.elim
      · exact z.elim
    | _=> exact zi.elim
theorem u6 {x:SV} {k:SV→MC} (e':SV→A1) (he:∀x,env.set i (some x)=e' x) (a:SA Q E env tv mv) (e:env[i]? =some (some x)) (b:SE Q E env t m) (n0:∀x' h,k x' h Q E→D.nx (e' x') h):∀h,Y2 mv x m k h Q E→J9 tv (V9 (aVar i) t) D env h:=fun h z=> have n:∀x' h,k x' h Q E→D.nx (env.set i (some x')) h:=fun x' h z=> by rw [he];exact n0 x' h z
  a h _ _ (fun w h1 z=> by
  refine A5V (K:=fun ro env1 h1=> t env1 h1 fun ri env2 h2=> match view env2 h2 ri with
    | .wv (.int k)=> match N4 env2 h2 ro with
      | some (.seq xs)=> ∃j,ixN xs.length k=some j∧D.nx (A0R env2 ro (.seq (xs.set j w))) (A0Q h2 ro (.seq (xs.set j w)))
      | _=> False
    | _=> False) e fun r hr=> b h1 _ _ (fun ri y h2 rl z=> ?_) z
  rw [N2 rl]
  unfold X7 at z
  split at z
  · rename_i q e1
    try rw [e1]
    rcases hr with ⟨c,rfl,rfl⟩ | ⟨v,rfl,rfl⟩
    · cases c with
      | map kvs=> exact z.elim
      | seq xs=>
        have pl:N4 env h2 (.slot i)=some (.seq xs):=A3m e
        rw [pl]
        obtain ⟨j,ej,z⟩:=z
        exact ⟨j,ej,n _ _ z⟩
    · cases v with
      | ref p=>
        have z:(match h2 p with
          | some (.cont (.seq xs))=> ∃j,ixN xs.length q=some j∧k (.val (.ref p)) (H7 h2 p (.cont (.seq (xs.set j w)))) Q E
          | _=> False):=z
        split at z
        · rename_i xs2 e2
          have pl:N4 env h2 (.val (.ref p))=some (.seq xs2):=A2d e2
          rw [pl]
          obtain ⟨j,ej,z⟩:=z
          have q:=n _ _ z
          rw [A5p e] at q
          exact ⟨j,ej,q⟩
        · exact z.elim
      | _=> exact z.elim
  · exact z.elim) z
theorem A9e {x:SV} {k:SV→MC} {K:A1→AH→Prop} {w:W} (e:env[i]? =some (some x)) (b:SE Q E env t m) (n:∀x' h,k x' h Q E→K (env.set i (some x')) h):∀h,(m fun y=> X7 x y w k) h Q E→V9 (aVar i) t w env h K:=
  fun h z=> u6 (fun x=> env.set i (some x)) (fun _=> rfl) (tv:=fun e h Q=> Q w e h) (mv:=fun k=> k w) (D:=⟨K,fun _ _ _=> False,fun _ _=> False,fun _ _=> False⟩) (fun h k K hk z=> hk w h z) e b n h z
theorem B3C {x:SV} {k:SV→MC} {t2:AT} {m2:SV→CE} (e':SV→A1) (he:∀x,env.set i (some x)=e' x) (a:SA Q E env tv mv) (e:env[i]? =some (some x)) (b:SE Q E env t m) (c:∀x1,SE Q E (e' x1) t2 (m2 x1)) (n:∀x' h,k x' h Q E→D.nx (e' x') h):
    ∀h,A6Q mv x m m2 k h Q E→J9 tv (gTp 2 (A2h (V9 (aVar i) t) (A2h (V9 (aVar i) t2) A6M))) D env h:=fun h z=> a h _ _ (fun w h1 z=> by
  obtain ⟨a',b',rfl,z⟩:=B6J z
  refine ⟨rfl,a',[b'],rfl,A9e e b (fun x1 h2 z=> ⟨b',[],rfl,?_⟩) h1 z⟩
  have hi:i < env.length:=(List.getElem?_eq_some_iff.mp e).1
  refine A9e (x:=x1) (by rw [List.getElem?_set_self hi]) (by rw [he];exact c x1) (fun x2 h3 z=> ⟨rfl,?_⟩) h2 z
  rw [List.set_set,he]
  exact n _ _ z) z
theorem A9g:X1 y0:=fun _ _ _ _ k q=> oII.mono _ _ _ _ k q
theorem A0w:X1 P0:=fun _ _ _ _ k q=> oII.mono _ _ _ _ k q
theorem A5T:X1 Y1:=fun _ _ _ _ k q=> oII.mono _ _ _ _ k q
theorem A5f:X1 A0P:=fun _ _ _ _ k q=> oII.mono _ _ _ _ k q
theorem A6F:X1 y8:=fun _ _ _ _ k q=> oII.mono _ _ _ _ k q
theorem B0K:X1 oGe:=fun _ _ _ _ k q=> oII.mono _ _ _ _ k q
theorem N7:X1 oAdd:=oAdd.mono
theorem J8:X1 oIx:=oIx.mono
theorem A0r:X1 oMulT:=oMulT.mono
theorem M4 {neg:Bool}:X1 (B5 neg):=fun a b Q Q' k q=> ⟨q.1,q.2.1,k _ q.2.2⟩
theorem A4J {neg:Bool}:X1 (L1 neg):=fun a b Q Q' k q=> ⟨q.1,q.2.1,k _ q.2.2⟩
theorem N1:u2 B4:=fun as Q Q' k q=> by
  unfold B4 at q ⊢
  split at q
  · exact ⟨q.1,k _ q.2⟩
  · obtain ⟨xs,e,q⟩:=q
    exact ⟨xs,e,k _ q⟩
  · exact q
theorem A05 {g:List Bool→Bool}:u2 (oBls g):=oBls.mono
theorem d4:u2 D9:=fun as Q Q' k q=> by
  unfold D9 at q ⊢
  split at q
  · obtain ⟨n,b,e,f,q⟩:=q
    exact ⟨n,b,e,f,k _ q⟩
  · exact q
theorem A3y:u2 O8:=fun as Q Q' k q=> by
  unfold O8 at q ⊢
  split at q
  · obtain ⟨xs,e,q⟩:=q
    exact ⟨xs,e,k _ q⟩
  · exact q
theorem A9B:u2 T3:=fun as Q Q' k q=> by
  unfold T3 at q ⊢
  split at q
  · obtain ⟨xs,e,q⟩:=q
    exact ⟨xs,e,k _ q⟩
  · exact q
theorem A8B:LmM d3:=fun xs ws Q Q' k q=> by
  unfold d3 at q ⊢
  split at q
  · obtain ⟨a,b,j,y,e,f,q⟩:=q
    exact ⟨a,b,j,y,e,f,k _ _ q⟩
  · exact q
variable {Q':RR→AH→Prop} {E':AExc→AH→Prop}
theorem O6 (hQ:∀r h,Q r h→Q' r h):∀r s env h,Rl env r s→Q s.rr h→(C9 Q').rt r env h:=fun r s env h rl q=> by
  refine ⟨h,fun _ _ e=> e,?_⟩
  cases r with
  | val w=> cases rl;exact hQ _ _ q
  | own w=> cases rl;exact hQ _ _ q
  | slot i=>
    obtain ⟨c,rfl,e⟩:=rl
    show (match env[i]? with
      | some (some (.val w))=> Q' (.val w) h
      | some (some (.own c))=> Q' (.own c) h
      | _=> False)
    rw [e]
    exact hQ _ _ q
theorem O7 (hE:∀x h,E x h→E' x h) (env:A1):∀x h,E x h→F4 E' x env h:=fun x h q=> ⟨h,fun _ _ e=> e,hE _ _ q⟩
end
end Ab
namespace Ab
open PySem PySem.Spec PyProof.Rows L2 RZ
section
variable {Q:RR→AH→Prop} {E:AExc→AH→Prop} {h:AH}
@[simp] theorem E5 {x:SV} {k:SV→MC}:eV x k=k x:=rfl
@[simp] theorem G2 {x:W} {k:SV→MC}:eC x k=k (.val x):=rfl
@[simp] theorem I5 {o:I7} {a b:CE} {k:SV→MC}:A8 o a b k=a fun x=> b fun y=> C7 o x y k:=rfl
@[simp] theorem F9 {a:CE} {k:W→MC}:A0 a k=a fun x=> k x.fz:=rfl
@[simp] theorem I9 {k:List W→MC}:B2 k=k []:=rfl
@[simp] theorem K2 {a:CW} {b:C2} {k:List W→MC}:A2 a b k=a fun w=> b fun ws=> k (w::ws):=rfl
@[simp] theorem s4 {a:C2} {k:SV→MC}:Q1 a k=a fun ws=> E8 (ws.length≤sizeLine) (k (.val (.tup ws))):=rfl
@[simp] theorem s8 {a:C2} {k:SV→MC}:Q2 a k=a fun ws=> E8 (ws.length≤sizeLine) (k (.own (.seq ws))):=rfl
@[simp] theorem A4U {k:Option Int→MC}:Z8 k=k none:=rfl
@[simp] theorem A3p {a:CE} {k:Option Int→MC}:Z2 a k=a fun x=> O2 x fun i=> k (some i):=rfl
@[simp] theorem A4g {a:CE} {l u:CO} {k:SV→MC}:Z7 a l u k=a fun x=> l fun l=> u fun u=> slc x l u k:=rfl
@[simp] theorem K7 {k:List SV→MC}:B8 k=k []:=rfl
@[simp] theorem K6 {a:CE} {b:CS} {k:List SV→MC}:B3 a b k=a fun w=> b fun ws=> k (w::ws):=rfl
@[simp] theorem K8 {o:I6} {a:CS} {k:SV→MC}:C0 o a k=a fun xs=> cb o xs k:=rfl
@[simp] theorem P8 {k:Bool→MC}:V8 k=k true:=rfl
@[simp] theorem M6 {a:CE} {k:Bool→MC}:D3 a k=a fun x=> W0 x k:=rfl
@[simp] theorem A4B {a b:CB} {k:Bool→MC}:tAnd a b k=a fun x=> if x=true then b k else k false:=rfl
@[simp] theorem T0 {a b:CB} {k:Bool→MC}:tOr a b k=a fun x=> if x=true then k true else b k:=rfl
@[simp] theorem A1S {a:CB} {k:Bool→MC}:U6 a k=a fun x=> k (!x):=rfl
@[simp] theorem B0b {c:CB} {a b:CE} {k:SV→MC}:eIf c a b k=c fun x=> if x=true then a k else b k:=rfl
@[simp] theorem X9 {a b:CE} {k:SV→MC}:g8 a b k=a fun x=> W0 x fun c=> if c=true then b k else k (.val (.bl false)):=rfl
@[simp] theorem B0e {a b:CE} {k:SV→MC}:eOr a b k=a fun x=> W0 x fun c=> if c=true then k (.val (.bl true)) else b k:=rfl
@[simp] theorem s9 {a:CE} {k:SV→MC}:A6l a k=a fun x=> W0 x fun c=> k (.val (.bl (!c))):=rfl
@[simp] theorem C0u {a:CE} {k:SV→MC}:A6x a k=a fun x=> O2 x fun i=> k (.val (.int (-i))):=rfl
@[simp] theorem A1Z {P P':Int→Int→Bool} {a b c:CE} {k:SV→MC}:Z4 P P' a b c k=a fun x=> b fun y=> O2 x fun i=> O2 y fun j=>
  if P i j=true then c fun z=> O2 z fun l=> k (.val (.bl (P' j l))) else k (.val (.bl false)):=rfl
@[simp] theorem S8 {f:List W→MC} {a:C2} {k:SV→MC}:D5 f a k=a fun ws=> call (f ws) k:=rfl
@[simp] theorem W3 {f:List W→MC} {a:C2} {k:SV→MC}:A0H f a k=a fun ws=> call0 (f ws) k:=rfl
@[simp] theorem B89 {p:List Nat} {a:C2} {k:List W→MC}:B7G p a k=a fun ws=> perm p ws k:=rfl
@[simp] theorem A1K {a:CW} {k:List W→MC}:o8 a k=a fun w=> items w k:=rfl
@[simp] theorem W1 {a:CS} {k:List W→MC}:A07 a k=a fun w=> A4d w k:=rfl
@[simp] theorem B9k {a:CS} {k:List W→MC}:B64 a k=a fun w=> A6p w k:=rfl
@[simp] theorem B90 {a:C2} {k:List W→MC}:B7z a k=a fun w=> A4c w k:=rfl
@[simp] theorem B83 {a:CW} {k:List W→MC}:B0N a k=a fun w=> items w fun ws=> k (enW ws):=rfl
@[simp] theorem B9p {a:C2} {k:List W→MC}:B7k a k=a fun ws=> enz ws k:=rfl
@[simp] theorem O1 {mc:CB} {m1 m2:MC}:G5 mc m1 m2=mc fun b=> if b=true then m1 else m2:=rfl
@[simp] theorem B5f {a:CE} {k:SV→MC}:A6P a k=a fun x=> A6w x k:=rfl
@[simp] theorem B5p {a:C2} {k:W→W→MC}:A6r a k=a fun ws=> pr2 ws k:=rfl
@[simp] theorem B42 {a:CW} {k:W→SV→MC}:A2q a k=a fun w=> A1l w k:=rfl
@[simp] theorem A1Q {mv:CW} {x:SV} {m:CE} {k:SV→MC}:Y2 mv x m k=mv fun w=> m fun y=> X7 x y w k:=rfl
@[simp] theorem B5L {mv:CW} {x:SV} {m:CE} {m2:SV→CE} {k:SV→MC}:A6Q mv x m m2 k=mv fun w=> un2 w fun a b=> m fun y=> X7 x y a fun x1=> m2 x1 fun y2=> X7 x1 y2 b k:=rfl
@[simp] theorem C0T {f:Int→Int→Int} {x:SV} {m m2:CE} {k:SV→MC}:B7W f x m m2 k=m fun y=> A97 f x y m2 k:=rfl
@[simp] theorem O9 {mt:CB} {me:CW} {kk:Option W→MC}:U7 mt me kk=mt fun b=> if b=true then me fun y=> kk (some y) else kk none:=rfl
@[simp] theorem P3 {it:C2} {body:W→(Option W→MC)→MC} {k:SV→MC}:T5 it body k=it fun ws=> M7 body (fun acc=> k (.own (.seq acc))) ws []:=rfl
@[simp] theorem A9m {σ:Type} {mi:C2} {s0:σ} {body:W→σ→(σ→MC)→(σ→MC)→MC} {k:σ→MC}:A2z mi s0 body k=mi fun ws=> A0S body k ws s0:=rfl
@[simp] theorem B95 {σ:Type} {k:σ→MC} {f:(σ→MC)→MC}:join k f=f k:=rfl
theorem A8c:∀{as bs:List Char},as.map Char.toNat=bs.map Char.toNat→as=bs
  | [],[],_=> rfl
  | [],_::_,h=> by cases h
  | _::_,[],h=> by cases h
  | a::as,b::bs,h=> by
    rw [List.map_cons,List.map_cons] at h
    injection h with h1 h2
    rw [Char.toNat_inj.mp h1,A8c h2]
@[simp] theorem B4h {a b:String}:(Str.ofString a=Str.ofString b)=(a=b):=by
  refine propext ⟨fun e=> ?_,fun e=> by rw [e]⟩
  rw [Str.ofString_eq_toList,Str.ofString_eq_toList] at e
  injection e with e
  have z:=A8c (congrArg Array.toList e)
  exact String.toList_inj.mp z
@[simp] theorem D8 {w:W}:SV.fz (.val w)=w:=rfl
@[simp] theorem Y7 {ws:List W}:SV.fz (.own (.seq ws))= .lst ws:=rfl
@[simp] theorem B92 {w:W}:SV.rr (.val w)= .val w:=rfl
@[simp] theorem C0Q {c:Cont}:SV.rr (.own c)= .own c:=rfl
@[simp] theorem P9 {w:W}:RR.sv (.val w)= .val w:=rfl
@[simp] theorem B6P {c:Cont}:RR.sv (.own c)= .own c:=rfl
theorem F8:sizeLine=16777216:=rfl
@[simp] theorem W2 {i:Int} {k:Int→MC}:O2 (.val (.int i)) k=k i:=rfl
@[simp] theorem I0 {i:Bool} {k:Bool→MC}:W0 (.val (.bl i)) k=k i:=rfl
@[simp] theorem B27 {ws:List W} {k:List W→MC}:items (.tup ws) k=k ws:=rfl
@[simp] theorem A3b {ws:List W} {k:List W→MC}:items (.lst ws) k=k ws:=rfl
@[simp] theorem B5P {a b:W} {k:W→W→MC}:un2 (.tup [a,b]) k=k a b:=rfl
@[simp] theorem B9l {a b c:W} {k:W→W→W→MC}:un3 (.tup [a,b,c]) k=k a b c:=rfl
@[simp] theorem B9D {a b c d e:W} {k:W→W→W→W→W→MC}:un5 (.tup [a,b,c,d,e]) k=k a b c d e:=rfl
@[simp] theorem B9J {a b:W} {k:W→W→MC}:uq2 (.tup [a,b]) k=k a b:=rfl
@[simp] theorem B9c {a b c:W} {k:W→W→W→MC}:uq3 (.tup [a,b,c]) k=k a b c:=rfl
@[simp] theorem B81 {a b:W} {k:W→W→MC}:uq2 (.lst [a,b]) k=k a b:=rfl
@[simp] theorem B88 {a b c:W} {k:W→W→W→MC}:uq3 (.lst [a,b,c]) k=k a b c:=rfl
@[simp] theorem B9i {a b c d:W} {k:W→W→W→W→MC}:uq4 (.tup [a,b,c,d]) k=k a b c d:=rfl
@[simp] theorem B9U {a b c d e:W} {k:W→W→W→W→W→MC}:uq5 (.tup [a,b,c,d,e]) k=k a b c d e:=rfl
@[simp] theorem B8i {x:W} {r:List W} {k:W→SV→MC}:A1l (.tup (x::r)) k=k x (.own (.seq r)):=rfl
@[simp] theorem B4O {x:W} {r:List W} {k:W→SV→MC}:A1l (.lst (x::r)) k=k x (.own (.seq r)):=rfl
@[simp] theorem B6j {x y:W} {k:W→W→MC}:pr2 [x,y] k=k x y:=rfl
@[simp] theorem B8d {xs ys:List W} {k:List W→MC}:A4c [.tup xs,.tup ys] k=k (List.zipWith (fun a b=> W.tup [a,b]) xs ys):=rfl
@[simp] theorem B8T {xs ys:List W} {k:List W→MC}:A4c [.lst xs,.lst ys] k=k (List.zipWith (fun a b=> W.tup [a,b]) xs ys):=rfl
@[simp] theorem C0Y {a b:W} {k:List W→MC}:enz [a,b] k=items a fun xs=> items b fun ys=> k (ezW xs ys):=rfl
@[simp] theorem A0A {j:Int} {k:List W→MC}:A4d [.val (.int j)] k=E8 (-(2 ^ 62)≤j∧j < 2 ^ 62) (k (P4 0 j.toNat)):=rfl
@[simp] theorem B8Z {i j:Int} {k:List W→MC}:A6p [.val (.int i),.val (.int j)] k=E8 (-(2 ^ 62)≤i∧i < 2 ^ 62∧ -(2 ^ 62)≤j∧j < 2 ^ 62) (k (P4 i (j - i).toNat)):=rfl
@[simp] theorem B38 {n:Int} {k:SV→MC}:A6w (.val (.int n)) k=E8 (0≤n∧n≤16777216) (k (.own (.seq (P4 0 n.toNat)))):=rfl
theorem D1 {p:Prop} {m:MC} (hp:p):E8 p m=m:=by funext h Q E;exact propext ⟨fun z=> z.2,fun z=> ⟨hp,z⟩⟩
@[simp] theorem U3 {m:MC}:E8 True m=m:=D1 trivial
theorem v7 {p:Prop} {m:MC}:E8 p m h Q E=(p∧m h Q E):=rfl
@[simp] theorem C0F {x:SV}:ret x h Q E=Q x.rr h:=rfl
@[simp] theorem B8Q {x:AExc}:w9 x h Q E=E x h:=rfl
@[simp] theorem A1J {x:SV} {k:SV→MC}:call (ret x) k=k x:=by cases x <;> rfl
@[simp] theorem B3T {x:SV} {k:SV→MC}:call0 (ret x) k=k x:=by cases x <;> rfl
@[simp] theorem B8I {x:AExc} {k:SV→MC}:call (w9 x) k=w9 x:=rfl
theorem A2u {p:Prop}:(True∧p)=p:=by simp
@[simp] theorem C0v {a:W} {k:List W→MC}:perm [0] [a] k=k [a]:=D1 rfl
@[simp] theorem C0e {a b:W} {k:List W→MC}:perm [0,1] [a,b] k=k [a,b]:=D1 rfl
@[simp] theorem C0b {a b:W} {k:List W→MC}:perm [1,0] [a,b] k=k [b,a]:=D1 rfl
@[simp] theorem B9z {a b c:W} {k:List W→MC}:perm [0,1,2] [a,b,c] k=k [a,b,c]:=D1 rfl
@[simp] theorem B9q {a b c:W} {k:List W→MC}:perm [0,2,1] [a,b,c] k=k [a,c,b]:=D1 rfl
@[simp] theorem C0G {a b c:W} {k:List W→MC}:perm [1,0,2] [a,b,c] k=k [b,a,c]:=D1 rfl
@[simp] theorem B91 {a b c:W} {k:List W→MC}:perm [1,2,0] [a,b,c] k=k [b,c,a]:=D1 rfl
@[simp] theorem B9n {a b c:W} {k:List W→MC}:perm [2,0,1] [a,b,c] k=k [c,a,b]:=D1 rfl
@[simp] theorem B9w {a b c:W} {k:List W→MC}:perm [2,1,0] [a,b,c] k=k [c,b,a]:=D1 rfl
@[simp] theorem B9g {a b c d:W} {k:List W→MC}:perm [0,1,2,3] [a,b,c,d] k=k [a,b,c,d]:=D1 rfl
@[simp] theorem B8r {a b c d:W} {k:List W→MC}:perm [0,1,3,2] [a,b,c,d] k=k [a,b,d,c]:=D1 rfl
@[simp] theorem B8t {a b c d:W} {k:List W→MC}:perm [0,2,1,3] [a,b,c,d] k=k [a,c,b,d]:=D1 rfl
@[simp] theorem B9F {a b c d:W} {k:List W→MC}:perm [0,2,3,1] [a,b,c,d] k=k [a,c,d,b]:=D1 rfl
@[simp] theorem B8l {a b c d:W} {k:List W→MC}:perm [0,3,1,2] [a,b,c,d] k=k [a,d,b,c]:=D1 rfl
@[simp] theorem B8p {a b c d:W} {k:List W→MC}:perm [0,3,2,1] [a,b,c,d] k=k [a,d,c,b]:=D1 rfl
@[simp] theorem B8m {a b c d:W} {k:List W→MC}:perm [1,0,2,3] [a,b,c,d] k=k [b,a,c,d]:=D1 rfl
@[simp] theorem B9a {a b c d:W} {k:List W→MC}:perm [1,0,3,2] [a,b,c,d] k=k [b,a,d,c]:=D1 rfl
@[simp] theorem B9d {a b c d:W} {k:List W→MC}:perm [1,2,0,3] [a,b,c,d] k=k [b,c,a,d]:=D1 rfl
@[simp] theorem B9A {a b c d:W} {k:List W→MC}:perm [1,2,3,0] [a,b,c,d] k=k [b,c,d,a]:=D1 rfl
@[simp] theorem B9M {a b c d:W} {k:List W→MC}:perm [1,3,0,2] [a,b,c,d] k=k [b,d,a,c]:=D1 rfl
@[simp] theorem B9Q {a b c d:W} {k:List W→MC}:perm [1,3,2,0] [a,b,c,d] k=k [b,d,c,a]:=D1 rfl
@[simp] theorem B9Z {a b c d:W} {k:List W→MC}:perm [2,0,1,3] [a,b,c,d] k=k [c,a,b,d]:=D1 rfl
@[simp] theorem B8s {a b c d:W} {k:List W→MC}:perm [2,0,3,1] [a,b,c,d] k=k [c,a,d,b]:=D1 rfl
@[simp] theorem B9L {a b c d:W} {k:List W→MC}:perm [2,1,0,3] [a,b,c,d] k=k [c,b,a,d]:=D1 rfl
@[simp] theorem B8q {a b c d:W} {k:List W→MC}:perm [2,1,3,0] [a,b,c,d] k=k [c,b,d,a]:=D1 rfl
@[simp] theorem B87 {a b c d:W} {k:List W→MC}:perm [2,3,0,1] [a,b,c,d] k=k [c,d,a,b]:=D1 rfl
@[simp] theorem B9N {a b c d:W} {k:List W→MC}:perm [2,3,1,0] [a,b,c,d] k=k [c,d,b,a]:=D1 rfl
@[simp] theorem B8u {a b c d:W} {k:List W→MC}:perm [3,0,1,2] [a,b,c,d] k=k [d,a,b,c]:=D1 rfl
@[simp] theorem B9j {a b c d:W} {k:List W→MC}:perm [3,0,2,1] [a,b,c,d] k=k [d,a,c,b]:=D1 rfl
@[simp] theorem B9G {a b c d:W} {k:List W→MC}:perm [3,1,0,2] [a,b,c,d] k=k [d,b,a,c]:=D1 rfl
@[simp] theorem B9I {a b c d:W} {k:List W→MC}:perm [3,1,2,0] [a,b,c,d] k=k [d,b,c,a]:=D1 rfl
@[simp] theorem B9f {a b c d:W} {k:List W→MC}:perm [3,2,0,1] [a,b,c,d] k=k [d,c,a,b]:=D1 rfl
@[simp] theorem B8o {a b c d:W} {k:List W→MC}:perm [3,2,1,0] [a,b,c,d] k=k [d,c,b,a]:=D1 rfl
section
variable {i j:Int} {k:SV→MC} {xs ys:List W}
@[simp] theorem B0I:C7 y0 (.val (.int i)) (.val (.int j)) k=k (.val (.int (i - j))):=by funext h Q E;exact A2u
@[simp] theorem A6t:C7 y8 (.val (.int i)) (.val (.int j)) k=k (.val (.bl (decide (i < j)))):=by funext h Q E;exact A2u
@[simp] theorem C0x:C7 oLe (.val (.int i)) (.val (.int j)) k=k (.val (.bl (decide (i≤j)))):=by funext h Q E;exact A2u
@[simp] theorem C0w:C7 oGt (.val (.int i)) (.val (.int j)) k=k (.val (.bl (decide (j < i)))):=by funext h Q E;exact A2u
@[simp] theorem B0g:C7 oGe (.val (.int i)) (.val (.int j)) k=k (.val (.bl (decide (j≤i)))):=by funext h Q E;exact A2u
@[simp] theorem A4N:C7 P0 (.val (.int i)) (.val (.int j)) k=E8 (0 < j) (k (.val (.int (i % j)))):=rfl
@[simp] theorem A5h:C7 Y1 (.val (.int i)) (.val (.int j)) k=E8 (CDivW i j) (k (.val (.int (i / j)))):=rfl
@[simp] theorem A9o:C7 A0P (.val (.int i)) (.val (.int j)) k=E8 (CPow i j) (k (.val (.int (i ^ j.toNat)))):=rfl
@[simp] theorem A6H:C7 oMulT (.val (.int i)) (.val (.int j)) k=E8 (CMulW i j) (k (.val (.int (i*j)))):=rfl
@[simp] theorem C0X:C7 oMulT (.own (.seq xs)) (.val (.int j)) k=E8 (-(2 ^ 63)≤j∧j < 2 ^ 63∧xs.length*j.toNat≤sizeLine) (k (.own (.seq (List.replicate j.toNat xs).flatten))):=rfl
@[simp] theorem C0L:C7 oMulT (.val (.tup xs)) (.val (.int j)) k=E8 (-(2 ^ 63)≤j∧j≤1000∧1≤xs.length∧xs.length≤1000) (k (.val (.tup (List.replicate j.toNat xs).flatten))):=rfl
@[simp] theorem e9:C7 oAdd (.val (.int i)) (.val (.int j)) k=k (.val (.int (i+j))):=rfl
@[simp] theorem A52 {x y:Str}:C7 oAdd (.val (.str x)) (.val (.str y)) k=E8 (x.length+y.length≤sizeLine) (k (.val (.str (x++y)))):=rfl
@[simp] theorem A5z:C7 oAdd (.val (.tup xs)) (.val (.tup ys)) k=E8 (xs.length+ys.length≤sizeLine) (k (.val (.tup (xs++ys)))):=rfl
@[simp] theorem B9B:C7 oAdd (.val (.lst xs)) (.val (.lst ys)) k=E8 (xs.length+ys.length≤sizeLine) (k (.own (.seq (xs++ys)))):=rfl
@[simp] theorem B9E:C7 oAdd (.val (.lst xs)) (.own (.seq ys)) k=E8 (xs.length+ys.length≤sizeLine) (k (.own (.seq (xs++ys)))):=rfl
@[simp] theorem B82:C7 oAdd (.own (.seq xs)) (.val (.lst ys)) k=E8 (xs.length+ys.length≤sizeLine) (k (.own (.seq (xs++ys)))):=rfl
@[simp] theorem A8v:C7 oAdd (.own (.seq xs)) (.own (.seq ys)) k=E8 (xs.length+ys.length≤sizeLine) (k (.own (.seq (xs++ys)))):=rfl
def O5 (xs:List W) (i:Int) (k:W→MC):MC:=match L2.atI xs i with
  | some w=> k w
  | none=> bad
theorem A8R {v:Vw} {i:Int} {Q:RV→Prop} (hv:v.items=some xs) (hs:∀x,v≠ .wv (.str x)):oIx v (.wv (.int i)) Q=match L2.atI xs i with
  | some w=> Q (.val w)
  | none=> False:=by
  rw [B7h]
  have z:ixK v i Q=match L2.atI xs i with
    | some w=> Q (.val w)
    | none=> False:=by
    unfold ixK
    rw [hv]
    rfl
  cases v with
  | wv w=> cases w with
    | str x=> exact absurd rfl (hs x)
    | _=> exact z
  | _=> exact z
theorem A5q {x:SV} {v:Vw} (e:∀h,K4 h x=v) (hv:v.items=some xs) (hs:∀x,v≠ .wv (.str x)):C7 oIx x (.val (.int i)) k=O5 xs i fun w=> k (.val w):=by
  funext h Q E
  show oIx (K4 h x) (.wv (.int i)) _=_
  rw [e,A8R hv hs]
  unfold O5
  cases L2.atI xs i <;> rfl
@[simp] theorem A6J:C7 oIx (.val (.tup xs)) (.val (.int i)) k=O5 xs i fun w=> k (.val w):=A5q (v:= .wv (.tup xs)) (fun _=> rfl) rfl (fun _ z=> by cases z)
@[simp] theorem A2t:C7 oIx (.val (.lst xs)) (.val (.int i)) k=O5 xs i fun w=> k (.val w):=A5q (v:= .wv (.lst xs)) (fun _=> rfl) rfl (fun _ z=> by cases z)
@[simp] theorem A4O:C7 oIx (.own (.seq xs)) (.val (.int i)) k=O5 xs i fun w=> k (.val w):=A5q (v:= .cv (.seq xs)) (fun _=> rfl) rfl (fun _ z=> by cases z)
theorem A1I {k:W→MC} {w:W} (e:L2.atI xs i=some w):O5 xs i k=k w:=by unfold O5;rw [e]
@[simp] theorem A57 {k:W→MC} {w:W}:O5 (w::xs) 0 k=k w:=A1I B7X
@[simp] theorem A6X {k:W→MC} {w v:W}:O5 (w::v::xs) 1 k=k v:=A1I B7V
@[simp] theorem A6E {k:W→MC} {w v u:W}:O5 (w::v::u::xs) 2 k=k u:=A1I B7S
@[simp] theorem A6I {k:W→MC} {w v u t:W}:O5 (w::v::u::t::xs) 3 k=k t:=A1I (atI_nat (j:=3) rfl)
@[simp] theorem A9s {k:W→MC} {w v u t s:W}:O5 (w::v::u::t::s::xs) 4 k=k s:=A1I (atI_nat (j:=4) rfl)
theorem A3q {k:W→MC} {n:Nat} (hn:n < xs.length):O5 xs (n:Int) k=k xs[n]:=A1I (atI_nat (List.getElem?_eq_getElem hn))
theorem A5Q {α:Type} {e:α→W} {l:List α} {k:W→MC} {n:Nat} (hn:n < l.length):O5 (l.map e) (n:Int) k=k (e l[n]):=by
  rw [A3q (by rw [List.length_map];exact hn),List.getElem_map]
@[simp] theorem C0r {l u:Option Int}:slc (.val (.tup xs)) l u k=k (.val (.tup (T4 xs l u))):=rfl
@[simp] theorem A9q {l u:Option Int}:slc (.val (.lst xs)) l u k=k (.own (.seq (T4 xs l u))):=rfl
@[simp] theorem B68 {l u:Option Int}:slc (.own (.seq xs)) l u k=k (.own (.seq (T4 xs l u))):=rfl
section
variable {w:W} {k1:SV→W→MC}
theorem A87 {m:MC}:isq (.own (.seq xs)) m=m:=D1 trivial
@[simp] theorem B5K {m:CE}:A6k (.own (.seq xs)) m k=m fun y=> ext (.own (.seq xs)) y k:=A87
@[simp] theorem B5c:ext (.own (.seq xs)) (.own (.seq ys)) k=E8 (xs.length+ys.length≤sizeLine) (k (.own (.seq (xs++ys)))):=rfl
@[simp] theorem A9X {f:P5} {ma:C2}:lmC f (.own (.seq xs)) ma k1=ma fun ws=> lm f (.own (.seq xs)) ws k1:=A87
@[simp] theorem B8J:lm B4e (.own (.seq xs)) [w] k1=E8 (xs.length < sizeLine) (k1 (.own (.seq (xs++[w]))) .non):=rfl
theorem A88 {n j:Nat} (h:j < n):ixN n (j:Int)=some j:=by
  unfold ixN
  rw [if_pos (by omega),if_pos (by omega)]
  rfl
theorem A5W {j:Nat} (h:j < xs.length):X7 (.own (.seq xs)) (.val (.int (j:Int))) w k=k (.own (.seq (xs.set j w))):=by
  funext h' Q E
  refine propext ⟨fun ⟨i,e,q⟩=> ?_,fun q=> ⟨j,A88 h,q⟩⟩
  rw [A88 h] at e
  cases e
  exact q
end
@[simp] theorem A0K:cb B4 [.val (.tup xs)] k=k (.val (.int xs.length)):=by
  funext h Q E;show B4 [.wv (.tup xs)] _=_;rw [A4Z];rfl
@[simp] theorem A2l:cb B4 [.val (.lst xs)] k=k (.val (.int xs.length)):=by
  funext h Q E;show B4 [.wv (.lst xs)] _=_;rw [A4Z];rfl
@[simp] theorem A5k:cb B4 [.own (.seq xs)] k=k (.val (.int xs.length)):=by
  funext h Q E;show B4 [.cv (.seq xs)] _=_;rw [A4Z];rfl
@[simp] theorem A03 {x:Str}:cb B4 [.val (.str x)] k=E8 (x.length≤sizeLine) (k (.val (.int x.length))):=by
  funext h Q E;show B4 [.wv (.str x)] _=_;rw [A4Z];rfl
@[simp] theorem B6I {a:C2} {k:SV→MC}:A6D a k=a fun ws=> A6Y ws k:=rfl
@[simp] theorem C0I {kvs:List (W×W)} {a b:CW} {k:SV→MC}:B6b (.own (.map kvs)) a b k=a fun w=> b fun d=> B0h (.own (.map kvs)) w d k:=by
  funext h Q E
  exact propext ⟨fun z=> z.2,fun z=> ⟨⟨kvs,rfl⟩,z⟩⟩
@[simp] theorem C0i {m:CE} {k:W→MC}:B0Y m k=m fun x=> A20 x k:=rfl
@[simp] theorem C0j {f:P5} {m:CE} {ma:C2} {k:MC}:lmE f m ma k=m fun x=> lmR f x ma k:=rfl
@[simp] theorem C0A:cb oBack [.val (.tup xs),.val (.int i)] k=E8 (i= -1) (k (.val (.tup xs.reverse))):=rfl
@[simp] theorem B9y:cb O8 [.val (.tup xs)] k=k (.val (.tup xs)):=by
  funext h Q E;show O8 [.wv (.tup xs)] _=_;rw [A51];rfl
@[simp] theorem B97:cb O8 [.val (.lst xs)] k=k (.val (.tup xs)):=by
  funext h Q E;show O8 [.wv (.lst xs)] _=_;rw [A51];rfl
@[simp] theorem A4E:cb O8 [.own (.seq xs)] k=k (.val (.tup xs)):=by
  funext h Q E;show O8 [.cv (.seq xs)] _=_;rw [A51];rfl
@[simp] theorem B9s:cb T3 [.val (.tup xs)] k=k (.own (.seq xs)):=by
  funext h Q E;show T3 [.wv (.tup xs)] _=_;rw [A50];rfl
@[simp] theorem B5e:cb T3 [.val (.lst xs)] k=k (.own (.seq xs)):=by
  funext h Q E;show T3 [.wv (.lst xs)] _=_;rw [A50];rfl
@[simp] theorem B5d:cb T3 [.own (.seq xs)] k=k (.own (.seq xs)):=by
  funext h Q E;show T3 [.cv (.seq xs)] _=_;rw [A50];rfl
theorem B5Y {a b:Int}:(if b < a then b else a)=min a b:=by rw [Int.min_def];split <;> split <;> omega
theorem B57 {a b:Int}:(if b > a then b else a)=max a b:=by rw [Int.max_def];split <;> split <;> omega
theorem B5r {a:Int}:(if a < 0 then -a else a)=(a.natAbs:Int):=by split <;> omega
@[simp] theorem B9u:cb B65 [.val (.int i),.val (.int j)] k=k (.val (.int (min i j))):=by
  rw [←B5Y];rfl
@[simp] theorem B9v:cb B6f [.val (.int i),.val (.int j)] k=k (.val (.int (max i j))):=by
  rw [←B57];rfl
@[simp] theorem C0h:cb B7t [.val (.int i)] k=k (.val (.int (i.natAbs:Int))):=by
  rw [←B5r];rfl
theorem A5d {as bs:List Int} (e:as.map W.int=bs.map W.int):as=bs:=by
  induction as generalizing bs with
  | nil=> cases bs with
    | nil=> rfl
    | cons _ _=> cases e
  | cons a as ih=> cases bs with
    | nil=> cases e
    | cons b bs=>
      rw [List.map_cons,List.map_cons] at e
      injection e with e1 e2
      injection e1 with e1
      rw [e1,ih e2]
theorem B5w {as bs:List Bool} (e:as.map W.bl=bs.map W.bl):as=bs:=by
  induction as generalizing bs with
  | nil=> cases bs with
    | nil=> rfl
    | cons _ _=> cases e
  | cons a as ih=> cases bs with
    | nil=> cases e
    | cons b bs=>
      rw [List.map_cons,List.map_cons] at e
      injection e with e1 e2
      injection e1 with e1
      rw [e1,ih e2]
theorem B4T {g:List Int→(RV→Prop)→Prop} {ns:List Int} {v:Vw} {Q:RV→Prop} (e:v.seq=some (ns.map W.int)):oInts g [v] Q=g ns Q:=by
  refine propext ⟨fun ⟨ms,e2,q⟩=> ?_,fun q=> ⟨ns,e,q⟩⟩
  rw [e] at e2
  rw [A5d (Option.some.inj e2)]
  exact q
theorem B5C {g:List Bool→Bool} {ns:List Bool} {v:Vw} {Q:RV→Prop} (e:v.seq=some (ns.map W.bl)):oBls g [v] Q=Q (.val (.bl (g ns))):=by
  refine propext ⟨fun ⟨ms,e2,q⟩=> ?_,fun q=> ⟨ns,e,q⟩⟩
  rw [e] at e2
  rw [B5w (Option.some.inj e2)]
  exact q
theorem A9M {g:List Bool→Bool} {ns:List Bool} {x:SV} {v:Vw} (e:∀h,K4 h x=v) (es:v.seq=some (ns.map W.bl)):cb (oBls g) [x] k=k (.val (.bl (g ns))):=by
  funext h Q E
  unfold cb
  rw [List.map_cons,List.map_nil,e,B5C es]
  rfl
theorem A8q {g:List Int→(RV→Prop)→Prop} {ns:List Int} {x:SV} {v:Vw} (e:∀h,K4 h x=v) (es:v.seq=some (ns.map W.int)):cb (oInts g) [x] k=fun h Q E=> g ns fun r=> Y3 k r h Q E:=by
  funext h Q E
  unfold cb
  rw [List.map_cons,List.map_nil,e,B4T es]
theorem A5t {ns:List Int} {x:SV} {v:Vw} (e:∀h,K4 h x=v) (es:v.items=some (ns.map W.int)):cb A4X [x] k=k (.val (.int ns.sum)):=by
  funext h Q E
  unfold cb
  rw [List.map_cons,List.map_nil,e]
  refine propext ⟨fun ⟨ms,e2,q⟩=> ?_,fun q=> ⟨ns,es,q⟩⟩
  rw [es] at e2
  rw [A5d (Option.some.inj e2)]
  exact q
@[simp] theorem B8g {ns:List Int}:cb A8m [.own (.seq (ns.map W.int))] k=k (.own (.seq ((srt ns).map W.int))):=A8q (v:= .cv (.seq _)) (fun _=> rfl) rfl
@[simp] theorem B8L {ns:List Int}:cb A8m [.val (.lst (ns.map W.int))] k=k (.own (.seq ((srt ns).map W.int))):=A8q (v:= .wv (.lst _)) (fun _=> rfl) rfl
@[simp] theorem C0H {ns:List Int}:cb A4X [.own (.seq (ns.map W.int))] k=k (.val (.int ns.sum)):=A5t (v:= .cv (.seq _)) (fun _=> rfl) rfl
@[simp] theorem B9o {ns:List Int}:cb A4X [.val (.lst (ns.map W.int))] k=k (.val (.int ns.sum)):=A5t (v:= .wv (.lst _)) (fun _=> rfl) rfl
@[simp] theorem B98 {ns:List Int}:cb A4X [.val (.tup (ns.map W.int))] k=k (.val (.int ns.sum)):=A5t (v:= .wv (.tup _)) (fun _=> rfl) rfl
@[simp] theorem C0K {ns:List Bool}:cb B7g [.own (.seq (ns.map W.bl))] k=k (.val (.bl (ns.any id))):=A9M (v:= .cv (.seq _)) (fun _=> rfl) rfl
@[simp] theorem o9 {ns:List Bool}:cb Q8 [.own (.seq (ns.map W.bl))] k=k (.val (.bl (ns.all id))):=A9M (v:= .cv (.seq _)) (fun _=> rfl) rfl
end
end
end Ab
namespace Ab
open PySem PySem.Spec PyProof.Rows L2 RZ
section
variable {Q:RR→AH→Prop} {E:AExc→AH→Prop} {h:AH} {α β σ:Type}
theorem B4m {n:Nat}:P4 0 n=(List.range n).map fun (i:Nat)=> W.int i:=by
  unfold P4
  simp
section
variable {body:W→(Option W→MC)→MC} {k:List W→MC}
theorem A4I (e:α→W) (f:α→Option W):∀(l:List α) (acc:List W),(∀a∈l,∀kk,body (e a) kk=kk (f a))→acc.length+l.length≤sizeLine→M7 body k (l.map e) acc=k (acc++l.filterMap f)
  | [],acc,_,_=> by simp [M7]
  | a::l,acc,hb,hl=> by
    rw [List.length_cons] at hl
    show body (e a) _=_
    rw [hb a (by simp)]
    cases q:f a with
    | none=>
      show M7 body k (l.map e) acc=_
      rw [A4I e f l acc (fun b hb'=> hb b (by simp [hb'])) (by omega),List.filterMap_cons_none q]
    | some y=>
      show E8 _ _=_
      rw [D1 (by omega),A4I e f l (acc++[y]) (fun b hb'=> hb b (by simp [hb'])) (by rw [List.length_append,List.length_singleton];omega),List.filterMap_cons_some q]
      simp
theorem d8 (e:α→W) (g:α→W) (l:List α) (hb:∀a∈l,∀kk,body (e a) kk=kk (some (g a))) (hl:l.length≤sizeLine):M7 body k (l.map e) []=k (l.map g):=by
  rw [A4I e (fun a=> some (g a)) l [] hb (by simpa using hl)]
  congr 1
  rw [List.nil_append,List.filterMap_eq_map']
theorem B6R (e:α→W) (p:α→Bool) (g:α→W) (l:List α) (hb:∀a∈l,∀kk,body (e a) kk=if p a=true then kk (some (g a)) else kk none) (hl:l.length≤sizeLine):M7 body k (l.map e) []=k ((l.filter p).map g):=by
  rw [A4I e (fun a=> if p a=true then some (g a) else none) l [] (fun a ha kk=> by rw [hb a ha kk];split <;> rfl) (by simpa using hl)]
  congr 1
  rw [List.nil_append]
  induction l with
  | nil=> rfl
  | cons a l ih=>
    have ih:=ih (fun b hb'=> hb b (by simp [hb'])) (by rw [List.length_cons] at hl;omega)
    by_cases q:p a=true
    · rw [List.filterMap_cons_some (by rw [if_pos q]),List.filter_cons_of_pos q,List.map_cons,ih]
    · rw [List.filterMap_cons_none (by rw [if_neg q]),List.filter_cons_of_neg q,ih]
theorem A94 (I:Nat→AH→Prop) (P:W→W→Prop):∀(ws acc:List W) (i:Nat) (h:AH),acc.length+ws.length≤sizeLine→I i h→
    (∀w∈ws,∀j h kk,j < i+ws.length→I j h→(∀y h',P w y→I (j+1) h'→kk (some y) h' Q E)→body w kk h Q E)→
    (∀ys h',All2 P ws ys→I (i+ws.length) h'→k (acc++ys) h' Q E)→M7 body k ws acc h Q E
  | [],acc,i,h,_,j,_,q=> by
    have z:=q [] h .nil (by simpa using j)
    simpa [M7] using z
  | w::ws,acc,i,h,hl,j,hb,q=> by
    rw [List.length_cons] at hl
    refine hb w (by simp) i h _ (by rw [List.length_cons];omega) j fun y h' py j'=> ⟨by omega,?_⟩
    refine A94 I P ws (acc++[y]) (i+1) h' (by rw [List.length_append,List.length_singleton];omega) j' (fun v hv j h kk hj=> hb v (by simp [hv]) j h kk (by rw [List.length_cons];omega)) fun ys h2 ay j2=> ?_
    have z:=q (y::ys) h2 (.cons py ay) (by rw [List.length_cons];rwa [show i+(ws.length+1)=i+1+ws.length by omega])
    simpa using z
end
section
variable {body:W→σ→(σ→MC)→(σ→MC)→MC} {k:σ→MC}
theorem A82 {τ:Type} (e:α→W) (eS:τ→σ) (f:τ→α→τ) (I:Nat→τ→Prop):∀(l:List α) (t:τ) (i:Nat),I i t→(∀(j:Nat) a,l[j]? =some a→∀t,I (i+j) t→I (i+j+1) (f t a)∧∀kn,body (e a) (eS t) kn k=kn (eS (f t a)))→A0S body k (l.map e) (eS t)=k (eS (l.foldl f t))
  | [],t,i,_,_=> rfl
  | a::l,t,i,h0,hb=> by
    obtain ⟨i',hb'⟩:=hb 0 a rfl t h0
    show body (e a) (eS t) _ k=_
    rw [hb',A82 e eS f I l (f t a) (i+1) i' fun j b hj t hi=> ?_]
    · rfl
    · have z:=hb (j+1) b (by simpa using hj) t (by rwa [show i+(j+1)=i+1+j by omega])
      rwa [show i+(j+1)+1=i+1+j+1 by omega] at z
inductive Stp (σ:Type) where
  | go (s:σ) | out (m:MC)
theorem A9h (I:List W→σ→AH→Prop) (h0:∀s h,I [] s h→k s h Q E) (hs:∀w ws s h kn,I (w::ws) s h→(∀s' h',I ws s' h'→kn s' h' Q E)→body w s kn k h Q E):∀ws s h,I ws s h→A0S body k ws s h Q E
  | [],s,h,i=> h0 s h i
  | w::ws,s,h,i=> hs w ws s h _ i fun s' h' i'=> A9h I h0 hs ws s' h' i'
end
end
mutual
def W.nb:Nat→W→Bool
  | _,.non=> true
  | _,.int _=> true
  | _,.str _=> true
  | n+1,.tup xs=> W.nbs n xs
  | n+1,.lst xs=> W.nbs n xs
  | _,_=> false
def W.nbs:Nat→List W→Bool
  | _,[]=> true
  | n,x::xs=> W.nb n x && W.nbs n xs
end
theorem W.nbs_of {n:Nat}:∀{xs:List W},(∀x∈xs,x.nb n=true)→W.nbs n xs=true
  | [],_=> rfl
  | x::xs,h=> by
    simp only [W.nbs,Bool.and_eq_true]
    exact ⟨h x (by simp),W.nbs_of fun y hy=> h y (by simp [hy])⟩
theorem W.nbs_mem {n:Nat}:∀{xs:List W},W.nbs n xs=true→∀x∈xs,x.nb n=true
  | [],_,x,h=> by cases h
  | y::ys,e,x,h=> by
    simp only [W.nbs,Bool.and_eq_true] at e
    rcases List.mem_cons.mp h with rfl | h
    · exact e.1
    · exact W.nbs_mem e.2 x h
theorem B6E {n:Nat} {i:Int}:(W.int i).nb n=true:=by cases n <;> rfl
theorem A5g {n:Nat} {xs:List W} (h:∀x∈xs,x.nb n=true):(W.tup xs).nb (n+1)=true:=W.nbs_of h
theorem B6M {n:Nat} {xs:List W} (h:∀x∈xs,x.nb n=true):(W.lst xs).nb (n+1)=true:=W.nbs_of h
theorem A8k {n:Nat} {xs:List Int}:∀x∈xs.map W.int,x.nb n=true:=fun x hx=> by
  obtain ⟨i,_,rfl⟩:=List.mem_map.mp hx
  exact B6E
theorem B6B {α:Type} {n:Nat} {e:α→W} {l:List α} (h:∀a∈l,(e a).nb n=true):∀x∈l.map e,x.nb n=true:=fun x hx=> by
  obtain ⟨i,hi,rfl⟩:=List.mem_map.mp hx
  exact h i hi
theorem A5o:∀{n:Nat} {w:W},w.nb n=true→w.dat n=true
  | 0,.non,_=> rfl
  | 0,.int _,_=> rfl
  | 0,.str _,_=> rfl
  | _+1,.non,_=> rfl
  | _+1,.int _,_=> rfl
  | _+1,.str _,_=> rfl
  | n+1,.tup xs,h=> by
    show xs.all (W.dat n)=true
    rw [List.all_eq_true]
    exact fun x hx=> A5o (W.nbs_mem h x hx)
  | n+1,.lst xs,h=> by
    show xs.all (W.dat n)=true
    rw [List.all_eq_true]
    exact fun x hx=> A5o (W.nbs_mem h x hx)
  | 0,.tup _,h=> by simp [W.nb] at h
  | 0,.lst _,h=> by simp [W.nb] at h
  | _,.bl _,h=> by simp [W.nb] at h
  | _,.dct _ _,h=> by simp [W.nb] at h
  | _,.ref _,h=> by simp [W.nb] at h
  | _,.ty _,h=> by simp [W.nb] at h
theorem A53:∀{n m:Nat} {w:W},n≤m→w.dat n=true→w.dat m=true
  | _,0,.non,_,_=> rfl
  | _,0,.int _,_,_=> rfl
  | _,0,.str _,_,_=> rfl
  | _,0,.bl _,_,_=> rfl
  | _,_+1,.non,_,_=> rfl
  | _,_+1,.int _,_,_=> rfl
  | _,_+1,.str _,_,_=> rfl
  | _,_+1,.bl _,_,_=> rfl
  | 0,_,.tup _,_,h=> by simp [W.dat] at h
  | 0,_,.lst _,_,h=> by simp [W.dat] at h
  | n+1,m+1,.tup xs,l,h=> by
    have h:xs.all (W.dat n)=true:=h
    show xs.all (W.dat m)=true
    rw [List.all_eq_true] at h ⊢
    exact fun x hx=> A53 (by omega) (h x hx)
  | n+1,m+1,.lst xs,l,h=> by
    have h:xs.all (W.dat n)=true:=h
    show xs.all (W.dat m)=true
    rw [List.all_eq_true] at h ⊢
    exact fun x hx=> A53 (by omega) (h x hx)
  | _+1,0,.tup _,l,_=> by omega
  | _+1,0,.lst _,l,_=> by omega
  | _,_,.dct _ _,_,h=> by simp [W.dat] at h
  | _,_,.ref _,_,h=> by simp [W.dat] at h
  | _,_,.ty _,_,h=> by simp [W.dat] at h
def W.plain (w:W):Prop:=∃n,n≤60∧w.nb n=true
@[simp] theorem W6 {i:Int}:(W.int i).plain:=⟨0,by omega,rfl⟩
@[simp] theorem A30 {i:Str}:(W.str i).plain:=⟨0,by omega,rfl⟩
@[simp] theorem C0M:W.non.plain:=⟨0,by omega,rfl⟩
theorem B5y (n:Nat) (hn:n < 60) {xs:List W} (h:∀x∈xs,x.nb n=true):(W.tup xs).plain:=⟨n+1,hn,A5g h⟩
theorem A5y (n:Nat) (hn:n < 60) {xs:List W} (h:∀x∈xs,x.nb n=true):(W.lst xs).plain:=⟨n+1,hn,B6M h⟩
@[simp] theorem A3v {xs:List Int}:(W.tup (xs.map W.int)).plain:=B5y 0 (by omega) A8k
@[simp] theorem B8h {xs:List Int}:(W.lst (xs.map W.int)).plain:=A5y 0 (by omega) A8k
mutual
theorem eqw_nb:∀(n:Nat) (a b:W) (m:Nat),a.nb n=true→b.nb m=true→(K5 a b=true↔a=b)
  | _,.non,.non,_,_,_=> by simp [K5,W.pd,PyData.eqv]
  | _,.non,.int _,_,_,_=> by simp [K5,W.pd,PyData.eqv]
  | _,.non,.str _,_,_,_=> by simp [K5,W.pd,PyData.eqv]
  | _,.non,.tup _,_,_,_=> by simp [K5,W.pd,PyData.eqv]
  | _,.non,.lst _,_,_,_=> by simp [K5,W.pd,PyData.eqv]
  | _,.int _,.non,_,_,_=> by simp [K5,W.pd,PyData.eqv]
  | _,.int _,.int _,_,_,_=> by simp [K5,W.pd,PyData.eqv]
  | _,.int _,.str _,_,_,_=> by simp [K5,W.pd,PyData.eqv]
  | _,.int _,.tup _,_,_,_=> by simp [K5,W.pd,PyData.eqv]
  | _,.int _,.lst _,_,_,_=> by simp [K5,W.pd,PyData.eqv]
  | _,.str _,.non,_,_,_=> by simp [K5,W.pd,PyData.eqv]
  | _,.str _,.int _,_,_,_=> by simp [K5,W.pd,PyData.eqv]
  | _,.str _,.str _,_,_,_=> by simp [K5,W.pd,PyData.eqv]
  | _,.str _,.tup _,_,_,_=> by simp [K5,W.pd,PyData.eqv]
  | _,.str _,.lst _,_,_,_=> by simp [K5,W.pd,PyData.eqv]
  | _,.tup _,.non,_,_,_=> by simp [K5,W.pd,PyData.eqv]
  | _,.tup _,.int _,_,_,_=> by simp [K5,W.pd,PyData.eqv]
  | _,.tup _,.str _,_,_,_=> by simp [K5,W.pd,PyData.eqv]
  | n+1,.tup xs,.tup ys,m+1,h,g=> by
    have z:=eqws_nb n xs ys m h g
    show PyData.eqvAll (W.pds xs) (W.pds ys)=true↔_
    rw [z]
    simp
  | _,.tup _,.lst _,_,_,_=> by simp [K5,W.pd,PyData.eqv]
  | _,.lst _,.non,_,_,_=> by simp [K5,W.pd,PyData.eqv]
  | _,.lst _,.int _,_,_,_=> by simp [K5,W.pd,PyData.eqv]
  | _,.lst _,.str _,_,_,_=> by simp [K5,W.pd,PyData.eqv]
  | _,.lst _,.tup _,_,_,_=> by simp [K5,W.pd,PyData.eqv]
  | n+1,.lst xs,.lst ys,m+1,h,g=> by
    have z:=eqws_nb n xs ys m h g
    show PyData.eqvAll (W.pds xs) (W.pds ys)=true↔_
    rw [z]
    simp
  | 0,.tup _,.tup _,_,h,_=> by simp [W.nb] at h
  | _,.tup _,.tup _,0,_,h=> by simp [W.nb] at h
  | 0,.lst _,.lst _,_,h,_=> by simp [W.nb] at h
  | _,.lst _,.lst _,0,_,h=> by simp [W.nb] at h
  | _,.bl _,_,_,h,_=> by simp [W.nb] at h
  | _,.dct _ _,_,_,h,_=> by simp [W.nb] at h
  | _,.ref _,_,_,h,_=> by simp [W.nb] at h
  | _,.ty _,_,_,h,_=> by simp [W.nb] at h
  | _,_,.bl _,_,_,h=> by simp [W.nb] at h
  | _,_,.dct _ _,_,_,h=> by simp [W.nb] at h
  | _,_,.ref _,_,_,h=> by simp [W.nb] at h
  | _,_,.ty _,_,_,h=> by simp [W.nb] at h
theorem eqws_nb:∀(n:Nat) (xs ys:List W) (m:Nat),W.nbs n xs=true→W.nbs m ys=true→(PyData.eqvAll (W.pds xs) (W.pds ys)=true↔xs=ys)
  | _,[],[],_,_,_=> by simp [W.pds,PyData.eqvAll]
  | _,[],_::_,_,_,_=> by simp [W.pds,PyData.eqvAll]
  | _,_::_,[],_,_,_=> by simp [W.pds,PyData.eqvAll]
  | n,x::xs,y::ys,m,h,g=> by
    simp only [W.nbs,Bool.and_eq_true] at h g
    have z1:=eqw_nb n x y m h.1 g.1
    have z2:=eqws_nb n xs ys m h.2 g.2
    simp only [W.pds,PyData.eqvAll,Bool.and_eq_true]
    rw [z2,show PyData.eqv x.pd y.pd=K5 x y from rfl,z1]
    simp
end
def SV.pl (x:SV):Prop:=match x with
  | .val w=> w.plain
  | .own c=> c.fz.plain
theorem A71 {w:W} (h:w.plain) (k:AH):viewW k w= .wv w:=by
  obtain ⟨n,_,h⟩:=h
  cases w with
  | ref a=> simp [W.nb] at h
  | _=> rfl
theorem A0n {x:SV} (h:x.pl) (k:AH):(K4 k x).toW=x.fz∧K4 k x≠ .bad∧x.fz.plain:=by
  cases x with
  | val w=>
    have h:w.plain:=h
    refine ⟨by show (viewW k w).toW=w;rw [A71 h];rfl,by show viewW k w≠ .bad;rw [A71 h];exact (fun z=> nomatch z),h⟩
  | own c=> exact ⟨rfl,(fun z=> nomatch z),h⟩
theorem B3B {w:W} (h:w.plain):w.dat 60=true:=by
  obtain ⟨n,hn,h⟩:=h
  exact A53 hn (A5o h)
theorem A8Q {x:SV} (h:x.pl) (k:AH):(K4 k x).ok=true:=by
  obtain ⟨a,b,c⟩:=A0n h k
  have d:=B3B c
  cases e:K4 k x with
  | bad=> exact absurd e b
  | wv w=> rw [e] at a;show w.dat 60=true;rw [show w=x.fz from a];exact d
  | cv w=> rw [e] at a;show w.fz.dat 60=true;rw [show w.fz=x.fz from a];exact d
theorem A4f {x y:SV} {neg:Bool} {k:SV→MC} (hx:x.pl) (hy:y.pl):C7 (B5 neg) x y k=k (.val (.bl (if neg=true then !K5 x.fz y.fz else K5 x.fz y.fz))):=by
  funext h Q E
  unfold C7 B5
  rw [(A0n hx h).1,(A0n hy h).1]
  refine propext ⟨fun z=> z.2.2,fun z=> ⟨A8Q hx h,A8Q hy h,z⟩⟩
noncomputable instance:DecidableEq W:=fun _ _=> Classical.propDecidable _
theorem sp {w:W} (h:w.plain):SV.pl (.val w):=h
theorem so {c:Cont} (h:c.fz.plain):SV.pl (.own c):=h
theorem A2y {x y:SV} {k:Bool→MC} (hx:x.pl) (hy:y.pl):(C7 (B5 false) x y fun r=> W0 r k)=k (decide (x.fz=y.fz)):=by
  rw [A4f hx hy]
  obtain ⟨_,_,n,_,hn⟩:=A0n hx (fun _=> none)
  obtain ⟨_,_,m,_,hm⟩:=A0n hy (fun _=> none)
  have z:=eqw_nb n x.fz y.fz m hn hm
  have:K5 x.fz y.fz=decide (x.fz=y.fz):=by
    by_cases q:x.fz=y.fz
    · rw [z.mpr q,decide_eq_true q]
    · have q':=mt z.mp q
      rw [decide_eq_false q]
      simpa using q'
  rw [this]
  rfl
theorem B0l {x y:SV} {k:Bool→MC} (hx:x.pl) (hy:y.pl):(C7 (B5 true) x y fun r=> W0 r k)=k (!decide (x.fz=y.fz)):=by
  have z:=A2y (k:=fun b=> k (!b)) hx hy
  rw [A4f hx hy] at z ⊢
  simp only [Bool.false_eq_true,if_false,if_true] at z ⊢
  exact z
theorem A4Q {x y:SV} {k:SV→MC} (hx:x.pl) (hy:y.pl):C7 (B5 false) x y k=k (.val (.bl (decide (x.fz=y.fz)))):=by
  rw [A4f hx hy]
  obtain ⟨_,_,n,_,hn⟩:=A0n hx (fun _=> none)
  obtain ⟨_,_,m,_,hm⟩:=A0n hy (fun _=> none)
  have z:=eqw_nb n x.fz y.fz m hn hm
  have:K5 x.fz y.fz=decide (x.fz=y.fz):=by
    by_cases q:x.fz=y.fz
    · rw [z.mpr q,decide_eq_true q]
    · have q':=mt z.mp q
      rw [decide_eq_false q]
      simpa using q'
  rw [this]
  rfl
theorem A56 {x y:SV} {k:SV→MC} (hx:x.pl) (hy:y.pl):C7 (B5 true) x y k=k (.val (.bl (!decide (x.fz=y.fz)))):=by
  have z:=A4Q (k:=fun r=> match r with
    | .val (.bl b)=> k (.val (.bl (!b)))
    | _=> bad) hx hy
  rw [A4f hx hy] at z ⊢
  exact z
theorem A1L {p q:Prop} [Decidable p] [Decidable q] (h:p↔q):decide p=decide q:=decide_eq_decide.mpr h
section
variable {k:SV→MC} {i j:Int} {a b:Str} {as bs:List Int} {xs:List W}
@[simp] theorem x7:C7 (B5 false) (.val (.int i)) (.val (.int j)) k=k (.val (.bl (decide (i=j)))):=by
  rw [A4Q (sp W6) (sp W6),A1L (q:=i=j) (by simp)]
@[simp] theorem A2o:C7 (B5 true) (.val (.int i)) (.val (.int j)) k=k (.val (.bl (!decide (i=j)))):=by
  rw [A56 (sp W6) (sp W6),A1L (q:=i=j) (by simp)]
@[simp] theorem A2k:C7 (B5 false) (.val (.str a)) (.val (.str b)) k=k (.val (.bl (decide (a=b)))):=by
  rw [A4Q (sp A30) (sp A30),A1L (q:=a=b) (by simp)]
@[simp] theorem A9J:C7 (B5 true) (.val (.str a)) (.val (.str b)) k=k (.val (.bl (!decide (a=b)))):=by
  rw [A56 (sp A30) (sp A30),A1L (q:=a=b) (by simp)]
theorem A8Z:W.tup (as.map W.int)=W.tup (bs.map W.int)↔as=bs:=⟨fun e=> by injection e with e;exact A5d e,fun e=> by rw [e]⟩
@[simp] theorem C0m:C7 (B5 false) (.val (.tup (as.map W.int))) (.val (.tup (bs.map W.int))) k=k (.val (.bl (decide (as=bs)))):=by
  rw [A4Q (sp A3v) (sp A3v),D8,D8,A1L (q:=as=bs) A8Z]
@[simp] theorem C0d:C7 (B5 true) (.val (.tup (as.map W.int))) (.val (.tup (bs.map W.int))) k=k (.val (.bl (!decide (as=bs)))):=by
  rw [A56 (sp A3v) (sp A3v),D8,D8,A1L (q:=as=bs) A8Z]
theorem d9 {w:W} {neg:Bool} (hv:∀h,viewW h w= .wv w):C7 (L1 neg) (.val w) (.val .non) k=k (.val (.bl (if neg then !(Vw.wv w).isNon else (Vw.wv w).isNon))):=by
  funext h Q E
  show L1 neg (viewW h w) (.wv .non) _=_
  rw [hv,B7B]
  refine propext ⟨fun z=> z.2,fun z=> ⟨(fun e=> nomatch e),z⟩⟩
@[simp] theorem A5b:C7 (L1 false) (.val .non) (.val .non) k=k (.val (.bl true)):=d9 (fun _=> rfl)
@[simp] theorem A8z:C7 (L1 false) (.val (.int i)) (.val .non) k=k (.val (.bl false)):=d9 (fun _=> rfl)
@[simp] theorem A8g:C7 (L1 false) (.val (.str a)) (.val .non) k=k (.val (.bl false)):=d9 (fun _=> rfl)
@[simp] theorem A83:C7 (L1 false) (.val (.tup xs)) (.val .non) k=k (.val (.bl false)):=d9 (fun _=> rfl)
@[simp] theorem B4y:C7 (L1 false) (.val (.lst xs)) (.val .non) k=k (.val (.bl false)):=d9 (fun _=> rfl)
@[simp] theorem B3z:C7 (L1 true) (.val .non) (.val .non) k=k (.val (.bl false)):=d9 (fun _=> rfl)
@[simp] theorem B8Y:C7 (L1 true) (.val (.int i)) (.val .non) k=k (.val (.bl true)):=d9 (fun _=> rfl)
@[simp] theorem B8c:C7 (L1 true) (.val (.str a)) (.val .non) k=k (.val (.bl true)):=d9 (fun _=> rfl)
@[simp] theorem B4Q:C7 (L1 true) (.val (.tup xs)) (.val .non) k=k (.val (.bl true)):=d9 (fun _=> rfl)
@[simp] theorem B8R:C7 (L1 true) (.val (.lst xs)) (.val .non) k=k (.val (.bl true)):=d9 (fun _=> rfl)
end
end Ab
namespace Ab
open PySem PySem.Spec PyProof.Rows L2 RZ
abbrev CL:=(Addr→List W→MC)→MC
def B67 (a:CW) (u:CL):CL:=fun k=> a fun w=> u fun f ws=> k f (w::ws)
def B7d (b:CE):List W→MC
  | []=> b ret
  | _=> bad
def B7v (b:W→CE):List W→MC
  | [w]=> b w ret
  | _=> bad
def B33 (m:Addr→List W→MC) (l:CL):CE:=fun k=> l fun f ws=> call (m f ws) k
section
variable {Q:RR→AH→Prop} {E:AExc→AH→Prop} {env:A1} {h:AH} {k:SV→MC}
@[simp] theorem B8K {m:Addr→List W→MC} {l:CL}:B33 m l k=l fun f ws=> call (m f ws) k:=rfl
@[simp] theorem B9h {a:CW} {u:CL} {k:Addr→List W→MC}:B67 a u k=a fun w=> u fun f ws=> k f (w::ws):=rfl
@[simp] theorem B8b {b:CE}:B7d b []=b ret:=rfl
@[simp] theorem B8P {b:W→CE} {w:W}:B7v b [w]=b w ret:=rfl
def A5j (x word:Str) (fs:List Str) (ma:C2):MC:=ma fun ws=> w9 ⟨x,initF (W.str word) fs ws⟩
@[simp] theorem B4F {x word:Str} {fs:List Str} {ma:C2}:A5j x word fs ma=ma fun ws=> w9 ⟨x,initF (W.str word) fs ws⟩:=rfl
theorem B36 {E':AExc→A1→AH→Prop} {D:AEnds} {x word:Str} {fs:List Str} {ta:E4} {ma:C2} (hE:∀x h,E x h→E' x env h) (a:SA Q E env ta ma):∀h,A5j x word fs ma h Q E→A5n E' x word fs ta D env h:=fun h z=>
  a h (fun ws=> w9 ⟨x,initF (W.str word) fs ws⟩) (fun ws env1 h1=> E' ⟨x,initF (W.str word) fs ws⟩ env1 h1) (fun ws h1 y=> hE _ _ y) z
def A2g (ks:List Str):List (Str×XT)→(W→MC)→AExc→MC
  | [],_,x=> w9 x
  | (c,sv)::r,k,x=> fun h Q E=> x.n∈ks∧if A0T x.n c=true then sv x (fun w=> k w h Q E) else A2g ks r k x h Q E
inductive MonoL2:List (Str×XT)→Prop where
  | nil:MonoL2 []
  | cons {c:Str} {sv:XT} {l:List (Str×XT)} (m:A6W sv) (t:MonoL2 l):MonoL2 ((c,sv)::l)
theorem B6K {f:Str}:A6W (A2x f):=fun x K K' k ⟨w,e,q⟩=> ⟨w,e,k _ q⟩
theorem A8N {E':AExc→A1→AH→Prop} {D:AEnds} {ks:List Str} {i j:Nat} {k:W→MC} (hi:i < env.length) (N:∀w h,k w h Q E→D.nx ((env.set j (some (.val w))).set i none) h) (hE:∀x h,E x h→E' x env h):
    ∀{l:List (Str×XT)},MonoL2 l→∀x h,A2g ks l k x h Q E→A0y ks (l.map fun p=> (p.1,i,j,p.2)) E' D x env h
  | _,.nil,x,h,z=> hE x h z
  | _,.cons m t,x,h,z=> by
    obtain ⟨z1,z2⟩:=z
    refine ⟨z1,hi,?_⟩
    split at z2
    · rename_i b
      rw [if_pos b]
      exact m x _ _ (fun w y=> N w h y) z2
    · rename_i b
      rw [if_neg b]
      exact A8N hi N hE t x h z2
def A4a (b:(W→MC)→MC) (k0 k:W→MC) (hd:(W→MC)→AExc→MC):MC:=fun h Q E=> b (fun s h' _ _=> k0 s h' Q E) h Q fun x h'=> hd k x h' Q E
theorem B3Z {b:(W→MC)→MC} {k0 k:W→MC} {hd:(W→MC)→AExc→MC} {w:W} (e:∀kk:W→MC,b kk=kk w):A4a b k0 k hd=k0 w:=by
  funext h Q E
  show b _ h Q _=_
  rw [e]
theorem B3K {b:(W→MC)→MC} {k0 k:W→MC} {hd:(W→MC)→AExc→MC} {x:AExc} (e:∀kk:W→MC,b kk=w9 x):A4a b k0 k hd=hd k x:=by
  funext h Q E
  show b _ h Q _=_
  rw [e]
  rfl
theorem B4a {E':AExc→A1→AH→Prop} {D:AEnds} {ks:List Str} {i j:Nat} {envB:W→A1} {k0 k:W→MC} {b:(W→MC)→MC} {l:List (Str×XT)} {t:(AExc→A1→AH→Prop)→C4} (no:f7 env=true) (hi:i < env.length) (ml:MonoL2 l) (hE:∀x h,E x h→E' x env h)
    (N0:∀w h,k0 w h Q E→D.nx (envB w) h) (N:∀w h,k w h Q E→D.nx ((env.set j (some (.val w))).set i none) h)
    (hb:∀(E2:AExc→AH→Prop) (Ein:AExc→A1→AH→Prop) (hz:∀x h,E2 x h→Ein x env h) (kk:W→MC),(∀w h,kk w h Q E2→D.nx (envB w) h)→∀h,b kk h Q E2→t Ein D env h):
    ∀h,A4a b k0 k (A2g ks l) h Q E→A6j ks (l.map fun p=> (p.1,i,j,p.2)) E' t D env h:=fun h z=>
  ⟨no,fun x e g=> A0y ks (l.map fun p=> (p.1,i,j,p.2)) E' D x e g,fun _ _ _ y=> y,hb (fun x h'=> A2g ks l k x h' Q E) _ (fun x h' y=> A8N hi N hE ml x h' y) (fun s h' _ _=> k0 s h' Q E) (fun w h' y=> N0 w h' y) h z⟩
end
end Ab
namespace Ab
open PySem PySem.Spec PyProof.Rows L2 RZ
section
variable {Q:RR→AH→Prop} {E:AExc→AH→Prop} {env:A1} {D:AEnds}
end
def getT (x:SV) (w:W) (k:SV→MC):MC:=fun h Q E=> ∃(l:List (List Int×W)) (ns:List Int) (v:W),x= .own (.map (A1h l))∧w= .tup (ns.map .int)∧A2v l ns=some v∧k (.val v) h Q E
section
variable {Q:RR→AH→Prop} {E:AExc→AH→Prop} {env:A1} {D:AEnds} {k:SV→MC} {h:AH}
end
end Ab
namespace Ab
open PySem PySem.Spec PyProof.Rows L2 RZ
def B61:I7:=oII A93 fun i j=> .int (i ^ j.toNat)
section
variable {i j:Int} {k:SV→MC}
@[simp] theorem C0R:C7 B61 (.val (.int i)) (.val (.int j)) k=E8 (A93 i j) (k (.val (.int (i ^ j.toNat)))):=rfl
end
def idx (x:SV) (ws:List W) (k:SV→MC):MC:=fun h Q E=> oIndexW (K4 h x) ws fun r=> Y3 k r h Q E
def A4k (x:SV) (m:MC):MC:=fun h Q E=> (∃ns:List Int,(K4 h x).seq=some (ns.map W.int))∧m h Q E
def B7c (a:CE) (ma:C2):CE:=fun k=> a fun x=> A4k x (ma fun ws=> idx x ws k)
section
variable {Q:RR→AH→Prop} {E:AExc→AH→Prop} {env:A1} {t:AT} {m:CE} {ta:E4} {ma:C2} {k:SV→MC} {ns:List Int} {x:Int}
@[simp] theorem C0c {a:CE}:B7c a ma k=a fun x=> A4k x (ma fun ws=> idx x ws k):=rfl
@[simp] theorem B8j {m:MC}:A4k (.own (.seq (ns.map W.int))) m=m:=by
  funext h Q E
  exact propext ⟨fun z=> z.2,fun z=> ⟨⟨ns,rfl⟩,z⟩⟩
@[simp] theorem B8V {m:MC}:A4k (.val (.lst (ns.map W.int))) m=m:=by
  funext h Q E
  exact propext ⟨fun z=> z.2,fun z=> ⟨⟨ns,rfl⟩,z⟩⟩
end
def y7 (n0 m0:Nat) (perm:List Nat) (ds us ws:List W) (k:List W→MC):MC:=E8 (us.length=n0∧ws.length=m0) (k (perm.map fun i=> (us++(ws++ds)).getD i .non))
def wMx (n0 m0:Nat) (perm:List Nat) (ds:List W) (a b:C2):C2:=fun k=> a fun us=> b fun ws=> y7 n0 m0 perm ds us ws k
@[simp] theorem C0q {n0 m0:Nat} {perm:List Nat} {ds:List W} {a b:C2} {k:List W→MC}:wMx n0 m0 perm ds a b k=a fun us=> b fun ws=> y7 n0 m0 perm ds us ws k:=rfl
theorem A1P {n0 m0:Nat} {perm:List Nat} {ds us ws:List W} {k:List W→MC} (h:us.length=n0∧ws.length=m0):y7 n0 m0 perm ds us ws k=k (perm.map fun i=> (us++(ws++ds)).getD i .non):=D1 h
section
variable {Q:RR→AH→Prop} {E:AExc→AH→Prop} {env:A1} {ta tb:E4} {ma mb:C2}
end
theorem A8j {neg x y:Bool} {k:SV→MC}:C7 (A6v neg) (.val (.bl x)) (.val (.bl y)) k=k (.val (.bl (if neg then !decide (x=y) else decide (x=y)))):=by
  funext h Q E
  refine propext ⟨fun ⟨u,v,e1,e2,q⟩=> ?_,fun q=> ⟨x,y,rfl,rfl,q⟩⟩
  cases e1
  cases e2
  exact q
@[simp] theorem C0a {x y:Bool} {k:SV→MC}:C7 (A6v false) (.val (.bl x)) (.val (.bl y)) k=k (.val (.bl (decide (x=y)))):=A8j
@[simp] theorem C0P {x y:Bool} {k:SV→MC}:C7 (A6v true) (.val (.bl x)) (.val (.bl y)) k=k (.val (.bl (!decide (x=y)))):=A8j
section
variable {a b c d e f x:W} {k:List W→MC}
@[simp] theorem C0S:y7 3 2 [0,1,2,3,4] [] [a,b,c] [d,e] k=k [a,b,c,d,e]:=by rw [A1P (by exact ⟨rfl,rfl⟩)];rfl
@[simp] theorem B9X:y7 3 2 [0,1,2,4,3] [] [a,b,c] [d,e] k=k [a,b,c,e,d]:=by rw [A1P (by exact ⟨rfl,rfl⟩)];rfl
@[simp] theorem C0J:y7 0 5 [4,3,2,1,0] [] [] [a,b,c,d,e] k=k [e,d,c,b,a]:=by rw [A1P (by exact ⟨rfl,rfl⟩)];rfl
@[simp] theorem B9t:y7 3 1 [0,1,2,3,4] [x] [a,b,c] [d] k=k [a,b,c,d,x]:=by rw [A1P (by exact ⟨rfl,rfl⟩)];rfl
@[simp] theorem B99:y7 4 2 [0,1,2,3,4,5] [] [a,b,c,d] [e,f] k=k [a,b,c,d,e,f]:=by rw [A1P (by exact ⟨rfl,rfl⟩)];rfl
@[simp] theorem B8z:y7 0 5 [4,3,2,1,0,5] [x] [] [a,b,c,d,e] k=k [e,d,c,b,a,x]:=by rw [A1P (by exact ⟨rfl,rfl⟩)];rfl
end
def A4q (x:SV) (k:SV→MC):MC:=fun h Q E=> ∃xs,(K4 h x).seq=some xs∧k (.own (.seq xs.reverse)) h Q E
def B6l (a:CE):CE:=fun k=> a fun x=> A4q x k
section
variable {Q:RR→AH→Prop} {E:AExc→AH→Prop} {env:A1} {t:AT} {m:CE} {k:SV→MC} {xs:List W}
@[simp] theorem C0E {a:CE}:B6l a k=a fun x=> A4q x k:=rfl
@[simp] theorem B8f:A4q (.own (.seq xs)) k=k (.own (.seq xs.reverse)):=by
  funext h Q E
  exact propext ⟨fun ⟨ys,e,z⟩=> by cases e;exact z,fun z=> ⟨xs,rfl,z⟩⟩
@[simp] theorem B8a:A4q (.val (.lst xs)) k=k (.own (.seq xs.reverse)):=by
  funext h Q E
  exact propext ⟨fun ⟨ys,e,z⟩=> by cases e;exact z,fun z=> ⟨xs,rfl,z⟩⟩
end
end Ab
namespace Ab
open PySem PySem.Spec PyProof.Rows L2 RZ
def A9d (w:W) (k:SV→MC):MC:=fun h Q E=> oLenSet [.wv w] fun r=> Y3 k r h Q E
def B5V (mk:CW):CE:=fun k=> mk fun w=> A9d w k
section
variable {Q:RR→AH→Prop} {E:AExc→AH→Prop} {env:A1} {t:B9} {mk:CW} {k:SV→MC} {ns:List Int} {h:AH}
@[simp] theorem B8M:B5V mk k=mk fun w=> A9d w k:=rfl
end
def pr3 (ws:List W) (k:W→W→W→MC):MC:=match ws with
  | [a,b,c]=> k a b c
  | _=> bad
def B6z (ma:C2) (k:W→W→W→MC):MC:=ma fun ws=> pr3 ws k
@[simp] theorem B9P {a:C2} {k:W→W→W→MC}:B6z a k=a fun ws=> pr3 ws k:=rfl
@[simp] theorem C0U {x y z:W} {k:W→W→W→MC}:pr3 [x,y,z] k=k x y z:=rfl
end Ab
namespace Ab
open PySem PySem.Spec PyProof.Rows L2 RZ
def B0i (n f:Str) (x:SV) (k:SV→MC):MC:=fun h Q E=> match x with
  | .val (.ref a)=> ∃fs w,h a=some (.ins n fs)∧fs.lookup f=some w∧k (.val w) h Q E
  | _=> False
def B7Y (n f:Str) (m:CE):CE:=fun k=> m fun x=> B0i n f x k
def A0U (n f:Str) (x:SV) (w:W) (k:MC):MC:=fun h Q E=> match x with
  | .val (.ref a)=> ∃fs,h a=some (.ins n fs)∧fs.length < 1000∧k (H7 h a (.ins n (A4n f w fs))) Q E
  | _=> False
def B7N (n f:Str) (mv:CW) (m:CE) (k:MC):MC:=mv fun w=> m fun x=> A0U n f x w k
def B7q (n f:Str) (mv:CW) (m:W→CE) (k:W→MC):MC:=mv fun w=> un2 w fun a b=> m a fun x=> A0U n f x b (k a)
def ffC (n f n2 g:Str) (mv:CW) (m m2:CE) (k:MC):MC:=mv fun w=> un2 w fun a b=> m fun x=> A0U n f x a (m2 fun y=> A0U n2 g y b k)
def asO (C nm:Str) (x:SV) (k:Addr→MC):MC:=fun h Q E=> match x with
  | .val (.ref a)=> (∃fs,h a=some (.ins C fs)∧fs.lookup nm=none)∧k a h Q E
  | _=> False
def B6h (C nm:Str) (f:List W→MC) (mo:CE) (ma:C2):CE:=fun k=> mo fun x=> asO C nm x fun a=> ma fun ws=> call (f (.ref a::ws)) k
def B5m (C nm:Str) (f:List W→MC) (mo:CE) (ma:C2):CE:=fun k=> mo fun x=> asO C nm x fun a=> ma fun ws=> call0 (f (.ref a::ws)) k
def mxW (n0 m0:Nat) (P:List Nat) (ds us zs:List W) (k:List W→MC):MC:=E8 (us.length=n0∧zs.length=m0) (k (P.map fun i=> (us++(zs++ds)).getD i .non))
def B5q (C nm:Str) (f:List W→MC) (n0 m0:Nat) (P:List Nat) (ds:List W) (mo:CE) (ma mk:C2):CE:=fun k=> mo fun x=> asO C nm x fun a=> ma fun ws=> mk fun zs=> mxW (n0+1) m0 P ds (.ref a::ws) zs fun vs=> call (f vs) k
def B5H (C nm:Str) (f:List W→MC) (n0 m0:Nat) (P:List Nat) (ds:List W) (mo:CE) (ma mk:C2):CE:=fun k=> mo fun x=> asO C nm x fun a=> ma fun ws=> mk fun zs=> mxW (n0+1) m0 P ds (.ref a::ws) zs fun vs=> call0 (f vs) k
def mkX (C:Str) (f:Addr→MC) (k:SV→MC):MC:=fun h Q E=> ∀a,h a=none→f a (H7 h a (.ins C [])) (fun r h2=> r= .val .non∧k (.val (.ref a)) h2 Q E) E
def A4m (C:Str) (f:Addr→MC) (k:SV→MC):MC:=fun h Q E=> ∀a,h a=none→f a (H7 h a (.ins C [])) (fun r h2=> r= .val .non∧k (.val (.ref a)) h2 Q E) fun _ _=> False
def B6X (C:Str) (f:List W→MC) (ma:C2):CE:=fun k=> ma fun ws=> mkX C (fun a=> f (.ref a::ws)) k
def B5a (C:Str) (f:List W→MC) (ma:C2):CE:=fun k=> ma fun ws=> A4m C (fun a=> f (.ref a::ws)) k
def B6A (C:Str) (f:List W→MC) (n0 m0:Nat) (P:List Nat) (ds:List W) (ma mk:C2):CE:=fun k=> ma fun ws=> mk fun zs=> E8 (ws.length=n0∧zs.length=m0) (mkX C (fun a=> f (P.map fun i=> ((.ref a::ws)++(zs++ds)).getD i .non)) k)
def B4Z (C:Str) (f:List W→MC) (n0 m0:Nat) (P:List Nat) (ds:List W) (ma mk:C2):CE:=fun k=> ma fun ws=> mk fun zs=> E8 (ws.length=n0∧zs.length=m0) (A4m C (fun a=> f (P.map fun i=> ((.ref a::ws)++(zs++ds)).getD i .non)) k)
def B0U (C:Str) (f:List W→MC) (po:RR→(RV→Prop)→Prop) (x:SV) (k:SV→MC):MC:=fun h Q E=> match x with
  | .val (.ref a)=> ∃fs,h a=some (.ins C fs)∧f [.ref a] h (fun r h2=> po r fun y=> Y3 k y h2 Q E) fun _ _=> False
  | _=> False
def B7e (C:Str) (f:List W→MC) (po:RR→(RV→Prop)→Prop) (m:CE):CE:=fun k=> m fun x=> B0U C f po x k
def eqX (C:Str) (neg:Bool) (f:List W→MC) (x y:SV) (k:SV→MC):MC:=fun h Q E=> match x,y with
  | .val (.ref a),.val (.ref b)=> (∃fs gs,h a=some (.ins C fs)∧h b=some (.ins C gs))∧f [.ref a,.ref b] h (fun r h2=> ∃c:Bool,r= .val (.bl c)∧k (.val (.bl (if neg=true then !c else c))) h2 Q E) fun _ _=> False
  | _,_=> False
def B7T (C:Str) (neg:Bool) (f:List W→MC) (m m2:CE):CE:=fun k=> m fun x=> m2 fun y=> eqX C neg f x y k
def B0O (n:Str) (b:Bool) (x:SV) (k:SV→MC):MC:=fun h Q E=> match x with
  | .val (.ref a)=> (∃fs,h a=some (.ins n fs))∧k (.val (.bl b)) h Q E
  | _=> False
def B7l (n:Str) (b:Bool) (m:CE):CE:=fun k=> m fun x=> B0O n b x k
def inX (neg:Bool) (w:W) (x:SV) (k:SV→MC):MC:=fun h Q E=> inM neg (K4 h x) w fun r=> Y3 k r h Q E
def B7w (neg:Bool) (mk:CW) (m:CE):CE:=fun k=> mk fun w=> m fun x=> inX neg w x k
def B0F (x:SV) (w:W) (k:SV→MC):MC:=fun h Q E=> B0P (K4 h x) w fun r=> Y3 k r h Q E
def B7J (m:CE) (mk:CW):CE:=fun k=> m fun x=> mk fun w=> B0F x w k
def A1f (x:SV) (w v:W) (k:SV→MC):MC:=fun h Q E=> match x with
  | .own (.map kvs)=> ∃l s,kvs=smap l∧w= .str s∧l.length < sizeLine∧k (.own (.map (smap (A23 l s v)))) h Q E
  | .val (.ref a)=> ∃l s,h a=some (.cont (.map (smap l)))∧w= .str s∧l.length < sizeLine∧k (.val (.ref a)) (H7 h a (.cont (.map (smap (A23 l s v))))) Q E
  | _=> False
def B6m (mv:CW) (x:SV) (mk:CW) (k:SV→MC):MC:=mv fun v=> mk fun w=> A1f x w v k
def Z3 (x:SV) (w v:W) (k:MC):MC:=fun h Q E=> match x with
  | .val (.ref a)=> ∃l s,h a=some (.cont (.map (smap l)))∧w= .str s∧l.length < sizeLine∧k (H7 h a (.cont (.map (smap (A23 l s v))))) Q E
  | _=> False
def B6W (mv:CW) (m:CE) (mk:CW) (k:MC):MC:=mv fun v=> m fun x=> mk fun w=> Z3 x w v k
def A4r (x:SV) (w:W) (k:MC):MC:=fun h Q E=> match x with
  | .val (.ref a)=> ∃l s,h a=some (.cont (.map (smap l)))∧w= .str s∧(l.lookup s).isSome=true∧k (H7 h a (.cont (.map (smap (B0A l s))))) Q E
  | _=> False
def B7M (m:CE) (mk:CW) (k:MC):MC:=m fun x=> mk fun w=> A4r x w k
def B54:CE:=fun k=> k (.own (.map (smap [])))
def A1m (x:SV) (k:(AH→Prop)→List W→MC):MC:=fun h Q E=> match x with
  | .val (.ref a)=> ∃ws,h a=some (.cont (.seq ws))∧k (fun g=> g a=some (.cont (.seq ws))) ws h Q E
  | .val (.lst ws)=> k (fun _=> True) ws h Q E
  | .val (.tup ws)=> k (fun _=> True) ws h Q E
  | _=> False
abbrev Z6:=((AH→Prop)→List W→MC)→MC
def B6d (m:CE):Z6:=fun k=> m fun x=> A1m x k
def B7y (m:CE):Z6:=fun k=> m fun x=> A1m x fun ok ws=> k ok (enW ws)
def B7a (m:C2):Z6:=fun k=> m fun ws=> k (fun _=> True) ws
def A1Y (ok:AH→Prop) (m:MC):MC:=fun h Q E=> ok h∧m h Q E
def A6O {σ:Type} (ok:AH→Prop) (body:W→σ→(σ→MC)→(σ→MC)→MC) (k:σ→MC):List W→σ→MC
  | [],s=> A1Y ok (k s)
  | w::ws,s=> A1Y ok (body w s (A6O ok body k ws) k)
def B6Z {σ:Type} (mi:Z6) (s0:σ) (body:W→σ→(σ→MC)→(σ→MC)→MC) (k:σ→MC):MC:=mi fun ok ws=> A6O ok body k ws s0
def A1k (ok:AH→Prop) (body:W→(Option W→MC)→MC) (k:List W→MC):List W→List W→MC
  | [],acc=> A1Y ok (k acc)
  | w::ws,acc=> A1Y ok (body w fun o=> match o with
    | some y=> E8 (acc.length < sizeLine) (A1k ok body k ws (acc++[y]))
    | none=> A1k ok body k ws acc)
def B7r (mi:Z6) (body:W→(Option W→MC)→MC):CE:=fun k=> mi fun ok ws=> A1k ok body (fun acc=> k (.own (.seq acc))) ws []
def A6d (ok:AH→Prop) (body:W→List W→(List W→MC)→MC) (k:List W→MC):List W→List W→MC
  | [],acc=> A1Y ok (k acc)
  | w::ws,acc=> A1Y ok (body w acc (A6d ok body k ws))
def B7f (mi:Z6) (body:W→List W→(List W→MC)→MC):CE:=fun k=> mi fun ok ws=> A6d ok body (fun acc=> k (.own (.seq acc))) ws []
def B7R (mt:CB) (mi:Z6) (body:W→(Option W→MC)→MC) (acc:List W) (kk:List W→MC):MC:=mt fun b=> if b=true then mi fun ok ws=> A1k ok body kk ws acc else kk acc
def dcM (mv:W→W→CW) (K:List (Str×W)→Prop) (Q:RR→AH→Prop) (E:AExc→AH→Prop):List (Str×W)→List (Str×W)→Prop
  | [],acc=> W.nodcts (acc.map (·.2))=true∧K acc
  | p::r,acc=> mv (.str p.1) p.2 (fun u=> fun _ _ _=> acc.length < sizeLine∧dcM mv K Q E r (A23 acc p.1 u)) (fun _=> none) Q E
def dcX (n f:Str) (x:SV) (mv:W→W→CW) (k:SV→MC):MC:=fun h Q E=> match x with
  | .val (.ref s)=> ∃fs q l,h s=some (.ins n fs)∧fs.lookup f=some (.ref q)∧h q=some (.cont (.map (smap l)))∧dcM mv (fun acc=> k (.own (.map (smap acc))) h Q E) Q E l []
  | _=> False
def B7U (n f:Str) (x:SV) (mv:W→W→CW):CE:=fun k=> dcX n f x mv k
def B0a (x:SV) (k:Str→MC):MC:=fun h Q E=> fmtV (K4 h x) fun y=> k y h Q E
def B7i (m:CE):CE:=fun k=> m fun x=> B0a x fun y=> k (.val (.str y))
def asS (x:SV) (k:Str→MC):MC:=fun h Q E=> match x with
  | .val (.str y)=> k y h Q E
  | _=> False
def jsM:List CE→Str→(Str→MC)→MC
  | [],acc,k=> k acc
  | m::ms,acc,k=> m fun x=> asS x fun y=> E8 ((acc++y).length≤sizeLine) (jsM ms (acc++y) k)
def B4z (ms:List CE):CE:=fun k=> jsM ms Str.empty fun s=> k (.val (.str s))
section
variable {Q:RR→AH→Prop} {E:AExc→AH→Prop} {env:A1} {t t1 t2:AT} {m m1 m2:CE} {tv tv2:B9} {mv mv2:CW} {ta tk:E4} {ma mk:C2} {tb:G3} {mb:CB} {D:AEnds} {i j:Nat}
end
end Ab
namespace Ab
open PySem PySem.Spec PyProof.Rows L2 RZ
def B0X (f:P5) (x:SV) (ma:C2) (k:SV→MC):MC:=fun h Q E=> match x with
  | .val (.ref p)=> (∃xs,h p=some (.cont (.seq xs)))∧(ma fun ws=> fun h2 Q E=> match h2 p with
    | some (.cont (.seq xs))=> f xs ws fun xs' w=> k (.val w) (H7 h2 p (.cont (.seq xs'))) Q E
    | _=> False) h Q E
  | _=> False
def B7Z (f:P5) (m:CE) (ma:C2):CE:=fun k=> m fun x=> B0X f x ma k
section
variable {Q:RR→AH→Prop} {E:AExc→AH→Prop} {env:A1} {t t1 t2:AT} {m m1 m2:CE} {tv tv2:B9} {mv mv2:CW} {ta tk:E4} {ma mk:C2} {tb:G3} {mb:CB} {D:AEnds} {i j:Nat} {ti:Z9} {mi:Z6}
theorem B5Z {s:Str} {r:RV} (rl:Rl env r (.val (.str s))):r= .val (.str s):=by
  cases r with
  | val w=> cases rl;rfl
  | own c=> cases rl
  | slot i=> obtain ⟨c,e,_⟩:=rl;cases e
inductive SJ (Q:RR→AH→Prop) (E:AExc→AH→Prop) (env:A1):List AT→List CE→Prop where
  | nil:SJ Q E env [] []
  | cons {t:AT} {m:CE} {ts:List AT} {ms:List CE} (a:SE Q E env t m) (r:SJ Q E env ts ms):SJ Q E env (t::ts) (m::ms)
end
theorem A5S:X1 oMulX:=oMulX.mono
end Ab
namespace Ab
open PySem PySem.Spec PyProof.Rows L2 RZ
def A1O (m:CE):C2:=fun k=> m fun x=> asS x fun s=> k (g7 s)
def B60 (mv:CW) (m1:CE) (mk1:CW) (m2:CE) (mk2:CW) (k:MC):MC:=mv fun w=> un2 w fun a b=> m1 fun x=> mk1 fun w1=> Z3 x w1 a (m2 fun y=> mk2 fun w2=> Z3 y w2 b k)
def un4 (w:W) (k:W→W→W→W→MC):MC:=match w with
  | .tup [a,b,c,d]=> k a b c d
  | _=> bad
section
variable {Q:RR→AH→Prop} {E:AExc→AH→Prop} {env:A1} {t t1 t2:AT} {m m1 m2:CE} {tv tv2 tk1 tk2:B9} {mv mv2 mk1 mk2:CW} {D:AEnds} {i j:Nat}
theorem A3i (a:SE Q E env t m):SA Q E env (A1g t) (A1O m):=fun h k K hk z=> a h _ _ (fun r x h' rl z=> by
  unfold asS at z
  split at z
  · exact ⟨_,B5Z rl,hk _ _ z⟩
  · exact z.elim) z
end
theorem A4D {neg:Bool}:X1 (oInS neg):=oInS.mono
section
variable {Q:RR→AH→Prop} {E:AExc→AH→Prop} {h:AH}
@[simp] theorem B9T {a b c d:W} {k:W→W→W→W→MC}:un4 (.tup [a,b,c,d]) k=k a b c d:=rfl
@[simp] theorem A3w {s:Str} {k:Str→MC}:asS (.val (.str s)) k=k s:=rfl
@[simp] theorem A3k {m:CE} {k:List W→MC}:A1O m k=m fun x=> asS x fun s=> k (g7 s):=rfl
@[simp] theorem B85 {mv:CW} {m1 m2:CE} {mk1 mk2:CW} {k:MC}:B60 mv m1 mk1 m2 mk2 k=mv fun w=> un2 w fun a b=> m1 fun x=> mk1 fun w1=> Z3 x w1 a (m2 fun y=> mk2 fun w2=> Z3 y w2 b k):=rfl
@[simp] theorem C0k {n f:Str} {m:CE} {k:SV→MC}:B7Y n f m k=m fun x=> B0i n f x k:=rfl
@[simp] theorem B9C {n f:Str} {mv:CW} {m:CE} {k:MC}:B7N n f mv m k=mv fun w=> m fun x=> A0U n f x w k:=rfl
@[simp] theorem C0D {n f:Str} {mv:CW} {m:W→CE} {k:W→MC}:B7q n f mv m k=mv fun w=> un2 w fun a b=> m a fun x=> A0U n f x b (k a):=rfl
@[simp] theorem C0V {n f n2 g:Str} {mv:CW} {m m2:CE} {k:MC}:ffC n f n2 g mv m m2 k=mv fun w=> un2 w fun a b=> m fun x=> A0U n f x a (m2 fun y=> A0U n2 g y b k):=rfl
@[simp] theorem C0N {C nm:Str} {f:List W→MC} {mo:CE} {ma:C2} {k:SV→MC}:B6h C nm f mo ma k=mo fun x=> asO C nm x fun a=> ma fun ws=> call (f (.ref a::ws)) k:=rfl
@[simp] theorem B8n {C nm:Str} {f:List W→MC} {mo:CE} {ma:C2} {k:SV→MC}:B5m C nm f mo ma k=mo fun x=> asO C nm x fun a=> ma fun ws=> call0 (f (.ref a::ws)) k:=rfl
@[simp] theorem B9K {C nm:Str} {f:List W→MC} {n0 m0:Nat} {P:List Nat} {ds:List W} {mo:CE} {ma mk:C2} {k:SV→MC}:B5q C nm f n0 m0 P ds mo ma mk k=mo fun x=> asO C nm x fun a=> ma fun ws=> mk fun zs=> mxW (n0+1) m0 P ds (.ref a::ws) zs fun vs=> call (f vs) k:=rfl
@[simp] theorem B8S {C nm:Str} {f:List W→MC} {n0 m0:Nat} {P:List Nat} {ds:List W} {mo:CE} {ma mk:C2} {k:SV→MC}:B5H C nm f n0 m0 P ds mo ma mk k=mo fun x=> asO C nm x fun a=> ma fun ws=> mk fun zs=> mxW (n0+1) m0 P ds (.ref a::ws) zs fun vs=> call0 (f vs) k:=rfl
@[simp] theorem B9x {C:Str} {f:List W→MC} {ma:C2} {k:SV→MC}:B6X C f ma k=ma fun ws=> mkX C (fun a=> f (.ref a::ws)) k:=rfl
@[simp] theorem B9O {C:Str} {f:List W→MC} {ma:C2} {k:SV→MC}:B5a C f ma k=ma fun ws=> A4m C (fun a=> f (.ref a::ws)) k:=rfl
@[simp] theorem B9S {C:Str} {f:List W→MC} {n0 m0:Nat} {P:List Nat} {ds:List W} {ma mk:C2} {k:SV→MC}:B6A C f n0 m0 P ds ma mk k=ma fun ws=> mk fun zs=> E8 (ws.length=n0∧zs.length=m0) (mkX C (fun a=> f (P.map fun i=> ((.ref a::ws)++(zs++ds)).getD i .non)) k):=rfl
@[simp] theorem B8X {C:Str} {f:List W→MC} {n0 m0:Nat} {P:List Nat} {ds:List W} {ma mk:C2} {k:SV→MC}:B4Z C f n0 m0 P ds ma mk k=ma fun ws=> mk fun zs=> E8 (ws.length=n0∧zs.length=m0) (A4m C (fun a=> f (P.map fun i=> ((.ref a::ws)++(zs++ds)).getD i .non)) k):=rfl
@[simp] theorem C0p {C:Str} {f:List W→MC} {po:RR→(RV→Prop)→Prop} {m:CE} {k:SV→MC}:B7e C f po m k=m fun x=> B0U C f po x k:=rfl
@[simp] theorem C0o {C:Str} {neg:Bool} {f:List W→MC} {m m2:CE} {k:SV→MC}:B7T C neg f m m2 k=m fun x=> m2 fun y=> eqX C neg f x y k:=rfl
@[simp] theorem C0W {n:Str} {b:Bool} {m:CE} {k:SV→MC}:B7l n b m k=m fun x=> B0O n b x k:=rfl
@[simp] theorem C0n {neg:Bool} {mk:CW} {m:CE} {k:SV→MC}:B7w neg mk m k=mk fun w=> m fun x=> inX neg w x k:=rfl
@[simp] theorem C0O {m:CE} {mk:CW} {k:SV→MC}:B7J m mk k=m fun x=> mk fun w=> B0F x w k:=rfl
@[simp] theorem B8x {mv:CW} {x:SV} {mk:CW} {k:SV→MC}:B6m mv x mk k=mv fun v=> mk fun w=> A1f x w v k:=rfl
@[simp] theorem B9Y {mv:CW} {m:CE} {mk:CW} {k:MC}:B6W mv m mk k=mv fun v=> m fun x=> mk fun w=> Z3 x w v k:=rfl
@[simp] theorem B8w {m:CE} {mk:CW} {k:MC}:B7M m mk k=m fun x=> mk fun w=> A4r x w k:=rfl
@[simp] theorem B8v {k:SV→MC}:B54 k=k (.own (.map (smap []))):=rfl
@[simp] theorem B9b {m:CE} {k:(AH→Prop)→List W→MC}:B6d m k=m fun x=> A1m x k:=rfl
@[simp] theorem B96 {m:CE} {k:(AH→Prop)→List W→MC}:B7y m k=m fun x=> A1m x fun ok ws=> k ok (enW ws):=rfl
@[simp] theorem B94 {m:C2} {k:(AH→Prop)→List W→MC}:B7a m k=m fun ws=> k (fun _=> True) ws:=rfl
@[simp] theorem B9V {σ:Type} {mi:Z6} {s0:σ} {body:W→σ→(σ→MC)→(σ→MC)→MC} {k:σ→MC}:B6Z mi s0 body k=mi fun ok ws=> A6O ok body k ws s0:=rfl
@[simp] theorem C0l {mi:Z6} {body:W→(Option W→MC)→MC} {k:SV→MC}:B7r mi body k=mi fun ok ws=> A1k ok body (fun acc=> k (.own (.seq acc))) ws []:=rfl
@[simp] theorem C0Z {mi:Z6} {body:W→List W→(List W→MC)→MC} {k:SV→MC}:B7f mi body k=mi fun ok ws=> A6d ok body (fun acc=> k (.own (.seq acc))) ws []:=rfl
@[simp] theorem B9m {mt:CB} {mi:Z6} {body:W→(Option W→MC)→MC} {acc:List W} {kk:List W→MC}:B7R mt mi body acc kk=mt fun b=> if b=true then mi fun ok ws=> A1k ok body kk ws acc else kk acc:=rfl
@[simp] theorem C0f {m:CE} {k:SV→MC}:B7i m k=m fun x=> B0a x fun y=> k (.val (.str y)):=rfl
@[simp] theorem B8e {ms:List CE} {k:SV→MC}:B4z ms k=jsM ms Str.empty fun s=> k (.val (.str s)):=rfl
@[simp] theorem B9R {acc:Str} {k:Str→MC}:jsM [] acc k=k acc:=rfl
@[simp] theorem B8U {m:CE} {ms:List CE} {acc:Str} {k:Str→MC}:jsM (m::ms) acc k=m fun x=> asS x fun y=> E8 ((acc++y).length≤sizeLine) (jsM ms (acc++y) k):=rfl
@[simp] theorem C0t {f:P5} {m:CE} {ma:C2} {k:SV→MC}:B7Z f m ma k=m fun x=> B0X f x ma k:=rfl
@[simp] theorem C0s {n f:Str} {x:SV} {mv:W→W→CW} {k:SV→MC}:B7U n f x mv k=dcX n f x mv k:=rfl
@[simp] theorem C0B {m:CE} {k:W→MC}:B0Y m k=m fun x=> A20 x k:=rfl
@[simp] theorem B9H {ws:List W} {k:(AH→Prop)→List W→MC}:A1m (.val (.lst ws)) k=k (fun _=> True) ws:=rfl
@[simp] theorem B8k {ws:List W} {k:(AH→Prop)→List W→MC}:A1m (.val (.tup ws)) k=k (fun _=> True) ws:=rfl
end
end Ab
namespace Ab
open PySem PySem.Spec PyProof.Rows L2 RZ
theorem A8X:∀{l l':List (Str×W)},smap l=smap l'→l=l'
  | [],[],_=> rfl
  | [],_::_,e=> by cases e
  | _::_,[],e=> by cases e
  | (a,u)::l,(b,v)::l',e=> by
    unfold smap at e
    rw [List.map_cons,List.map_cons] at e
    injection e with e1 e2
    injection e1 with e1 e3
    injection e1 with e1
    have e3:u=v:=e3
    have e1:a=b:=e1
    rw [e1,e3,A8X e2]
theorem B25 {l l':List (Str×W)} (e:W9 l=W9 l'):l=l':=by
  unfold W9 at e
  injection e with e1 e2
  refine A8X ?_
  unfold smap at e1 e2 ⊢
  rw [List.map_map] at e1 e2
  refine List.ext_getElem (by simpa using congrArg List.length e1) fun i h1 h2=> ?_
  have h1':i < l.length:=by simpa using h1
  have h2':i < l'.length:=by simpa using h2
  have a:=congrArg (fun z=> z[i]?) e1
  have b:=congrArg (fun z=> z[i]?) e2
  simp only [List.getElem?_map,List.getElem?_eq_getElem h1',List.getElem?_eq_getElem h2',Option.map_some,Function.comp] at a b
  simp only [List.getElem_map]
  injection a with a
  injection b with b
  have a:W.str l[i].1=W.str l'[i].1:=a
  have b:l[i].2=l'[i].2:=b
  rw [a,b]
section
variable {Q:RR→AH→Prop} {E:AExc→AH→Prop} {h:AH} {a:Addr} {n f C nm:Str} {fs:List (Str×W)} {w u v:W} {l:List (Str×W)} {s:Str} {ws:List W}
theorem A4Y {neg:Bool} {a b:Str} {k:SV→MC}:C7 (oInS neg) (.val (.str a)) (.val (.str b)) k=k (.val (.bl (if neg=true then !V6 a b else V6 a b))):=rfl
theorem A5c {x:Str} {j:Int} {k:SV→MC}:C7 oMulX (.val (.str x)) (.val (.int j)) k=E8 (0≤j∧j≤1000∧x.length≤1000) (k (.val (.str (v8 x j)))):=rfl
end
end Ab
namespace Ab
open PySem PySem.Spec PyProof.Rows L2 RZ
def A6g (xs:List SV) (k:List W→MC):MC:=match xs with
  | [x,y,z]=> O2 x fun i=> O2 y fun j=> O2 z fun c=> E8 (c= -1∧ -(2 ^ 62)≤i∧i < 2 ^ 62∧ -(2 ^ 62)≤j∧j < 2 ^ 62) (k (B0f i (i - j).toNat))
  | _=> bad
def B6w (a:CS):C2:=fun k=> a fun xs=> A6g xs k
section
variable {Q:RR→AH→Prop} {E:AExc→AH→Prop} {env:A1} {tr:R3} {mr:CS}
@[simp] theorem B9e {a:CS} {k:List W→MC}:B6w a k=a fun w=> A6g w k:=rfl
@[simp] theorem B8W {i j:Int} {k:List W→MC}:A6g [.val (.int i),.val (.int j),.val (.int (-1))] k=E8 (-(2 ^ 62)≤i∧i < 2 ^ 62∧ -(2 ^ 62)≤j∧j < 2 ^ 62) (k (B0f i (i - j).toNat)):=by
  funext h Q E
  exact propext ⟨fun ⟨a,z⟩=> ⟨a.2,z⟩,fun ⟨a,z⟩=> ⟨⟨rfl,a⟩,z⟩⟩
end
end Ab
namespace Ab
open PySem PySem.Spec PyProof.Rows L2 RZ
section
variable {Q:RR→AH→Prop} {E:AExc→AH→Prop} {h:AH} {l:List (Str×W)} {s:Str} {u w:W}
end
def B0n (x:SV) (w:W) (k:SV→MC):MC:=fun h Q E=> match x with
  | .own (.map kvs)=> ∃l s,kvs=smap l∧w= .str s∧(l.lookup s).isSome=true∧k (.own (.map (smap (B0A l s)))) h Q E
  | _=> False
def B62 (x:SV) (mk:CW) (k:SV→MC):MC:=fun h Q E=> (∃l,x= .own (.map (smap l)))∧mk (fun w=> B0n x w k) h Q E
def itK (w:W) (k:List W→MC):MC:=fun h Q E=> ∃l,w=W9 l∧k (l.map fun p=> W.str p.1) h Q E
def B7s (a:CW):C2:=fun k=> a fun w=> itK w k
def A6A (x y:SV) (k:SV→SV→MC):MC:=match x,y with
  | .own c,.own d=> k (.own c) (.own d)
  | _,_=> bad
def B7P (a b:CE) (k:SV→SV→MC):MC:=a fun x=> b fun y=> A6A x y k
def B6q (mv:CW) (x:SV) (mk1:CW) (y:SV) (mk2:SV→CW) (k:SV→SV→MC):MC:=mv fun w=> un2 w fun a b=> mk1 fun w1=> A1f x w1 a fun x'=> mk2 x' fun w2=> A1f y w2 b fun y'=> k x' y'
def B6u (mv:CW) (m1:CE) (mk1:CW) (m2:CE) (mk2:CW) (m3:CE) (mk3:CW) (k:MC):MC:=mv fun w=> un3 w fun a b c=> m1 fun x=> mk1 fun w1=> Z3 x w1 a (m2 fun y=> mk2 fun w2=> Z3 y w2 b (m3 fun z=> mk3 fun w3=> Z3 z w3 c k))
section
variable {Q:RR→AH→Prop} {E:AExc→AH→Prop} {env:A1} {t t1 t2 t3 ta tb:AT} {m m1 m2 m3 ma mb:CE} {tv tv2 tk1 tk2 tk3:B9} {mv mv2 mk1 mk2 mk3:CW} {D:AEnds} {i j:Nat}
@[simp] theorem B86 {l:List (Str×W)} {mk:CW} {k:SV→MC}:B62 (.own (.map (smap l))) mk k=mk fun w=> B0n (.own (.map (smap l))) w k:=by
  funext h Q E
  exact propext ⟨fun z=> z.2,fun z=> ⟨⟨l,rfl⟩,z⟩⟩
@[simp] theorem B9r {a:CW} {k:List W→MC}:B7s a k=a fun w=> itK w k:=rfl
@[simp] theorem B80 {a b:CE} {k:SV→SV→MC}:B7P a b k=a fun x=> b fun y=> A6A x y k:=rfl
@[simp] theorem B8O {c d:Cont} {k:SV→SV→MC}:A6A (.own c) (.own d) k=k (.own c) (.own d):=rfl
@[simp] theorem B9W {mv:CW} {x:SV} {mk1:CW} {y:SV} {mk2:SV→CW} {k:SV→SV→MC}:B6q mv x mk1 y mk2 k=mv fun w=> un2 w fun a b=> mk1 fun w1=> A1f x w1 a fun x'=> mk2 x' fun w2=> A1f y w2 b fun y'=> k x' y':=rfl
@[simp] theorem B8y {mv:CW} {m1:CE} {mk1:CW} {m2:CE} {mk2:CW} {m3:CE} {mk3:CW} {k:MC}:B6u mv m1 mk1 m2 mk2 m3 mk3 k=mv fun w=> un3 w fun a b c=> m1 fun x=> mk1 fun w1=> Z3 x w1 a (m2 fun y=> mk2 fun w2=> Z3 y w2 b (m3 fun z=> mk3 fun w3=> Z3 z w3 c k)):=rfl
end
end Ab
namespace Ab
open PySem PySem.Spec PyProof.Rows L2 RZ
theorem B2e:LmM A0D:=fun xs ws Q Q' k q=> by
  unfold A0D at q ⊢
  split at q
  · exact ⟨q.1,q.2.1,q.2.2.1,k _ _ q.2.2.2⟩
  · exact q
theorem A81:∀{a b:List Str},a.map W.str=b.map W.str→a=b
  | [],[],_=> rfl
  | [],_::_,e=> by cases e
  | _::_,[],e=> by cases e
  | x::a,y::b,e=> by
    rw [List.map_cons,List.map_cons] at e
    injection e with e1 e2
    injection e1 with e1
    rw [e1,A81 e2]
@[simp] theorem B2f {xs:List W} {i:Int} {w:W} {k1:SV→W→MC}:lm A0D (.own (.seq xs)) [.int i,w] k1=E8 (xs.length < sizeLine∧0≤i∧i < 2 ^ 63) (k1 (.own (.seq (xs.take i.toNat++[w]++xs.drop i.toNat))) .non):=by
  funext h Q E
  exact propext ⟨fun ⟨a,b,c,z⟩=> ⟨⟨a,b,c⟩,z⟩,fun ⟨⟨a,b,c⟩,z⟩=> ⟨a,b,c,z⟩⟩
@[simp] theorem B8H {xs:List W} {k1:SV→W→MC}:lm B37 (.own (.seq xs)) [] k1=k1 (.own (.seq xs.reverse)) .non:=rfl
@[simp] theorem B8N {xs:List W} {k1:SV→W→MC}:lm B51 (.own (.seq xs)) [] k1=k1 (.own (.seq [])) .non:=rfl
def A6f (x:SV) (k:MC):MC:=fun h Q E=> isM (K4 h x)∧k h Q E
def A5v (x:SV) (w d:W) (k:SV→MC):MC:=fun h Q E=> A4W (K4 h x) w d fun r=> Y3 k r h Q E
def A5w (m:CE) (mk md:CW):CE:=fun k=> m fun x=> A6f x (mk fun w=> md fun d=> A5v x w d k)
theorem B29 {v:Vw} {w d:W} {P P':RV→Prop} (k:∀r,P r→P' r) (z:A4W v w d P):A4W v w d P':=let ⟨l,s,a,b,c⟩:=z;⟨l,s,a,b,k _ c⟩
section
variable {Q:RR→AH→Prop} {E:AExc→AH→Prop} {env:A1} {t:AT} {m:CE} {tv tv2:B9} {mv mv2:CW}
theorem B3s (b:SE Q E env t m) (a:SA Q E env tv mv) (c:SA Q E env tv2 mv2):SN Q E env (aGetMD t tv tv2) (A5w m mv mv2):=fun h k K hk z=> b h _ _ (fun r x h1 rl z=> by
  refine ⟨by rw [N2 rl];exact z.1,a h1 _ _ (fun w h2 z=> c h2 _ _ (fun d h3 z=> ?_) z) z.2⟩
  rw [N2 rl]
  exact B29 (fun r z=> A2i hk r z) z) z
end
@[simp] theorem B4x {m:CE} {mk md:CW} {k:SV→MC}:A5w m mk md k=m fun x=> A6f x (mk fun w=> md fun d=> A5v x w d k):=rfl
section
variable {h:AH} {Q:RR→AH→Prop} {E:AExc→AH→Prop} {a:Addr} {l:List (Str×W)} {s:Str}
end
def B0d (x:SV) (k:MC):MC:=fun h Q E=> match x with
  | .val (.ref a)=> (∃l,h a=some (.cont (.map (smap l))))∧k h Q E
  | _=> False
def B7u (m:CE) (mk:CW) (k:MC):MC:=m fun x=> B0d x (mk fun w=> A4r x w k)
section
variable {Q:RR→AH→Prop} {E:AExc→AH→Prop} {env:A1} {D:AEnds} {t:AT} {m:CE} {tv:B9} {mv:CW}
end
@[simp] theorem C0C {m:CE} {mk:CW} {k:MC}:B7u m mk k=m fun x=> B0d x (mk fun w=> A4r x w k):=rfl
end Ab
namespace Ab
open PySem PySem.Spec PyProof.Rows L2 RZ
theorem B5J:u2 Y0:=fun as Q Q' k q=> by
  unfold Y0 at q ⊢
  split at q
  · exact ⟨q.1,k _ q.2⟩
  · exact k _ q
  · exact q
@[simp] theorem B4V {i:Int} {k:SV→MC}:cb Y0 [.val (.int i)] k=E8 (i.natAbs.log2 < 1920) (k (.val (.str (toString i)))):=rfl
@[simp] theorem B84 {x:Str} {k:SV→MC}:cb Y0 [.val (.str x)] k=k (.val (.str x)):=rfl
def A24 (x:SV) (k:MC):MC:=fun h Q E=> (∃s,K4 h x= .wv (.str s))∧k h Q E
def A2m (x y:SV) (k:SV→MC):MC:=fun h Q E=> ∃(s:Str) (ys:List Str),K4 h x= .wv (.str s)∧(K4 h y).items=some (ys.map W.str)∧(ys.map (·.length)).sum+ys.length*s.length≤16777216∧k (.val (.str (Txt.join s ys))) h Q E
def A2n (m me:CE):CE:=fun k=> m fun x=> A24 x (me fun y=> A2m x y k)
section
variable {Q:RR→AH→Prop} {E:AExc→AH→Prop} {env:A1} {t te:AT} {m me:CE}
theorem A8n (a:SE Q E env t m) (b:SE Q E env te me):SN Q E env (aJoin t te) (A2n m me):=fun h k K hk z=> a h _ _ (fun r x h1 rl z=> by
  refine ⟨by rw [N2 rl];exact z.1,b h1 _ _ (fun r2 y h2 rl2 z=> ?_) z.2⟩
  obtain ⟨s,ys,z1,z2,z3,z4⟩:=z
  exact ⟨s,ys,by rw [N2 rl];exact z1,by rw [N2 rl2];exact z2,z3,hk (.val _) _ z4⟩) z
end
@[simp] theorem A54 {m me:CE} {k:SV→MC}:A2n m me k=m fun x=> A24 x (me fun y=> A2m x y k):=rfl
@[simp] theorem A2W {s:Str} {k:MC}:A24 (.val (.str s)) k=k:=by
  funext h Q E
  exact propext ⟨fun z=> z.2,fun z=> ⟨⟨s,rfl⟩,z⟩⟩
theorem A8I {s:Str} {ys:List Str} {k:SV→MC}:A2m (.val (.str s)) (.own (.seq (ys.map W.str))) k=E8 ((ys.map (·.length)).sum+ys.length*s.length≤16777216) (k (.val (.str (Txt.join s ys)))):=by
  funext h Q E
  refine propext ⟨fun ⟨s',ys',z1,z2,z3,z4⟩=> ?_,fun ⟨a,z⟩=> ⟨s,ys,rfl,rfl,a,z⟩⟩
  have z1:Vw.wv (.str s)= .wv (.str s'):=z1
  injection z1 with z1
  injection z1 with z1
  subst z1
  have z2:some (ys.map W.str)=some (ys'.map W.str):=z2
  injection z2 with z2
  obtain rfl:=A81 z2
  exact ⟨z3,z4⟩
end Ab
namespace Ab
open PySem PySem.Spec PyProof.Rows L2 RZ
theorem A5J:u2 X6:=fun as Q Q' k q=> by
  unfold X6 at q ⊢
  split at q
  · exact ⟨q.1,q.2.1,k _ q.2.2⟩
  · exact q
theorem A3z:u2 T2:=fun as Q Q' k q=> by
  unfold T2 at q ⊢
  split at q
  · obtain ⟨n,a,b,q⟩:=q;exact ⟨n,a,b,k _ q⟩
  · exact q
def eM1 (o:I6) (m me:CE):CE:=fun k=> m fun x=> A24 x (me fun y=> cb o [x,y] k)
def A6B (neg:Bool) (tab:List (Str×Int)) (mk:CW):CE:=fun k=> mk fun w=> fun h Q E=> ∃s,w= .str s∧k (.val (.bl (if neg=true then !(K3 tab s).isSome else (K3 tab s).isSome))) h Q E
def A4V (tab:List (Str×Int)) (mk:CW):CE:=fun k=> mk fun w=> fun h Q E=> ∃s i,w= .str s∧K3 tab s=some i∧k (.val (.int i)) h Q E
section
variable {Q:RR→AH→Prop} {E:AExc→AH→Prop} {env:A1} {t te:AT} {m me:CE} {tv:B9} {mv:CW}
theorem A6G {o:I6} (om:u2 o) (a:SE Q E env t m) (b:SE Q E env te me):SN Q E env (aM1 o t te) (eM1 o m me):=fun h k K hk z=> a h _ _ (fun r x h1 rl z=> by
  refine ⟨by rw [N2 rl];exact z.1,b h1 _ _ (fun r2 y h2 rl2 z=> ?_) z.2⟩
  rw [N2 rl,N2 rl2]
  exact om _ _ _ (fun r z=> A2i hk r z) z) z
theorem B4k {neg:Bool} {tab:List (Str×Int)} (a:SA Q E env tv mv):SN Q E env (aInKD neg tab tv) (A6B neg tab mv):=fun h k K hk z=> a h _ _ (fun w h1 ⟨s,e,z⟩=> ⟨s,e,hk (.val _) _ z⟩) z
theorem A8l {tab:List (Str×Int)} (a:SA Q E env tv mv):SN Q E env (aIxKD tab tv) (A4V tab mv):=fun h k K hk z=> a h _ _ (fun w h1 ⟨s,i,e,e2,z⟩=> ⟨s,i,e,e2,hk (.val _) _ z⟩) z
end
def A91 (neg:Bool) (tab:List (Str×Int)) (w:W) (k:SV→MC):MC:=fun h Q E=> ∃s,w= .str s∧k (.val (.bl (if neg=true then !(K3 tab s).isSome else (K3 tab s).isSome))) h Q E
def A4b (tab:List (Str×Int)) (w:W) (k:SV→MC):MC:=fun h Q E=> ∃s i,w= .str s∧K3 tab s=some i∧k (.val (.int i)) h Q E
@[simp] theorem A6m {o:I6} {m me:CE} {k:SV→MC}:eM1 o m me k=m fun x=> A24 x (me fun y=> cb o [x,y] k):=rfl
@[simp] theorem B56 {neg:Bool} {tab:List (Str×Int)} {mk:CW} {k:SV→MC}:A6B neg tab mk k=mk fun w=> A91 neg tab w k:=rfl
@[simp] theorem B5o {tab:List (Str×Int)} {mk:CW} {k:SV→MC}:A4V tab mk k=mk fun w=> A4b tab w k:=rfl
@[simp] theorem B6F {neg:Bool} {tab:List (Str×Int)} {s:Str} {k:SV→MC}:A91 neg tab (.str s) k=k (.val (.bl (if neg=true then !(K3 tab s).isSome else (K3 tab s).isSome))):=by
  funext h Q E
  exact propext ⟨fun ⟨s',e,z⟩=> by injection e with e;subst e;exact z,fun z=> ⟨s,rfl,z⟩⟩
theorem A9l {tab:List (Str×Int)} {s:Str} {i:Int} {k:SV→MC} (e:K3 tab s=some i):A4b tab (.str s) k=k (.val (.int i)):=by
  funext h Q E
  exact propext ⟨fun ⟨s',i',e1,e2,z⟩=> by injection e1 with e1;subst e1;rw [e] at e2;cases e2;exact z,fun z=> ⟨s,i,rfl,e,z⟩⟩
@[simp] theorem A5Y {a b:Str} {k:SV→MC}:cb X6 [.val (.str a),.val (.str b)] k=E8 ((b.length==0)=false∧a.length+2≤sizeLine) (k (.own (.seq ((Txt.split a b).map W.str)))):=by
  funext h Q E
  exact propext ⟨fun ⟨a,b,z⟩=> ⟨⟨a,b⟩,z⟩,fun ⟨⟨a,b⟩,z⟩=> ⟨a,b,z⟩⟩
theorem A39 {a:Str} {n:Int} {k:SV→MC} (e:intText? a=some n):cb T2 [.val (.str a)] k=E8 (a.length≤640) (k (.val (.int n))):=by
  funext h Q E
  exact propext ⟨fun ⟨n',e2,l,z⟩=> by rw [e] at e2;cases e2;exact ⟨l,z⟩,fun ⟨l,z⟩=> ⟨n,e,l,z⟩⟩
end Ab
namespace Ab
open PySem PySem.Spec PyProof.Rows L2 RZ
@[simp] theorem B93 {b:Bool} {k:SV→MC}:cb B6n [.val (.bl b)] k=k (.val (.int (if b then 1 else 0))):=rfl
end Ab
namespace Ab
open PySem PySem.Spec PyProof.Rows L2 RZ
theorem B7I {j:Option W} {env:A1}:f7 (Option.map SV.val j::env)=f7 env:=by cases j <;> rfl
theorem B7E {w:W} {env:A1}:f7 (some (.val w)::env)=f7 env:=rfl
theorem B7D {env:A1}:f7 (none::env)=f7 env:=rfl
theorem B5A:f7 []=true:=rfl
end Ab
namespace Ab
open PySem PySem.Spec PyProof.Rows L2 RZ
def A6c (ss:List Int):Prop:=1≤ss.length∧ss.length≤6∧∀s∈ss,1≤s∧s≤40
inductive Dd where
  | swap (i j:Nat) | tap (n:Int) (c:Nat) | drain (n:Int) (c:Nat) | over (n:Int) (cs:List Nat) | down (n:Int) (cs:List Nat)
abbrev N3 (c:Nat):W:= .int (c:Int)
def Dd.w:Dd→W
  | .swap i j=> .tup [.str "swap",N3 i,N3 j]
  | .tap n c=> .tup [.str "tap",.int n,N3 c]
  | .drain n c=> .tup [.str "drain",.int n,N3 c]
  | .over n cs=> .tup (.str "over":: .int n::cs.map N3)
  | .down n cs=> .tup (.str "down":: .int n::cs.map N3)
def B0j (ss:List Int) (cs:List Nat):Prop:=2≤cs.length∧cs.length≤ss.length∧cs.Nodup∧∀c∈cs,c < ss.length
def O0:Int:=1000000000000000000000000000000
def Dd.ok (ss:List Int):Dd→Prop
  | .swap i j=> i < ss.length∧j < ss.length∧i≠j∧ss[i]? =ss[j]?
  | .tap n c=> 0≤n∧n < O0∧c < ss.length
  | .drain n c=> 0≤n∧n < O0∧c < ss.length
  | .over n cs=> 0≤n∧n < O0∧B0j ss cs
  | .down n cs=> 0≤n∧n < O0∧B0j ss cs
theorem B5R {c:Nat}:N3 c= .int (c:Int):=rfl
theorem B6r (d:Dd):d.w.nb 1=true:=by
  cases d <;> refine A5g (n:=0) fun x hx=> ?_
  all_goals simp only [List.mem_cons,List.not_mem_nil,or_false,List.mem_map] at hx
  · rcases hx with rfl | rfl | rfl <;> rfl
  · rcases hx with rfl | rfl | rfl <;> rfl
  · rcases hx with rfl | rfl | rfl <;> rfl
  · rcases hx with rfl | rfl | ⟨c,_,rfl⟩ <;> rfl
  · rcases hx with rfl | rfl | ⟨c,_,rfl⟩ <;> rfl
theorem A3Z (n:Nat):P4 0 n=(List.range n).map N3:=B4m
def Dd.word:Dd→Str
  | .swap _ _=> "swap"
  | .tap _ _=> "tap"
  | .drain _ _=> "drain"
  | .over _ _=> "over"
  | .down _ _=> "down"
def Dd.rest:Dd→List W
  | .swap i j=> [N3 i,N3 j]
  | .tap n c=> [.int n,N3 c]
  | .drain n c=> [.int n,N3 c]
  | .over n cs=> .int n::cs.map N3
  | .down n cs=> .int n::cs.map N3
end Ab
namespace Ab
open PySem PySem.Spec PyProof.Rows L2 RZ
def A2A (x_script:W):MC:=
  ((Q2 (A2 (A0 (C0 T3 (B3 (Z7 (eV (.val x_script)) Z8 (Z2 (eC (.int 63)))) B8))) (A2 (A0 (eC (.int 0))) (A2 (A0 (eC (.int 0))) (A2 (A0 (eC (.int 9465))) (A2 (A0 (eC (.int 0))) B2)))))) ret)
def A0k:List W→MC
  | [x_script]=> A2A x_script
  | _=> bad
def A17 (x_bag x_sides:W):MC:=
  (join (fun (s1:SV)=> (G5 (D3 (A8 oGe (A8 oIx (eV s1) (eC (.int 2))) (eV (.val x_sides)))) ((A0 (A8 P0 (A8 oIx (eV s1) (eC (.int 2))) (eV (.val x_sides)))) fun x_side=> (Y2 (A0 (A8 Y1 (A8 oIx (eV s1) (eC (.int 2))) (eV (.val x_sides)))) s1 (eC (.int 2)) fun x_bag=> ((eV (.val x_side)) ret))) (Y2 (A0 (A8 oAdd (A8 oIx (eV s1) (eC (.int 4))) (eC (.int 1)))) s1 (eC (.int 4)) fun x_bag=> ((A0 (A8 oIx (eV x_bag) (eC (.int 3)))) fun x_mix=> (Y2 (A0 (A8 P0 (A8 oAdd (A8 oAdd (A8 oAdd (A8 oMulT (A8 P0 (A8 oMulT (eV (.val x_mix)) (eV (.val x_mix))) (eC (.int 2147483629))) (eC (.int 5))) (A8 oMulT (eV (.val x_mix)) (eC (.int 16811)))) (A8 oMulT (eC (.int 7919)) (A8 oIx (eV x_bag) (eC (.int 4))))) (eC (.int 2531011))) (eC (.int 2147483647)))) x_bag (eC (.int 3)) fun x_bag=> ((A8 P0 (A8 oAdd (A8 Y1 (A8 oIx (eV x_bag) (eC (.int 3))) (eC (.int 61))) (A8 oMulT (A8 P0 (A8 oIx (eV x_bag) (eC (.int 3))) (eC (.int 8191))) (eC (.int 31)))) (eV (.val x_sides))) ret)))))) fun kj3=> (G5 (tAnd (D3 (A8 y8 (A8 oIx (eV (.val x_bag)) (eC (.int 2))) (eV (.val x_sides)))) (D3 (A8 y8 (A8 oIx (eV (.val x_bag)) (eC (.int 1))) (C0 B4 (B3 (A8 oIx (eV (.val x_bag)) (eC (.int 0))) B8))))) ((A0 (A8 oIx (A8 oIx (eV (.val x_bag)) (eC (.int 0))) (A8 oIx (eV (.val x_bag)) (eC (.int 1))))) fun x_cell=> (Y2 (A0 (A8 oAdd (A8 oIx (eV (.val x_bag)) (eC (.int 1))) (eC (.int 1)))) (.val x_bag) (eC (.int 1)) fun x_bag=> (Y2 (A0 (eC (.int 0))) x_bag (eC (.int 2)) fun x_bag=> (G5 (D3 (A8 oGe (eV (.val x_cell)) (A8 A0P (eC (.int 10)) (eC (.int 18))))) (Y2 (A0 (eV (.val x_cell))) x_bag (eC (.int 2)) fun x_bag=> (kj3 x_bag)) (Y2 (A0 (A8 P0 (A8 oAdd (A8 oAdd (A8 oMulT (A8 oIx (eV x_bag) (eC (.int 3))) (eC (.int 48271))) (A8 oMulT (A8 P0 (eV (.val x_cell)) (eC (.int 2147483629))) (eC (.int 69621)))) (eC (.int 12345))) (eC (.int 2147483647)))) x_bag (eC (.int 3)) fun x_bag=> (kj3 x_bag)))))) (kj3 (.val x_bag))))
def D2:List W→MC
  | [x_bag,x_sides]=> A17 x_bag x_sides
  | _=> bad
def A2D (x_bag x_row:W):MC:=
  ((A8 oIx (eV (.val x_row)) (D5 D2 (A2 (A0 (eV (.val x_bag))) (A2 (A0 (C0 B4 (B3 (eV (.val x_row)) B8))) B2)))) ret)
def L5:List W→MC
  | [x_bag,x_row]=> A2D x_bag x_row
  | _=> bad
section
variable {Q:RR→AH→Prop} {E:AExc→AH→Prop} {h:AH} {p:Addr} {xs:List W}
theorem A1M {σ:Type} {k:σ→MC} {f:(σ→MC)→MC} (P:σ→AH→Prop) (hk:∀s h,P s h→k s h Q E) (hf:∀kk:σ→MC,(∀s h,P s h→kk s h Q E)→f kk h Q E):join k f h Q E:=hf k hk
theorem v9 {i:Int} {k:SV→MC} (e:h p=some (.cont (.seq xs))):C7 oIx (.val (.ref p)) (.val (.int i)) k h Q E=O5 xs i (fun w=> k (.val w)) h Q E:=by
  have ev:K4 h (.val (.ref p))= .cv (.seq xs):=by
    show (match h p with
      | some (.cont c)=> Vw.cv c
      | _=> .wv (.ref p))=_
    rw [e]
  show oIx (K4 h (.val (.ref p))) (.wv (.int i)) _=_
  rw [ev,A8R rfl (fun _ z=> by cases z)]
  unfold O5
  cases L2.atI xs i <;> rfl
theorem A0t {i:Int} {w:W} {k:SV→MC} {j:Nat} (e:h p=some (.cont (.seq xs))) (ej:ixN xs.length i=some j):X7 (.val (.ref p)) (.val (.int i)) w k h Q E=k (.val (.ref p)) (H7 h p (.cont (.seq (xs.set j w)))) Q E:=by
  show (match h p with
      | some (.cont (.seq xs))=> ∃j,ixN xs.length i=some j∧k (.val (.ref p)) (H7 h p (.cont (.seq (xs.set j w)))) Q E
      | _=> False)=_
  rw [e]
  show (∃j,ixN xs.length i=some j∧k (.val (.ref p)) (H7 h p (.cont (.seq (xs.set j w)))) Q E)=_
  rw [ej]
  refine propext ⟨fun ⟨_,a,b⟩=> ?_,fun z=> ⟨j,rfl,z⟩⟩
  cases a
  exact b
theorem q9 {b:Prop} [Decidable b] {A B:MC} (x:b→A h Q E) (y:¬b→B h Q E):(if b then A else B) h Q E:=by
  split
  · exact x ‹_›
  · exact y ‹_›
end
def A2w (ns:List Int) (i b m c:Int):AO:= .cont (.seq [.lst (ns.map .int),.int i,.int b,.int m,.int c])
def Bag (n:Nat) (h:AH) (p:Addr):Prop:=∃(ns:List Int) (i b m c:Int),h p=some (A2w ns i b m c)∧0≤i∧i≤ns.length∧0≤b∧0≤m∧m < 2147483648∧0≤c∧c≤n
theorem Bag.le {n m:Nat} {h:AH} {p:Addr} (b:Bag n h p) (l:n≤m):Bag m h p:=let ⟨ns,i,x,y,c,a1,a2,a3,a4,a5,a6,a7,a8⟩:=b;⟨ns,i,x,y,c,a1,a2,a3,a4,a5,a6,a7,by omega⟩
def Dr (c:Nat) (m:Addr→MC) (P:RR→Prop):Prop:=∀(p:Addr) (n:Nat) (h:AH) (Q:RR→AH→Prop) (E:AExc→AH→Prop),Bag n h p→n+c≤1000000000000000→(∀r h',P r→Bag (n+c) h' p→Bt p h h'→Q r h')→m p h Q E
section
variable {Q:RR→AH→Prop} {E:AExc→AH→Prop} {h:AH} {p:Addr} {n c:Nat} {m:Addr→MC} {P:RR→Prop} {K:SV→MC}
theorem Dr.call (d:Dr c m P) (b:Bag n h p) (l:n+c≤1000000000000000) (q:∀r h',P r→Bag (n+c) h' p→Bt p h h'→K r.sv h' Q E):call (m p) K h Q E:=d p n h _ _ b l q
theorem Dr.call0 (d:Dr c m P) (b:Bag n h p) (l:n+c≤1000000000000000) (q:∀r h',P r→Bag (n+c) h' p→Bt p h h'→K r.sv h' Q E):call0 (m p) K h Q E:=d p n h _ _ b l q
theorem Dr.imp {P':RR→Prop} {c':Nat} (d:Dr c m P) (i:∀r,P r→P' r) (l:c≤c'):Dr c' m P':=fun p n h Q E b l' q=> d p n h Q E b (by omega) fun r h' z b' t=> q r h' (i r z) (b'.le (by omega)) t
end
theorem B3y {ns:List Int} {i b m c s:Int} {h:AH} {p:Addr} {Q:RR→AH→Prop} {E:AExc→AH→Prop} (hp:h p=some (A2w ns i b m c)) (i0:0≤i) (i1:i≤ns.length) (b0:0≤b) (m0:0≤m) (m1:m < 2147483648) (c0:0≤c)
    (c1:c≤1000000000000000) (s1:1≤s) (cd:∀b:Int,CDivW b s)
    (q:∀k h',0≤k→k < s→(∃b' m' c',h' p=some (A2w ns i b' m' c')∧0≤b'∧0≤m'∧m' < 2147483648∧0≤c'∧c'≤c+1)→Bt p h h'→Q (.val (.int k)) h'):
    (G5 (D3 (A8 oGe (A8 oIx (eV (.val (.ref p))) (eC (.int 2))) (eV (.val (.int s))))) ((A0 (A8 P0 (A8 oIx (eV (.val (.ref p))) (eC (.int 2))) (eV (.val (.int s))))) fun x_side=> (Y2 (A0 (A8 Y1 (A8 oIx (eV (.val (.ref p))) (eC (.int 2))) (eV (.val (.int s))))) (.val (.ref p)) (eC (.int 2)) fun x_bag=> ((eV (.val x_side)) ret))) (Y2 (A0 (A8 oAdd (A8 oIx (eV (.val (.ref p))) (eC (.int 4))) (eC (.int 1)))) (.val (.ref p)) (eC (.int 4)) fun x_bag=> ((A0 (A8 oIx (eV x_bag) (eC (.int 3)))) fun x_mix=> (Y2 (A0 (A8 P0 (A8 oAdd (A8 oAdd (A8 oAdd (A8 oMulT (A8 P0 (A8 oMulT (eV (.val x_mix)) (eV (.val x_mix))) (eC (.int 2147483629))) (eC (.int 5))) (A8 oMulT (eV (.val x_mix)) (eC (.int 16811)))) (A8 oMulT (eC (.int 7919)) (A8 oIx (eV x_bag) (eC (.int 4))))) (eC (.int 2531011))) (eC (.int 2147483647)))) x_bag (eC (.int 3)) fun x_bag=> ((A8 P0 (A8 oAdd (A8 Y1 (A8 oIx (eV x_bag) (eC (.int 3))) (eC (.int 61))) (A8 oMulT (A8 P0 (A8 oIx (eV x_bag) (eC (.int 3))) (eC (.int 8191))) (eC (.int 31)))) (eV (.val (.int s)))) ret))))) h Q E:=by
  have cd:=cd b
  have hp':h p=some (.cont (.seq [.lst (ns.map .int),.int i,.int b,.int m,.int c])):=hp
  have e2:ixN 5 2=some 2:=rfl
  have e3:ixN 5 3=some 3:=rfl
  have e4:ixN 5 4=some 4:=rfl
  simp only [O1,M6,I5,E5,G2,v9 hp',A6E,B0g,I0,decide_eq_true_eq]
  refine q9 (fun _=> ?_) fun _=> ?_
  · simp only [F9,I5,E5,G2,A1Q,v9 hp',A6E,A4N,A5h,v7,D8]
    refine ⟨by omega,cd,?_⟩
    rw [A0t hp' e2]
    exact q _ _ (Int.emod_nonneg _ (by omega)) (Int.emod_lt_of_pos _ (by omega)) ⟨_,_,_,Y5,Int.ediv_nonneg b0 (by omega),m0,m1,c0,by omega⟩ .upd
  · simp only [F9,I5,E5,G2,A1Q,v9 hp',A9s,e9,D8]
    rw [A0t hp' e4]
    have h1:H7 h p (.cont (.seq ([.lst (ns.map .int),.int i,.int b,.int m,.int c].set 4 (.int (c+1))))) p=some (.cont (.seq [.lst (ns.map .int),.int i,.int b,.int m,.int (c+1)])):=Y5
    have x0:0≤m*m % 2147483629:=Int.emod_nonneg _ (by decide)
    have x1:m*m % 2147483629 < 2147483629:=Int.emod_lt_of_pos _ (by decide)
    simp only [F9,I5,E5,G2,A1Q,v9 h1,A9s,A6I,e9,A6H,A4N,v7,D8]
    refine ⟨A00 m0 (by omega) m0 (by omega),by decide,A00 x0 (by omega) (by decide) (by decide),A00 m0 (by omega) (by decide) (by decide),A00 (by decide) (by decide) (by omega) (by omega),by decide,?_⟩
    rw [A0t h1 e3]
    generalize m*m % 2147483629*5+m*16811+7919*(c+1)+2531011=y
    have g0:0≤y % 2147483647:=Int.emod_nonneg _ (by decide)
    have g1:y % 2147483647 < 2147483647:=Int.emod_lt_of_pos _ (by decide)
    have w0:0≤y % 2147483647 % 8191:=Int.emod_nonneg _ (by decide)
    have w1:y % 2147483647 % 8191 < 8191:=Int.emod_lt_of_pos _ (by decide)
    have h2:H7 (H7 h p (.cont (.seq ([.lst (ns.map .int),.int i,.int b,.int m,.int c].set 4 (.int (c+1)))))) p (.cont (.seq ([.lst (ns.map .int),.int i,.int b,.int m,.int (c+1)].set 3 (.int (y % 2147483647))))) p=some (.cont (.seq [.lst (ns.map .int),.int i,.int b,.int (y % 2147483647),.int (c+1)])):=Y5
    simp only [v9 h2,A6I,e9,A6H,A4N,A5h,v7]
    refine ⟨wide_div (b:=10) (by decide) (by decide) (by decide) (by decide),by decide,A00 w0 (by omega) (by decide) (by decide),by omega,?_⟩
    exact q _ _ (Int.emod_nonneg _ (by omega)) (Int.emod_lt_of_pos _ (by omega)) ⟨_,_,_,Y5,b0,g0,by omega,by omega,by omega⟩ (Bt.upd.trans .upd)
theorem B3q {s:Int} (s1:1≤s) (s2:∀b:Int,CDivW b s):Dr 1 (fun p=> D2 [.ref p,.int s]) fun r=> ∃k,r= .val (.int k)∧0≤k∧k < s:=by
  intro p n h Q E ⟨ns,i,b,m,c,hp,i0,i1,b0,m0,m1,c0,c1⟩ hn q
  have q':∀k h',0≤k→k < s→(∃i' b' m' c',h' p=some (A2w ns i' b' m' c')∧0≤i'∧i'≤ns.length∧0≤b'∧0≤m'∧m' < 2147483648∧0≤c'∧c'≤c+1)→Bt p h h'→Q (.val (.int k)) h':=
    fun k h' k0 k1 ⟨i',b',m',c',a0,a1,a2,a3,a4,a5,a6,a7⟩ t=> q _ _ ⟨k,rfl,k0,k1⟩ ⟨ns,i',b',m',c',a0,a1,a2,a3,a4,a5,a6,by omega⟩ t
  clear q
  show A17 (.ref p) (.int s) h Q E
  unfold A17
  have hp':h p=some (.cont (.seq [.lst (ns.map .int),.int i,.int b,.int m,.int c])):=hp
  refine A1M (fun x k=> x= .val (.ref p)∧∃i' b' m':Int,0≤i'∧i'≤ns.length∧0≤b'∧0≤m'∧m' < 2147483648∧k p=some (A2w ns i' b' m' c)∧Bt p h k) ?_ ?_
  · rintro _ k ⟨rfl,i',b',m',z1,z2,z3,z4,z5,z6,z7⟩
    exact B3y z6 z1 z2 z3 z4 z5 c0 (by omega) s1 s2 fun k h' k0 k1 ⟨b2,m2,c2,a0,a1,a2,a3,a4,a5⟩ t=> q' k h' k0 k1 ⟨i',b2,m2,c2,a0,z1,z2,a1,a2,a3,a4,a5⟩ (z7.trans t)
  · intro kk hk
    have same:kk (.val (.ref p)) h Q E:=hk _ _ ⟨rfl,i,b,m,i0,i1,b0,m0,m1,hp,.refl⟩
    have e1:ixN 5 1=some 1:=rfl
    have e2:ixN 5 2=some 2:=rfl
    have e3:ixN 5 3=some 3:=rfl
    simp only [O1,A4B,M6,I5,E5,G2,v9 hp',A6E,A6t,I0,decide_eq_true_eq]
    refine q9 (fun _=> ?_) fun _=> by rw [if_neg Bool.false_ne_true];exact same
    simp only [K8,K6,K7,I5,E5,G2,v9 hp',A6X,A57,A2l,A6t,I0,decide_eq_true_eq,List.length_map]
    refine q9 (fun h2=> ?_) fun _=> same
    obtain ⟨j,rfl⟩:=Int.eq_ofNat_of_zero_le i0
    have hj:j < ns.length:=by omega
    simp only [F9,I5,E5,G2,A1Q,v9 hp',A6X,A57,A2t,A5Q hj,e9,D8]
    generalize ns[j]=v
    rw [A0t hp' e1]
    have h1:H7 h p (.cont (.seq ([.lst (ns.map .int),.int (j:Int),.int b,.int m,.int c].set 1 (.int ((j:Int)+1))))) p=some (.cont (.seq [.lst (ns.map .int),.int ((j:Int)+1),.int b,.int m,.int c])):=Y5
    rw [A0t h1 e2]
    generalize hk1:H7 (H7 h p (.cont (.seq ([.lst (ns.map .int),.int (j:Int),.int b,.int m,.int c].set 1 (.int ((j:Int)+1)))))) p (.cont (.seq ([.lst (ns.map .int),.int ((j:Int)+1),.int b,.int m,.int c].set 2 (.int 0))))=h2'
    have hp2:h2' p=some (.cont (.seq [.lst (ns.map .int),.int ((j:Int)+1),.int 0,.int m,.int c])):=by rw [←hk1];exact Y5
    have bt:Bt p h h2':=by rw [←hk1];exact Bt.upd.trans .upd
    simp only [O1,M6,I5,E5,G2,A9o,v7,B0g,I0,decide_eq_true_eq]
    refine ⟨⟨by decide,by decide,by decide⟩,q9 (fun h3=> ?_) fun h3=> ?_⟩
    · have z:(0:Int)≤10 ^ Int.toNat 18:=by decide
      rw [A0t hp2 e2]
      exact hk _ _ ⟨rfl,(j:Int)+1,v,m,by omega,by omega,by omega,m0,m1,Y5,bt.trans .upd⟩
    · have a0:0≤v % 2147483629:=Int.emod_nonneg _ (by decide)
      have a1:v % 2147483629 < 2147483629:=Int.emod_lt_of_pos _ (by decide)
      simp only [A1Q,F9,I5,E5,G2,v9 hp2,A6I,A6H,A4N,e9,v7,D8]
      refine ⟨A00 m0 (by omega) (by decide) (by decide),by decide,A00 a0 (by omega) (by decide) (by decide),by decide,?_⟩
      rw [A0t hp2 e3]
      have b1:0≤(m*48271+v % 2147483629*69621+12345) % 2147483647:=Int.emod_nonneg _ (by decide)
      have b2:(m*48271+v % 2147483629*69621+12345) % 2147483647 < 2147483647:=Int.emod_lt_of_pos _ (by decide)
      exact hk _ _ ⟨rfl,(j:Int)+1,0,_,by omega,by omega,by omega,b1,by omega,Y5,bt.trans .upd⟩
theorem U2 {s:Int} (s1:1≤s) (s2:s≤10 ^ 40):Dr 1 (fun p=> D2 [.ref p,.int s]) fun r=> ∃k,r= .val (.int k)∧0≤k∧k < s:=B3q s1 fun b=> wide_div (b:=200) (by omega) (by omega) (by decide) (by decide)
theorem B40 {ns:List Int} (h:ns.length≤63):A0k [.lst (ns.map .int)]=ret (.own (.seq [.lst (ns.map .int),.int 0,.int 0,.int 9465,.int 0])):=by
  show A2A _=_
  unfold A2A
  simp only [s8,K2,I9,F9,K8,K6,K7,A4g,E5,G2,A4U,A3p,W2,A9q,B5d,Y7,D8]
  rw [D1 (by simp [F8]),show T4 (ns.map W.int) none (some 63)=(ns.map W.int).take 63 from A9T (k:=63),List.take_of_length_le (by rw [List.length_map];exact h)]
theorem bag_new {h:AH} {p:Addr} {ns:List Int}:Bag 0 (H7 h p (.cont (.seq [.lst (ns.map .int),.int 0,.int 0,.int 9465,.int 0]))) p:=⟨ns,0,0,9465,0,Y5,by omega,by omega,by omega,by omega,by omega,by omega,by omega⟩
theorem A0C {row:W} {xs:List W} (hr:row= .lst xs∨row= .tup xs) (h0:xs≠[]) (h1:xs.length≤1000000):Dr 1 (fun p=> L5 [.ref p,row]) fun r=> ∃w,r= .val w∧w∈xs:=by
  intro p n h Q E b hn q
  have l0:0 < xs.length:=List.length_pos_iff.mpr h0
  show A2D (.ref p) row h Q E
  unfold A2D
  have go:call (D2 [.ref p,.int xs.length]) (fun x=> C7 oIx (.val row) x ret) h Q E:=by
    refine (U2 (by omega) (by omega)).call b hn fun r h' ⟨k,e,k0,k1⟩ b' t=> ?_
    subst e
    obtain ⟨j,rfl⟩:=Int.eq_ofNat_of_zero_le k0
    have hj:j < xs.length:=by omega
    rcases hr with rfl | rfl <;> (simp only [P9,A6J,A2t,A3q hj];exact q _ _ ⟨_,rfl,List.getElem_mem hj⟩ b' t)
  rcases hr with rfl | rfl <;> simpa only [I5,E5,S8,K2,I9,F9,K8,K6,K7,A2l,A0K,D8] using go
end Ab
namespace Ab
open PySem PySem.Spec PyProof.Rows L2 RZ
def A16 (x_bag x_mcasks x_most:W):MC:=
  ((C0 O8 (B3 (T5 (A07 (B3 (A8 oAdd (eC (.int 1)) (D5 D2 (A2 (A0 (eV (.val x_bag))) (A2 (A0 (eV (.val x_mcasks))) B2)))) B8)) fun x_mcask kk=> U7 V8 (A0 (A8 oAdd (eC (.int 1)) (A0H D2 (A2 (A0 (eV (.val x_bag))) (A2 (A0 (eV (.val x_most))) B2))))) kk) B8)) ret)
def A0h:List W→MC
  | [x_bag,x_mcasks,x_most]=> A16 x_bag x_mcasks x_most
  | _=> bad
def A1t (x_bag:W):MC:=
  ((D5 A0h (A2 (A0 (eV (.val x_bag))) (A2 (A0 (eC (.int 6))) (A2 (A0 (D5 L5 (A2 (A0 (eV (.val x_bag))) (A2 (A0 (Q2 (A2 (A0 (eC (.int 40))) (A2 (A0 (eC (.int 9))) (A2 (A0 (eC (.int 4))) (A2 (A0 (eC (.int 2))) B2)))))) B2)))) B2)))) ret)
def A0Z:List W→MC
  | [x_bag]=> A1t x_bag
  | _=> bad
def A12 (x_bag:W):MC:=
  ((A0 (Q2 (A2 (A0 (eC (.int 0))) (A2 (A0 (eC (.int 1))) (A2 (A0 (eC (.int 2))) (A2 (A0 (eC (.int 3))) (A2 (A0 (A8 oAdd (eC (.int 1)) (D5 D2 (A2 (A0 (eV (.val x_bag))) (A2 (A0 (eC (.int 9))) B2))))) (A2 (A0 (D5 D2 (A2 (A0 (eV (.val x_bag))) (A2 (A0 (eC (.int 45))) B2)))) (A2 (A0 (A8 y0 (A8 A0P (eC (.int 10)) (eC (.int 30))) (eC (.int 1)))) (A2 (A0 (D5 D2 (A2 (A0 (eV (.val x_bag))) (A2 (A0 (A8 A0P (eC (.int 10)) (eC (.int 30)))) B2)))) B2)))))))))) fun x_some=> ((D5 L5 (A2 (A0 (eV (.val x_bag))) (A2 (A0 (eV (.val x_some))) B2))) ret))
def u4:List W→MC
  | [x_bag]=> A12 x_bag
  | _=> bad
def A21 (body:W→SV→(SV→Option W→MC)→MC) (k:SV→List W→MC):List W→SV→List W→MC
  | [],s,acc=> k s acc
  | w::ws,s,acc=> body w s fun s' o=> match o with
    | some y=> E8 (acc.length < sizeLine) (A21 body k ws s' (acc++[y]))
    | none=> A21 body k ws s' acc
def A1w (x_bag x_row:W):MC:=
  (C0 T3 (B3 (eV (.val x_row)) B8)) fun x_left=> o8 (A0 (eV (.val x_row))) fun ws=>
    A21 (fun _ s kk=> lmC d3 s (A2 (A0 (A0H D2 (A2 (A0 (eV (.val x_bag))) (A2 (A0 (C0 B4 (B3 (eV s) B8))) B2)))) B2) fun s' w=> kk s' (some w)) (fun _ acc=> ret (.own (.seq acc))) ws x_left []
def A0a:List W→MC
  | [x_bag,x_row]=> A1w x_bag x_row
  | _=> bad
def A1q (x_bag x_mcasks x_mmany:W):MC:=
  ((C0 O8 (B3 (Z7 (D5 A0a (A2 (A0 (eV (.val x_bag))) (A2 (A0 (A6P (eV (.val x_mcasks)))) B2))) Z8 (Z2 (eV (.val x_mmany)))) B8)) ret)
def i5:List W→MC
  | [x_bag,x_mcasks,x_mmany]=> A1q x_bag x_mcasks x_mmany
  | _=> bad
def A15 (x_msizes:W):MC:=
  ((Q2 B2) fun x_found=> (A2z (A07 (B3 (C0 B4 (B3 (eV (.val x_msizes)) B8)) B8)) x_found (fun x_mone (s1:SV) kn3 kb4=> ((T5 (A07 (B3 (C0 B4 (B3 (eV (.val x_msizes)) B8)) B8)) fun x_at kk=> U7 (tAnd (D3 (A8 (B5 true) (eV (.val x_at)) (eV (.val x_mone)))) (D3 (A8 (B5 false) (A8 oIx (eV (.val x_msizes)) (eV (.val x_at))) (A8 oIx (eV (.val x_msizes)) (eV (.val x_mone)))))) (A0 (eV (.val x_at))) kk) fun x_near=> (A6k s1 (T5 (o8 (A0 (eV (.val (SV.fz x_near))))) fun x_at kk=> U7 V8 (A0 (Q1 (A2 (A0 (eV (.val x_mone))) (A2 (A0 (eV (.val x_at))) B2)))) kk) fun x_found=> (kn3 x_found)))) fun (s1:SV)=> ((eV s1) ret)))
def A0g:List W→MC
  | [x_msizes]=> A15 x_msizes
  | _=> bad
def A19 (x_bag x_msizes x_number_here x_taps:W):MC:=
  ((A0 (D5 D2 (A2 (A0 (eV (.val x_bag))) (A2 (A0 (eC (.int 12))) B2)))) fun x_how=> ((A0 (D5 A0g (A2 (A0 (eV (.val x_msizes))) B2))) fun x_pairs=> (G5 (tAnd (D3 (A8 (B5 false) (eV (.val x_how)) (eC (.int 0)))) (D3 (A8 (B5 true) (eV (.val x_pairs)) (Q2 B2)))) ((A8 oAdd (Q1 (A2 (A0 (eC (.str ("swap":Str)))) B2)) (D5 L5 (A2 (A0 (eV (.val x_bag))) (A2 (A0 (eV (.val x_pairs))) B2)))) ret) (G5 (tAnd (D3 (A8 y8 (eV (.val x_how)) (eC (.int 3)))) (D3 (eV (.val x_taps)))) ((Q1 (A2 (A0 (eC (.str ("tap":Str)))) (A2 (A0 (D5 L5 (A2 (A0 (eV (.val x_bag))) (A2 (A0 (Q2 (A2 (A0 (eC (.int 1))) (A2 (A0 (eC (.int 1))) (A2 (A0 (eC (.int 2))) (A2 (A0 (eC (.int 3))) (A2 (A0 (eV (.val x_number_here))) B2))))))) B2)))) (A2 (A0 (D5 D2 (A2 (A0 (eV (.val x_bag))) (A2 (A0 (C0 B4 (B3 (eV (.val x_msizes)) B8))) B2)))) B2)))) ret) (G5 (tOr (D3 (A8 (B5 false) (eV (.val x_how)) (eC (.int 3)))) (D3 (A8 (B5 false) (C0 B4 (B3 (eV (.val x_msizes)) B8)) (eC (.int 1))))) ((Q1 (A2 (A0 (eC (.str ("drain":Str)))) (A2 (A0 (eV (.val x_number_here))) (A2 (A0 (D5 D2 (A2 (A0 (eV (.val x_bag))) (A2 (A0 (C0 B4 (B3 (eV (.val x_msizes)) B8))) B2)))) B2)))) ret) ((A0 (A8 oAdd (eC (.int 2)) (D5 D2 (A2 (A0 (eV (.val x_bag))) (A2 (A0 (A8 y0 (C0 B4 (B3 (eV (.val x_msizes)) B8)) (eC (.int 1)))) B2))))) fun x_mmany=> ((A0 (A8 oIx (Q2 (A2 (A0 (eC (.str ("over":Str)))) (A2 (A0 (eC (.str ("down":Str)))) B2))) (A8 Y1 (D5 D2 (A2 (A0 (eV (.val x_bag))) (A2 (A0 (eC (.int 3))) B2))) (eC (.int 2))))) fun x_word=> ((A8 oAdd (Q1 (A2 (A0 (eV (.val x_word))) (A2 (A0 (eV (.val x_number_here))) B2))) (D5 i5 (A2 (A0 (eV (.val x_bag))) (A2 (A0 (C0 B4 (B3 (eV (.val x_msizes)) B8))) (A2 (A0 (eV (.val x_mmany))) B2))))) ret))))))))
def A0j:List W→MC
  | [x_bag,x_msizes,x_number_here,x_taps]=> A19 x_bag x_msizes x_number_here x_taps
  | _=> bad
theorem A8a {α:Type} {P:α→Prop} {e:α→W}:∀{ws ys:List W},All2 (fun _ y=> ∃a,y=e a∧P a) ws ys→∃as:List α,ys=as.map e∧as.length=ws.length∧∀a∈as,P a
  | _,_,.nil=> ⟨[],rfl,rfl,fun _ h=> by cases h⟩
  | _,_,.cons ⟨a,e1,hp⟩ r=> by
    obtain ⟨as,e2,l,h⟩:=A8a r
    subst e1 e2
    exact ⟨a::as,rfl,by rw [List.length_cons,List.length_cons,l],fun b hb=> by
      rcases List.mem_cons.mp hb with rfl | hb
      · exact hp
      · exact h b hb⟩
theorem B63 {α:Type} {P:α→Prop} {e:α→W} {Q:RR→AH→Prop} {E:AExc→AH→Prop} {body:W→(Option W→MC)→MC} {k:List W→MC} {p:Addr} {n c:Nat} {h:AH} (ws:List W) (hl:ws.length≤1000) (b:Bag n h p) (hn:n+ws.length*c≤1000000000000000)
    (hb:∀w∈ws,∀m h1 kk,m+c≤1000000000000000→Bag m h1 p→(∀a h',P a→Bag (m+c) h' p→Bt p h1 h'→kk (some (e a)) h' Q E)→body w kk h1 Q E)
    (q:∀(as:List α) h',as.length=ws.length→(∀a∈as,P a)→Bag (n+ws.length*c) h' p→Bt p h h'→k (as.map e) h' Q E):M7 body k ws [] h Q E:=by
  refine A94 (fun i h'=> Bag (n+i*c) h' p∧Bt p h h') (fun _ y=> ∃a,y=e a∧P a) ws [] 0 h (by simp [F8];omega) ⟨by simpa using b,.refl⟩ (fun w hw j h1 kk hj ⟨b1,t1⟩ hk=> ?_) fun ys h' ay ⟨b',t'⟩=> ?_
  · have z:j*c+c≤ws.length*c:=by rw [←Nat.succ_mul];exact Nat.mul_le_mul_right _ (by omega)
    refine hb w hw _ h1 kk (by omega) b1 fun a h' pa b2 t2=> hk _ h' ⟨a,rfl,pa⟩ ⟨by rw [Nat.succ_mul,←Nat.add_assoc];exact b2,t1.trans t2⟩
  · obtain ⟨as,rfl,l,pa⟩:=A8a ay
    rw [List.nil_append]
    exact q as h' l pa (by simpa using b') t'
theorem B3w {mc mo:Int} (h0:1≤mc) (h1:mc≤6) (g0:1≤mo) (g1:mo≤40):Dr 10 (fun p=> A0h [.ref p,.int mc,.int mo]) fun r=> ∃ss:List Int,r= .val (.tup (ss.map .int))∧1≤ss.length∧ss.length≤mc∧∀s∈ss,1≤s∧s≤mo:=by
  intro p n h Q E b hn q
  show A16 (.ref p) (.int mc) (.int mo) h Q E
  unfold A16
  simp only [K8,K6,K7,P3,W1,I5,G2,E5,S8,K2,I9,F9,D8]
  refine (U2 h0 (by omega)).call b (by omega) fun r h' ⟨k,e,k0,k1⟩ b' t=> ?_
  subst e
  simp only [P9,e9,A0A,v7]
  refine ⟨by omega,?_⟩
  refine B63 (P:=fun s=> 1≤s∧s≤mo) (e:=W.int) (c:=1) _ (by rw [A3f];omega) b' (by rw [A3f];omega) (fun w hw m h1 kk hm b1 hk=> ?_) fun ss h2 l ps b2 t2=> ?_
  · simp only [O9,P8,if_true,F9,I5,G2,E5,W3,K2,I9,D8]
    refine (U2 g0 (by omega)).call0 b1 (by omega) fun r h' ⟨k,e,k0,k1⟩ b' t=> ?_
    subst e
    simp only [P9,e9,D8]
    exact hk _ _ ⟨by omega,by omega⟩ b' t
  · rw [A3f] at l b2
    simp only [A4E]
    exact q _ _ ⟨ss,rfl,by omega,by omega,ps⟩ (b2.le (by omega)) (t.trans t2)
theorem any_sizes_dr:Dr 20 (fun p=> A0Z [.ref p]) fun r=> ∃ss:List Int,r= .val (.tup (ss.map .int))∧A6c ss:=by
  intro p n h Q E b hn q
  show A1t (.ref p) h Q E
  unfold A1t
  simp only [G2,E5,S8,K2,I9,F9,D8,s8,Y7]
  rw [D1 (by simp [F8])]
  refine (A0C (.inl rfl) (by simp) (by simp)).call b (by omega) fun r h' ⟨w,e,hw⟩ b' t=> ?_
  subst e
  obtain ⟨mo,rfl,g0,g1⟩:∃mo:Int,w= .int mo∧1≤mo∧mo≤40:=by
    simp only [List.mem_cons,List.not_mem_nil,or_false] at hw
    rcases hw with rfl | rfl | rfl | rfl <;> exact ⟨_,rfl,by omega,by omega⟩
  simp only [P9,D8]
  refine (B3w (by omega) (by omega) g0 g1).call b' (by omega) fun r h2 ⟨ss,e,l1,l2,ps⟩ b2 t2=> ?_
  subst e
  exact q _ _ ⟨ss,rfl,l1,by omega,fun s hs=> ⟨(ps s hs).1,Int.le_trans (ps s hs).2 g1⟩⟩ (b2.le (by omega)) (t.trans t2)
theorem number_dr:Dr 5 (fun p=> u4 [.ref p]) fun r=> ∃i:Int,r= .val (.int i)∧0≤i∧i < O0:=by
  intro p n h Q E b hn q
  show A12 (.ref p) h Q E
  unfold A12
  simp only [F9,s8,S8,K2,I9,E5,G2,I5,D8]
  refine (U2 (by omega) (by omega)).call b (by omega) fun r h1 ⟨i1,e,_,_⟩ b1 t1=> ?_
  subst e
  simp only [P9,e9,D8]
  refine (U2 (by omega) (by omega)).call b1 (by omega) fun r h2 ⟨i2,e,_,_⟩ b2 t2=> ?_
  subst e
  simp only [P9,A9o,v7,B0I,D8]
  refine ⟨⟨by decide,by decide,by decide⟩,⟨by decide,by decide,by decide⟩,?_⟩
  refine (U2 (by decide) (by decide)).call b2 (by omega) fun r h3 ⟨i3,e,_,z3⟩ b3 t3=> ?_
  subst e
  rw [D1 (by simp [F8])]
  simp only [P9,D8,Y7]
  refine (A0C (.inl rfl) (by simp) (by simp)).call b3 (by omega) fun r h4 ⟨w,e,hw⟩ b4 t4=> ?_
  subst e
  have g:(10:Int) ^ Int.toNat 30=O0:=by decide
  obtain ⟨i,rfl,g0,g1⟩:∃i:Int,w= .int i∧0≤i∧i < O0:=by
    rw [g] at hw z3
    have g:O0=1000000000000000000000000000000:=rfl
    simp only [List.mem_cons,List.not_mem_nil,or_false] at hw
    rcases hw with rfl | rfl | rfl | rfl | rfl | rfl | rfl | rfl <;> exact ⟨_,rfl,by omega,by omega⟩
  exact q _ _ ⟨i,rfl,g0,g1⟩ (b4.le (by omega)) (t1.trans (t2.trans (t3.trans t4)))
theorem B5i {j n:Nat} (hj:j < n):seqIndex? (j:Int) n=some j:=by
  unfold seqIndex?
  have h0:¬((j:Int) < 0):=by omega
  have h1:(j:Int) < (n:Int):=by omega
  simp [h0,h1]
theorem A7z {α:Type}:∀{l:List α} {j:Nat} (h:j < l.length),(l[j]::l.eraseIdx j).Perm l
  | a::l,0,_=> .refl _
  | a::l,j+1,h=> by
    have h':j < l.length:=by rw [List.length_cons] at h;omega
    show (l[j]::a::l.eraseIdx j).Perm (a::l)
    exact (List.Perm.swap _ _ _).trans (.cons _ (A7z h'))
theorem B2U {xs:List W} (hl:xs.length≤100):Dr 100 (fun p=> A0a [.ref p,.lst xs]) fun r=> ∃ys:List W,r= .own (.seq ys)∧ys.Perm xs:=by
  intro p n h Q E b hn q
  show A1w (.ref p) (.lst xs) h Q E
  unfold A1w
  simp only [K8,K6,K7,E5,A1K,F9,D8,A3b,B5e]
  have go:∀(ws left acc:List W) (m:Nat) (h:AH),Bag m h p→m+left.length≤1000000000000000→left.length=ws.length→left.length≤100→acc.length+left.length≤100→
      (∀ys h',ys.Perm left→Bag (m+left.length) h' p→Bt p h h'→Q (.own (.seq (acc++ys))) h')→
      A21 (fun _ s kk=> lmC d3 s (A2 (A0 (A0H D2 (A2 (A0 (eV (.val (.ref p)))) (A2 (A0 (C0 B4 (B3 (eV s) B8))) B2)))) B2) fun s' w=> kk s' (some w)) (fun _ acc=> ret (.own (.seq acc))) ws (.own (.seq left)) acc h Q E:=by
    intro ws
    induction ws with
    | nil=>
      intro left acc m h b _ el _ _ q
      obtain rfl:left=[]:=List.length_eq_zero_iff.mp el
      have z:=q [] h (.refl _) b .refl
      rw [List.append_nil] at z
      exact z
    | cons w ws ih=>
      intro left acc m h b hm el l1 l2 q
      rw [List.length_cons] at el
      refine ⟨trivial,?_⟩
      simp only [K2,I9,F9,W3,E5,K8,K6,K7,A5k,D8]
      refine (U2 (by omega) (by omega)).call0 b (by omega) fun r h1 ⟨k,e,k0,k1⟩ b1 t1=> ?_
      subst e
      obtain ⟨j,rfl⟩:=Int.eq_ofNat_of_zero_le k0
      have hj:j < left.length:=by omega
      refine ⟨by omega,by omega,j,left[j],?_,List.getElem?_eq_getElem hj,?_⟩
      · exact B5i hj
      · have le:(left.eraseIdx j).length=left.length - 1:=List.length_eraseIdx_of_lt hj
        refine ⟨by rw [F8];omega,?_⟩
        refine ih (left.eraseIdx j) (acc++[left[j]]) (m+1) h1 b1 (by omega) (by omega) (by omega) (by rw [List.length_append,List.length_singleton];omega) fun ys h' py b' t'=> ?_
        have z:=q (left[j]::ys) h' ?_ (by rw [show m+left.length=m+1+(left.eraseIdx j).length by omega];exact b') (t1.trans t')
        · simpa using z
        · refine List.Perm.trans (.cons _ py) ?_
          exact A7z hj
  exact go xs xs [] n h b (by omega) rfl hl (by simpa using hl) fun ys h' py b' t'=> q _ _ ⟨ys,by simp,py⟩ (b'.le (by omega)) t'
theorem B31 {α:Type} {e:α→W} (g:W→α) (ge:∀a,g (e a)=a) {ys:List W} {xs:List α} (h:ys.Perm (xs.map e)):∃as:List α,ys=as.map e∧as.Perm xs:=by
  refine ⟨ys.map g,?_,?_⟩
  · rw [List.map_map]
    refine (List.map_id' ys).symm.trans (List.map_congr_left fun y hy=> ?_)
    obtain ⟨a,_,rfl⟩:=List.mem_map.mp (h.mem_iff.mp hy)
    simp [ge]
  · have z:=h.map g
    rw [List.map_map] at z
    have:xs.map (g∘e)=xs:=(List.map_congr_left fun a _=> ge a).trans (List.map_id' xs)
    rw [this] at z
    exact z
def B6o:W→Nat
  | .int i=> i.toNat
  | _=> 0
theorem B1c {m:Nat} {k:Int} (hm:m≤6) (k0:0≤k) (k1:k≤m):Dr 100 (fun p=> i5 [.ref p,.int m,.int k]) fun r=> ∃cs:List Nat,r= .val (.tup (cs.map N3))∧(cs.length:Int)=k∧cs.Nodup∧∀c∈cs,c < m:=by
  intro p n h Q E b hn q
  show A1q (.ref p) (.int m) (.int k) h Q E
  unfold A1q
  simp only [K8,K6,K7,A4g,S8,K2,I9,F9,E5,B5f,A4U,A3p,B38,v7,D8,Y7]
  refine ⟨⟨by omega,by omega⟩,?_⟩
  rw [show P4 0 (m:Int).toNat=(List.range m).map N3 from A3Z m]
  refine (B2U (by simp;omega)).call b (by omega) fun r h1 ⟨ys,e,py⟩ b1 t1=> ?_
  subst e
  obtain ⟨cs,rfl,pc⟩:=B31 B6o (fun _=> rfl) py
  obtain ⟨j,rfl⟩:=Int.eq_ofNat_of_zero_le k0
  simp only [B6P,W2,B68,A4E,A9T]
  have lc:cs.length=m:=by have:=pc.length_eq;simpa using this
  refine q _ _ ⟨cs.take j,by rw [List.map_take];rfl,by rw [List.length_take];omega,?_,fun c hc=> ?_⟩ b1 t1
  · exact (List.take_sublist j cs).nodup (pc.nodup_iff.mpr List.nodup_range)
  · have:=pc.mem_iff.mp ((List.take_sublist j cs).subset hc)
    simpa using this
def A0I (ss:List Int):List (Nat×Nat):=(List.range ss.length).flatMap fun i=> ((List.range ss.length).filter fun j=> j≠i∧ss[j]? =ss[i]?).map fun j=> (i,j)
def A1A (p:Nat×Nat):W:= .tup [N3 p.1,N3 p.2]
theorem A3j {ss:List Int} {i:Nat}:((List.range ss.length).filter fun j=> j≠i∧ss[j]? =ss[i]?).length≤ss.length:=by
  refine Nat.le_trans (List.length_filter_le _ _) ?_
  simp
theorem B4D {ss:List Int} (hl:ss.length≤6):A0g [.tup (ss.map .int)]=ret (.own (.seq ((A0I ss).map A1A))):=by
  show A15 _=_
  unfold A15
  simp only [s8,I9,A9m,W1,K6,K7,K8,E5,A0K,List.length_map]
  rw [D1 (by simp [F8]),A0A,D1 (by omega),A3Z]
  simp only [Int.toNat_natCast]
  rw [show SV.own (.seq [])=(fun acc:List (Nat×Nat)=> SV.own (.seq (acc.map A1A))) [] from rfl]
  rw [A82 N3 (fun acc:List (Nat×Nat)=> SV.own (.seq (acc.map A1A))) (fun acc i=> acc++((List.range ss.length).filter fun j=> j≠i∧ss[j]? =ss[i]?).map fun j=> (i,j)) (fun n acc=> acc.length≤6*n) _ _ 0 (Nat.le_refl _) fun n i hi acc la=> ⟨?_,fun kn=> ?_⟩]
  · show ret _=_
    rw [←List.flatMap_eq_foldl]
    rfl
  · rw [List.length_append,List.length_map]
    have:=A3j (ss:=ss) (i:=i)
    omega
  · obtain ⟨hn,ei⟩:=List.getElem?_eq_some_iff.mp hi
    rw [List.getElem_range] at ei
    rw [List.length_range] at hn
    subst ei
    simp only [P3,W1,K6,K7,K8,E5,A0K,List.length_map]
    rw [A0A,D1 (by omega),A3Z]
    simp only [Int.toNat_natCast]
    rw [B6R N3 (fun j=> decide (j≠n∧ss[j]? =ss[n]?)) N3 _ (fun j hj kk=> ?_) (by simp [F8];omega)]
    · simp only [B5K,P3,A1K,F9,E5,Y7,D8,A3b]
      rw [d8 N3 (fun j=> A1A (n,j)) _ (fun j hj kk=> ?_) (by have:=A3j (ss:=ss) (i:=n);simp only [F8];omega)]
      · have:=A3j (ss:=ss) (i:=n)
        rw [B5c,D1 (by rw [List.length_map,List.length_map];simp only [F8];omega)]
        congr 2
        rw [List.map_append,List.map_map]
        rfl
      · simp only [O9,P8,if_true,F9,s4,K2,I9,E5,D8]
        rw [D1 (by simp [F8])]
        rfl
    · have hj':j < ss.length:=by simpa using hj
      simp only [O9,A4B,M6,I5,E5,D8,F9]
      rw [B0l (sp W6) (sp W6)]
      simp only [D8,B5R,A6J,A5Q hj',A5Q hn,W.int.injEq,List.getElem?_eq_getElem hj',List.getElem?_eq_getElem hn]
      rw [A2y (sp W6) (sp W6)]
      have ci:((j:Int)=(n:Int))↔j=n:=by omega
      by_cases c1:j=n <;> by_cases c2:ss[j]=ss[n] <;> simp [c1,c2,ci]
theorem B2l {ss:List Int} {q:Nat×Nat} (h:q∈A0I ss):q.1 < ss.length∧q.2 < ss.length∧q.1≠q.2∧ss[q.1]? =ss[q.2]? :=by
  unfold A0I at h
  obtain ⟨i,hi,h⟩:=List.mem_flatMap.mp h
  obtain ⟨j,hj,rfl⟩:=List.mem_map.mp h
  obtain ⟨hj1,hj2⟩:=List.mem_filter.mp hj
  rw [List.mem_range] at hi hj1
  have z:=of_decide_eq_true hj2
  exact ⟨hi,hj1,fun e=> z.1 e.symm,z.2.symm⟩
theorem B2m {ss:List Int} (hl:ss.length≤6):(A0I ss).length≤36:=by
  unfold A0I
  rw [List.length_flatMap]
  have:∀(l:List Nat),(l.map fun i=> (((List.range ss.length).filter fun j=> j≠i∧ss[j]? =ss[i]?).map fun j=> (i,j)).length).sum≤6*l.length:=fun l=> by
    induction l with
    | nil=> simp
    | cons i l ih=>
      rw [List.map_cons,List.sum_cons,List.length_cons,List.length_map]
      have:=A3j (ss:=ss) (i:=i)
      omega
  refine Nat.le_trans (this _) ?_
  rw [List.length_range]
  omega
def B7L:Dd→Prop
  | .tap _ _=> True
  | _=> False
theorem B45 {ss:List Int} {i:Int} {taps:Bool} (hs:A6c ss) (i0:0≤i) (i1:i < O0):Dr 200 (fun p=> A0j [.ref p,.tup (ss.map .int),.int i,.bl taps]) fun r=> ∃d:Dd,r= .val d.w∧d.ok ss∧(taps=false→¬B7L d):=by
  intro p n h Q E b hn q
  show A19 (.ref p) (.tup (ss.map .int)) (.int i) (.bl taps) h Q E
  unfold A19
  obtain ⟨l1,l2,s3⟩:=id hs
  have gr:O0=1000000000000000000000000000000:=rfl
  simp only [F9,S8,K2,I9,E5,G2,D8]
  refine (U2 (by omega) (by omega)).call b (by omega) fun r h1 ⟨k,e,k0,k1⟩ b1 t1=> ?_
  subst e
  simp only [P9,D8,B4D l2,A1J,Y7,O1,A4B,M6,I5,E5,G2,s8,I9,T0]
  rw [A2y (sp W6) (sp W6)]
  have cask:∀{h1:AH} {m:Nat} {k:SV→MC},Bag m h1 p→m+1≤1000000000000000→(∀(c:Nat) h',c < ss.length→Bag (m+1) h' p→Bt p h1 h'→k (.val (N3 c)) h' Q E)→call (D2 [.ref p,.int ss.length]) k h1 Q E:=fun b1 l q=>
    (U2 (by omega) (by omega)).call b1 l fun r h' ⟨k,e,k0,k1⟩ b2 t2=> by
      subst e
      obtain ⟨c,rfl⟩:=Int.eq_ofNat_of_zero_le k0
      exact q c h' (by omega) b2 t2
  have tail:(if decide ((SV.val (W.int k)).fz=(SV.val (W.int 3)).fz)=true then
        (Q1 (A2 (A0 (eC (.str ("drain":Str)))) (A2 (A0 (eV (.val (.int i)))) (A2 (A0 (D5 D2 (A2 (A0 (eV (.val (.ref p)))) (A2 (A0 (C0 B4 (B3 (eV (.val (.tup (ss.map .int)))) B8))) B2)))) B2)))) ret
      else bad) h1 Q E→True:=fun _=> trivial
  clear tail
  have rest:((G5 (tAnd (D3 (A8 y8 (eV (.val (.int k))) (eC (.int 3)))) (D3 (eV (.val (.bl taps))))) ((Q1 (A2 (A0 (eC (.str ("tap":Str)))) (A2 (A0 (D5 L5 (A2 (A0 (eV (.val (.ref p)))) (A2 (A0 (Q2 (A2 (A0 (eC (.int 1))) (A2 (A0 (eC (.int 1))) (A2 (A0 (eC (.int 2))) (A2 (A0 (eC (.int 3))) (A2 (A0 (eV (.val (.int i)))) B2))))))) B2)))) (A2 (A0 (D5 D2 (A2 (A0 (eV (.val (.ref p)))) (A2 (A0 (C0 B4 (B3 (eV (.val (.tup (ss.map .int)))) B8))) B2)))) B2)))) ret) (G5 (tOr (D3 (A8 (B5 false) (eV (.val (.int k))) (eC (.int 3)))) (D3 (A8 (B5 false) (C0 B4 (B3 (eV (.val (.tup (ss.map .int)))) B8)) (eC (.int 1))))) ((Q1 (A2 (A0 (eC (.str ("drain":Str)))) (A2 (A0 (eV (.val (.int i)))) (A2 (A0 (D5 D2 (A2 (A0 (eV (.val (.ref p)))) (A2 (A0 (C0 B4 (B3 (eV (.val (.tup (ss.map .int)))) B8))) B2)))) B2)))) ret) ((A0 (A8 oAdd (eC (.int 2)) (D5 D2 (A2 (A0 (eV (.val (.ref p)))) (A2 (A0 (A8 y0 (C0 B4 (B3 (eV (.val (.tup (ss.map .int)))) B8)) (eC (.int 1)))) B2))))) fun x_mmany=> ((A0 (A8 oIx (Q2 (A2 (A0 (eC (.str ("over":Str)))) (A2 (A0 (eC (.str ("down":Str)))) B2))) (A8 Y1 (D5 D2 (A2 (A0 (eV (.val (.ref p)))) (A2 (A0 (eC (.int 3))) B2))) (eC (.int 2))))) fun x_word=> ((A8 oAdd (Q1 (A2 (A0 (eV (.val x_word))) (A2 (A0 (eV (.val (.int i)))) B2))) (D5 i5 (A2 (A0 (eV (.val (.ref p)))) (A2 (A0 (C0 B4 (B3 (eV (.val (.tup (ss.map .int)))) B8))) (A2 (A0 (eV (.val x_mmany))) B2))))) ret)))))) h1 Q E:=by
    have drain:((Q1 (A2 (A0 (eC (.str ("drain":Str)))) (A2 (A0 (eV (.val (.int i)))) (A2 (A0 (D5 D2 (A2 (A0 (eV (.val (.ref p)))) (A2 (A0 (C0 B4 (B3 (eV (.val (.tup (ss.map .int)))) B8))) B2)))) B2)))) ret) h1 Q E:=by
      simp only [s4,K2,I9,F9,G2,E5,S8,K8,K6,K7,A0K,List.length_map,D8]
      refine cask b1 (by omega) fun c h2 hc b2 t2=> ?_
      rw [D1 (by simp [F8])]
      exact q _ _ ⟨.drain i c,rfl,⟨i0,i1,hc⟩,fun _=> id⟩ (b2.le (by omega)) (t1.trans t2)
    have pour:((A0 (A8 oAdd (eC (.int 2)) (D5 D2 (A2 (A0 (eV (.val (.ref p)))) (A2 (A0 (A8 y0 (C0 B4 (B3 (eV (.val (.tup (ss.map .int)))) B8)) (eC (.int 1)))) B2))))) fun x_mmany=> ((A0 (A8 oIx (Q2 (A2 (A0 (eC (.str ("over":Str)))) (A2 (A0 (eC (.str ("down":Str)))) B2))) (A8 Y1 (D5 D2 (A2 (A0 (eV (.val (.ref p)))) (A2 (A0 (eC (.int 3))) B2))) (eC (.int 2))))) fun x_word=> ((A8 oAdd (Q1 (A2 (A0 (eV (.val x_word))) (A2 (A0 (eV (.val (.int i)))) B2))) (D5 i5 (A2 (A0 (eV (.val (.ref p)))) (A2 (A0 (C0 B4 (B3 (eV (.val (.tup (ss.map .int)))) B8))) (A2 (A0 (eV (.val x_mmany))) B2))))) ret))) h1 Q E∨ss.length=1:=by
      by_cases h1':ss.length=1
      · exact .inr h1'
      refine .inl ?_
      simp only [F9,I5,G2,S8,K2,I9,E5,K8,K6,K7,A0K,List.length_map,B0I,D8]
      refine (U2 (by omega) (by omega)).call b1 (by omega) fun r h2 ⟨k2,e,g0,g1⟩ b2 t2=> ?_
      subst e
      simp only [P9,e9,D8,s8,K2,I9,F9,G2]
      rw [D1 (by simp [F8])]
      refine (U2 (by omega) (by omega)).call b2 (by omega) fun r h3 ⟨k3,e,j0,j1⟩ b3 t3=> ?_
      subst e
      simp only [P9,A5h,v7]
      refine ⟨wide_div (b:=10) (by decide) (by decide) (by decide) (by decide),?_⟩
      have word:∃word:Str,(word="over"∨word="down")∧∀k:SV→MC,C7 oIx (.own (.seq [.str ("over":Str),.str ("down":Str)])) (.val (.int (k3 / 2))) k=k (.val (.str word)):=by
        have:k3 / 2=0∨k3 / 2=1:=by omega
        rcases this with e | e
        · exact ⟨"over",.inl rfl,fun k=> by rw [e,A4O,A57]⟩
        · exact ⟨"down",.inr rfl,fun k=> by rw [e,A4O,A6X]⟩
      obtain ⟨word,hw,ew⟩:=word
      rw [ew]
      simp only [s4,K2,I9,F9,E5,D8]
      rw [D1 (by simp [F8])]
      refine (B1c l2 (by omega) (by omega)).call b3 (by omega) fun r h4 ⟨cs,e,lc,nd,hc⟩ b4 t4=> ?_
      subst e
      simp only [P9,A5z]
      rw [D1 (by simp only [List.length_cons,List.length_nil,List.length_map,F8];omega)]
      have tt:=t1.trans (t2.trans (t3.trans t4))
      rcases hw with rfl | rfl
      · exact q _ _ ⟨.over i cs,rfl,⟨i0,i1,by omega,by omega,nd,hc⟩,fun _=> id⟩ (b4.le (by omega)) tt
      · exact q _ _ ⟨.down i cs,rfl,⟨i0,i1,by omega,by omega,nd,hc⟩,fun _=> id⟩ (b4.le (by omega)) tt
    have back:(G5 (tOr (D3 (A8 (B5 false) (eV (.val (.int k))) (eC (.int 3)))) (D3 (A8 (B5 false) (C0 B4 (B3 (eV (.val (.tup (ss.map .int)))) B8)) (eC (.int 1))))) ((Q1 (A2 (A0 (eC (.str ("drain":Str)))) (A2 (A0 (eV (.val (.int i)))) (A2 (A0 (D5 D2 (A2 (A0 (eV (.val (.ref p)))) (A2 (A0 (C0 B4 (B3 (eV (.val (.tup (ss.map .int)))) B8))) B2)))) B2)))) ret) ((A0 (A8 oAdd (eC (.int 2)) (D5 D2 (A2 (A0 (eV (.val (.ref p)))) (A2 (A0 (A8 y0 (C0 B4 (B3 (eV (.val (.tup (ss.map .int)))) B8)) (eC (.int 1)))) B2))))) fun x_mmany=> ((A0 (A8 oIx (Q2 (A2 (A0 (eC (.str ("over":Str)))) (A2 (A0 (eC (.str ("down":Str)))) B2))) (A8 Y1 (D5 D2 (A2 (A0 (eV (.val (.ref p)))) (A2 (A0 (eC (.int 3))) B2))) (eC (.int 2))))) fun x_word=> ((A8 oAdd (Q1 (A2 (A0 (eV (.val x_word))) (A2 (A0 (eV (.val (.int i)))) B2))) (D5 i5 (A2 (A0 (eV (.val (.ref p)))) (A2 (A0 (C0 B4 (B3 (eV (.val (.tup (ss.map .int)))) B8))) (A2 (A0 (eV (.val x_mmany))) B2))))) ret)))) h1 Q E:=by
      unfold G5
      rw [T0,M6,I5,E5,G2,A2y (sp W6) (sp W6)]
      refine q9 (fun _=> by rw [if_pos rfl];exact drain) fun _=> ?_
      rw [M6,I5,K8,K6,E5,K7,A0K,G2,A2y (sp W6) (sp W6)]
      refine q9 (fun _=> drain) fun z=> pour.resolve_right fun z2=> z ?_
      rw [List.length_map,z2]
      simp
    rw [O1,A4B,M6,I5,E5,G2,A6t,I0]
    refine q9 (fun _=> ?_) fun _=> by rw [if_neg Bool.false_ne_true];exact back
    rw [M6,E5,I0]
    refine q9 (fun ht=> ?_) fun _=> back
    simp only [s4,K2,I9,F9,G2,E5,S8,s8,D8,Y7]
    rw [D1 (by simp [F8])]
    refine (A0C (.inl rfl) (by simp) (by simp)).call b1 (by omega) fun r h2 ⟨w,e,hw⟩ b2 t2=> ?_
    subst e
    obtain ⟨i',rfl,g0,g1⟩:∃i':Int,w= .int i'∧0≤i'∧i' < O0:=by
      simp only [List.mem_cons,List.not_mem_nil,or_false] at hw
      rcases hw with rfl | rfl | rfl | rfl | rfl <;> exact ⟨_,rfl,by omega,by omega⟩
    simp only [P9,D8,K8,K6,K7,E5,A0K,List.length_map]
    refine cask b2 (by omega) fun c h3 hc b3 t3=> ?_
    rw [D1 (by simp [F8])]
    exact q _ _ ⟨.tap i' c,rfl,⟨g0,g1,hc⟩,fun e=> by rw [ht] at e;cases e⟩ (b3.le (by omega)) (t1.trans (t2.trans t3))
  have pl:∀x∈(A0I ss).map A1A,x.nb 1=true:=B6B fun a _=> A5g fun x hx=> by
    simp only [List.mem_cons,List.not_mem_nil,or_false] at hx
    rcases hx with rfl | rfl <;> rfl
  refine q9 (fun _=> ?_) fun _=> by rw [if_neg Bool.false_ne_true];exact rest
  rw [D1 (by simp [F8]),B0l (sp (A5y 1 (by omega) pl)) (so (c:= .seq []) (A5y 0 (by omega) (by simp)))]
  refine q9 (fun z=> ?_) fun _=> rest
  have ne:A0I ss≠[]:=fun e=> by simp [e] at z
  simp only [s4,K2,I9,F9,G2,E5,S8,D8]
  rw [D1 (by simp [F8])]
  have al:=B2m l2
  refine (A0C (xs:=(A0I ss).map A1A) (.inl rfl) (by simpa using ne) (by simp;omega)).call b1 (by omega) fun r h2 ⟨w,e,hw⟩ b2 t2=> ?_
  subst e
  obtain ⟨pr,hp,rfl⟩:=List.mem_map.mp hw
  obtain ⟨c1,c2,c3,c4⟩:=B2l hp
  simp only [P9,A1A,A5z]
  rw [D1 (by simp [F8])]
  exact q _ _ ⟨.swap pr.1 pr.2,rfl,⟨c1,c2,c3,c4⟩,fun _=> id⟩ (b2.le (by omega)) (t1.trans t2)
end Ab
namespace Ab
open PySem PySem.Spec PyProof.Rows L2 RZ
def B1m (x_word x_many x_casks:W):MC:=
  ((eIf (D3 (A8 (A6i false) (eV (.val x_word)) (eC (.tup [.str ("over":Str),.str ("down":Str)])))) (Z4 (fun i j=> decide (i≤j)) (fun i j=> decide (i≤j)) (eC (.int 4)) (eV (.val x_many)) (A8 oAdd (eC (.int 2)) (eV (.val x_casks)))) (A8 (B5 false) (eV (.val x_many)) (eC (.int 3)))) ret)
def B2b:List W→MC
  | [x_word,x_many,x_casks]=> B1m x_word x_many x_casks
  | _=> bad
def B1u (x_things x_start x_casks:W):MC:=
  (A2z (B0N (A0 (eV (.val x_things)))) () (fun w6 (s1:Unit) kn3 kb4=> un2 w6 fun x_at x_cask=> (G5 (tOr (U6 (D3 (Z4 (fun i j=> decide (i≤j)) (fun i j=> decide (i < j)) (eC (.int 0)) (eV (.val x_cask)) (eV (.val x_casks))))) (D3 (A8 (A6i false) (eV (.val x_cask)) (Z7 (eV (.val x_things)) Z8 (Z2 (eV (.val x_at))))))) ((A8 oAdd (eV (.val x_start)) (eV (.val x_at))) ret) (kn3 ()))) fun (s1:Unit)=> ((eC .non) ret))
def A7w:List W→MC
  | [x_things,x_start,x_casks]=> B1u x_things x_start x_casks
  | _=> bad
def B2c (x_sizes x_deed:W):MC:=
  (G5 (tOr (D3 (A8 (B5 false) (C0 B4 (B3 (eV (.val x_deed)) B8)) (eC (.int 0)))) (D3 (A8 (A6i true) (A8 oIx (eV (.val x_deed)) (eC (.int 0))) (A8 oAdd (eC (.tup [.str ("over":Str),.str ("down":Str)])) (eC (.tup [.str ("swap":Str),.str ("tap":Str),.str ("drain":Str)])))))) ((eC (.int 0)) ret) (G5 (U6 (D3 (D5 B2b (A2 (A0 (A8 oIx (eV (.val x_deed)) (eC (.int 0)))) (A2 (A0 (C0 B4 (B3 (eV (.val x_deed)) B8))) (A2 (A0 (C0 B4 (B3 (eV (.val x_sizes)) B8))) B2)))))) ((A6x (eC (.int 1))) ret) (A2q (A0 (eV (.val x_deed))) fun x_word x_things=> (G5 (D3 (A8 (B5 false) (eV (.val x_word)) (eC (.str ("swap":Str))))) ((A0 (D5 A7w (A2 (A0 (eV (.val (SV.fz x_things)))) (A2 (A0 (eC (.int 1))) (A2 (A0 (C0 B4 (B3 (eV (.val x_sizes)) B8))) B2))))) fun x_bad=> (G5 (D3 (A8 (L1 true) (eV (.val x_bad)) (eC .non))) ((eV (.val x_bad)) ret) ((eIf (D3 (A8 (B5 false) (A8 oIx (eV (.val x_sizes)) (A8 oIx (eV (.val (SV.fz x_things))) (eC (.int 0)))) (A8 oIx (eV (.val x_sizes)) (A8 oIx (eV (.val (SV.fz x_things))) (eC (.int 1)))))) (eC .non) (eC (.int 2))) ret))) (A2q (A0 (eV (.val (SV.fz x_things)))) fun x_many x_casks=> (G5 (U6 (D3 (Z4 (fun i j=> decide (i≤j)) (fun i j=> decide (i < j)) (eC (.int 0)) (eV (.val x_many)) (eC (.int 1000000000000000000000000000000))))) ((eC (.int 1)) ret) ((D5 A7w (A2 (A0 (eV (.val (SV.fz x_casks)))) (A2 (A0 (eC (.int 2))) (A2 (A0 (C0 B4 (B3 (eV (.val x_sizes)) B8))) B2)))) ret)))))))
def B2t:List W→MC
  | [x_sizes,x_deed]=> B2c x_sizes x_deed
  | _=> bad
def B35 (ss:List Int) (p:Int×List Int) (c:Nat):Int×List Int:=
  let n:=min (p.2.getD c 0+p.1) (ss.getD c 0)
  (p.2.getD c 0+p.1 - n,p.2.set c n)
def A8E (ss cs:List Int) (g:Int):List Nat→List Int
  | []=> cs
  | c::r=>
    let p:=r.foldl (B35 ss) (g,cs.set c (cs.getD c 0 - g))
    p.2.set c (p.2.getD c 0+p.1)
def Dd.pour (ss cs:List Int):Dd→List Int
  | .swap i j=> (cs.set i (cs.getD j 0)).set j (cs.getD i 0)
  | .tap n c=> cs.set c (min (cs.getD c 0+n) (ss.getD c 0))
  | .drain n c=> cs.set c (max (cs.getD c 0 - n) 0)
  | .over n r=> A8E ss cs (min n (cs.getD (r.headD 0) 0)) r
  | .down n r=> A8E ss cs (max (cs.getD (r.headD 0) 0 - n) 0) r
end Ab
namespace Ab
open PySem PySem.Spec PyProof.Rows L2 RZ
theorem A8O {l:List Int} {c i:Nat} {x:Int}:(l.set c x).getD i 0=if i=c∧c < l.length then x else l.getD i 0:=by
  simp only [List.getD_eq_getElem?_getD,List.getElem?_set]
  by_cases h:c=i
  · subst h
    by_cases h2:c < l.length
    · simp [h2]
    · simp [h2]
  · rw [if_neg h,if_neg (fun z=> h z.1.symm)]
def LeL (as bs:List Int):Prop:=as.length=bs.length∧∀i,as.getD i 0≤bs.getD i 0
noncomputable instance {as bs:List Int}:Decidable (LeL as bs):=Classical.propDecidable _
theorem LeL.set {as bs:List Int} {c:Nat} {x y:Int} (h:LeL as bs) (xy:x≤y):LeL (as.set c x) (bs.set c y):=by
  refine ⟨by rw [List.length_set,List.length_set];exact h.1,fun i=> ?_⟩
  rw [A8O,A8O,←h.1]
  split
  · exact xy
  · exact h.2 i
theorem LeL.refl {as:List Int}:LeL as as:=⟨rfl,fun _=> Int.le_refl _⟩
theorem LeL.trans {as bs cs:List Int} (h:LeL as bs) (g:LeL bs cs):LeL as cs:=⟨h.1.trans g.1,fun i=> Int.le_trans (h.2 i) (g.2 i)⟩
def Dd.still:Dd→Bool
  | .tap _ _=> false
  | .drain _ _=> false
  | _=> true
theorem B3k {f:Int→Int→Int} {as bs:List Int} {i:Nat} (ha:i < as.length) (hb:i < bs.length):(List.zipWith f as bs).getD i 0=f (as.getD i 0) (bs.getD i 0):=by
  simp only [List.getD_eq_getElem?_getD,List.getElem?_zipWith,List.getElem?_eq_getElem ha,List.getElem?_eq_getElem hb]
  rfl
end Ab
namespace Ab
open PySem PySem.Spec PyProof.Rows L2 RZ
def Dd.ws (ds:List Dd):List W:=ds.map Dd.w
theorem A8f {l:List Int} {i:Nat} (h:l.length≤i):l.getD i 0=0:=by
  rw [List.getD_eq_getElem?_getD,List.getElem?_eq_none h];rfl
theorem B6V {as bs:List Int} (hl:as.length=bs.length) (h:∀i,i < as.length→as.getD i 0≤bs.getD i 0):LeL as bs:=⟨hl,fun i=> by
  by_cases hi:i < as.length
  · exact h i hi
  · rw [A8f (by omega),A8f (by omega)];exact Int.le_refl _⟩
theorem max_le {as bs cs:List Int} (h1:LeL as cs) (h2:LeL bs cs):LeL (List.zipWith max as bs) cs:=B6V (by rw [List.length_zipWith,h1.1,h2.1];omega) fun i hi=> by
  have a:=h1.1
  have b:=h2.1
  rw [List.length_zipWith] at hi
  rw [B3k (by omega) (by omega)]
  have:=h1.2 i
  have:=h2.2 i
  omega
end Ab
namespace Ab
open PySem PySem.Spec PyProof.Rows L2 RZ
def A0f (m__law_same:List W→MC) (x_found x_due:W):MC:=
  (G5 (D3 (A8 (L1 false) (eV (.val x_due)) (eC .non))) ((A8 (L1 false) (eV (.val x_found)) (eC .non)) ret) (G5 (D3 (C0 D9 (B3 (eV (.val x_due)) (B3 (eC (.ty "bool")) B8)))) ((g8 (C0 D9 (B3 (eV (.val x_found)) (B3 (eC (.ty "bool")) B8))) (A8 (B5 false) (eV (.val x_found)) (eV (.val x_due)))) ret) (G5 (D3 (C0 D9 (B3 (eV (.val x_due)) (B3 (eC (.ty "int")) B8)))) ((g8 (C0 D9 (B3 (eV (.val x_found)) (B3 (eC (.ty "int")) B8))) (g8 (A6l (C0 D9 (B3 (eV (.val x_found)) (B3 (eC (.ty "bool")) B8)))) (A8 (B5 false) (eV (.val x_found)) (eV (.val x_due))))) ret) (G5 (D3 (C0 D9 (B3 (eV (.val x_due)) (B3 (eC (.ty "str")) B8)))) ((g8 (C0 D9 (B3 (eV (.val x_found)) (B3 (eC (.ty "str")) B8))) (A8 (B5 false) (eV (.val x_found)) (eV (.val x_due)))) ret) (G5 (tOr (D3 (A8 (B5 true) (C0 D9 (B3 (eV (.val x_due)) (B3 (eC (.ty "tuple")) B8))) (C0 D9 (B3 (eV (.val x_found)) (B3 (eC (.ty "tuple")) B8))))) (D3 (A8 (B5 true) (C0 D9 (B3 (eV (.val x_due)) (B3 (eC (.ty "list")) B8))) (C0 D9 (B3 (eV (.val x_found)) (B3 (eC (.ty "list")) B8)))))) ((eC (.bl false)) ret) (G5 (D3 (A8 (B5 true) (C0 B4 (B3 (eV (.val x_found)) B8)) (C0 B4 (B3 (eV (.val x_due)) B8)))) ((eC (.bl false)) ret) ((C0 Q8 (B3 (T5 (A07 (B3 (C0 B4 (B3 (eV (.val x_due)) B8)) B8)) fun x_at kk=> U7 V8 (A0 (A0H m__law_same (A2 (A0 (A8 oIx (eV (.val x_found)) (eV (.val x_at)))) (A2 (A0 (A8 oIx (eV (.val x_due)) (eV (.val x_at)))) B2)))) kk) B8)) ret)))))))
def m__law_same:Nat→List W→MC
  | 0=> fun _=> bad
  | d+1=> fun ws=> match ws with
    | [x_found,x_due]=> A0f (m__law_same d) x_found x_due
    | _=> bad
section
variable {k:SV→MC} {b c:Bool} {i:Int} {x:Str} {xs:List W} {T:String}
theorem L6 {w:W} {n:String} {r:Bool} (hv:∀h,viewW h w= .wv w) (e1:w.tyName=some n) (e2:x9 n T=some r):cb D9 [.val w,.val (.ty T)] k=k (.val (.bl r)):=by
  funext h Q E
  show D9 [viewW h w,.wv (.ty T)] _=_
  rw [hv,B7F]
  show (match (Vw.wv w).tyName with
    | some n=> (match x9 n T with
      | some b=> Y3 k (.val (.bl b)) h Q E
      | none=> False)
    | none=> False)=_
  rw [show (Vw.wv w).tyName=w.tyName from rfl,e1]
  show (match x9 n T with
      | some b=> Y3 k (.val (.bl b)) h Q E
      | none=> False)=_
  rw [e2]
  rfl
theorem j4:cb D9 [.val .non,.val (.ty "bool")] k=k (.val (.bl false)):=L6 (fun _=> rfl) rfl rfl
theorem n5:cb D9 [.val .non,.val (.ty "int")] k=k (.val (.bl false)):=L6 (fun _=> rfl) rfl rfl
theorem o4:cb D9 [.val .non,.val (.ty "str")] k=k (.val (.bl false)):=L6 (fun _=> rfl) rfl rfl
theorem i7:cb D9 [.val .non,.val (.ty "tuple")] k=k (.val (.bl false)):=L6 (fun _=> rfl) rfl rfl
theorem j5:cb D9 [.val .non,.val (.ty "list")] k=k (.val (.bl false)):=L6 (fun _=> rfl) rfl rfl
theorem o5:cb D9 [.val (.bl b),.val (.ty "bool")] k=k (.val (.bl true)):=L6 (fun _=> rfl) rfl rfl
theorem o7:cb D9 [.val (.bl b),.val (.ty "int")] k=k (.val (.bl true)):=L6 (fun _=> rfl) rfl rfl
theorem o6:cb D9 [.val (.bl b),.val (.ty "str")] k=k (.val (.bl false)):=L6 (fun _=> rfl) rfl rfl
theorem k9:cb D9 [.val (.bl b),.val (.ty "tuple")] k=k (.val (.bl false)):=L6 (fun _=> rfl) rfl rfl
theorem m7:cb D9 [.val (.bl b),.val (.ty "list")] k=k (.val (.bl false)):=L6 (fun _=> rfl) rfl rfl
theorem l5:cb D9 [.val (.int i),.val (.ty "bool")] k=k (.val (.bl false)):=L6 (fun _=> rfl) rfl rfl
theorem n9:cb D9 [.val (.int i),.val (.ty "int")] k=k (.val (.bl true)):=L6 (fun _=> rfl) rfl rfl
theorem m9:cb D9 [.val (.int i),.val (.ty "str")] k=k (.val (.bl false)):=L6 (fun _=> rfl) rfl rfl
theorem i9:cb D9 [.val (.int i),.val (.ty "tuple")] k=k (.val (.bl false)):=L6 (fun _=> rfl) rfl rfl
theorem l7:cb D9 [.val (.int i),.val (.ty "list")] k=k (.val (.bl false)):=L6 (fun _=> rfl) rfl rfl
theorem k8:cb D9 [.val (.str x),.val (.ty "bool")] k=k (.val (.bl false)):=L6 (fun _=> rfl) rfl rfl
theorem o0:cb D9 [.val (.str x),.val (.ty "int")] k=k (.val (.bl false)):=L6 (fun _=> rfl) rfl rfl
theorem o3:cb D9 [.val (.str x),.val (.ty "str")] k=k (.val (.bl true)):=L6 (fun _=> rfl) rfl rfl
theorem j3:cb D9 [.val (.str x),.val (.ty "tuple")] k=k (.val (.bl false)):=L6 (fun _=> rfl) rfl rfl
theorem l9:cb D9 [.val (.str x),.val (.ty "list")] k=k (.val (.bl false)):=L6 (fun _=> rfl) rfl rfl
theorem m6:cb D9 [.val (.tup xs),.val (.ty "bool")] k=k (.val (.bl false)):=L6 (fun _=> rfl) rfl rfl
theorem n7:cb D9 [.val (.tup xs),.val (.ty "int")] k=k (.val (.bl false)):=L6 (fun _=> rfl) rfl rfl
theorem n4:cb D9 [.val (.tup xs),.val (.ty "str")] k=k (.val (.bl false)):=L6 (fun _=> rfl) rfl rfl
theorem i6:cb D9 [.val (.tup xs),.val (.ty "tuple")] k=k (.val (.bl true)):=L6 (fun _=> rfl) rfl rfl
theorem j9:cb D9 [.val (.tup xs),.val (.ty "list")] k=k (.val (.bl false)):=L6 (fun _=> rfl) rfl rfl
theorem j7:cb D9 [.val (.lst xs),.val (.ty "bool")] k=k (.val (.bl false)):=L6 (fun _=> rfl) rfl rfl
theorem n8:cb D9 [.val (.lst xs),.val (.ty "int")] k=k (.val (.bl false)):=L6 (fun _=> rfl) rfl rfl
theorem m8:cb D9 [.val (.lst xs),.val (.ty "str")] k=k (.val (.bl false)):=L6 (fun _=> rfl) rfl rfl
theorem i8:cb D9 [.val (.lst xs),.val (.ty "tuple")] k=k (.val (.bl false)):=L6 (fun _=> rfl) rfl rfl
theorem l8:cb D9 [.val (.lst xs),.val (.ty "list")] k=k (.val (.bl true)):=L6 (fun _=> rfl) rfl rfl
theorem A4C:K5 (.bl b) (.bl c)=decide (b=c):=by cases b <;> cases c <;> rfl
theorem A0N:C7 (B5 false) (.val (.bl b)) (.val (.bl c)) k=k (.val (.bl (decide (b=c)))):=by
  funext h Q E
  show (_∧_∧_)=_
  refine propext ⟨fun z=> ?_,fun z=> ⟨rfl,rfl,?_⟩⟩
  · have z:=z.2.2
    rw [←A4C]
    exact z
  · rw [←A4C] at z
    exact z
theorem A9a:C7 (L1 false) (.val (.bl b)) (.val .non) k=k (.val (.bl false)):=d9 (fun _=> rfl)
theorem t9:C7 (B5 true) (.val (.bl b)) (.val (.bl c)) k=k (.val (.bl (!decide (b=c)))):=by
  funext h Q E
  show (_∧_∧_)=_
  refine propext ⟨fun z=> ?_,fun z=> ⟨rfl,rfl,?_⟩⟩
  · have z:=z.2.2
    rw [←A4C]
    exact z
  · rw [←A4C] at z
    exact z
end
mutual
def W.sm:Nat→W→Bool
  | _,.non=> true
  | _,.bl _=> true
  | _,.int _=> true
  | _,.str _=> true
  | n+1,.tup xs=> decide (xs.length≤100000) && W.sms n xs
  | n+1,.lst xs=> decide (xs.length≤100000) && W.sms n xs
  | _,_=> false
def W.sms:Nat→List W→Bool
  | _,[]=> true
  | n,x::xs=> W.sm n x && W.sms n xs
end
theorem W.sms_mem {n:Nat}:∀{xs:List W},W.sms n xs=true→∀x∈xs,x.sm n=true
  | [],_,x,h=> by cases h
  | y::ys,e,x,h=> by
    simp only [W.sms,Bool.and_eq_true] at e
    rcases List.mem_cons.mp h with rfl | h
    · exact e.1
    · exact W.sms_mem e.2 x h
theorem W.sms_of {n:Nat}:∀{xs:List W},(∀x∈xs,x.sm n=true)→W.sms n xs=true
  | [],_=> rfl
  | x::xs,h=> by
    simp only [W.sms,Bool.and_eq_true]
    exact ⟨h x (by simp),W.sms_of fun y hy=> h y (by simp [hy])⟩
theorem A9P {n:Nat} {xs:List W} (l:xs.length≤100000) (h:∀x∈xs,x.sm n=true):(W.tup xs).sm (n+1)=true:=by
  simp only [W.sm,Bool.and_eq_true,decide_eq_true_eq];exact ⟨l,W.sms_of h⟩
theorem A9Y {n:Nat} {xs:List W} (l:xs.length≤100000) (h:∀x∈xs,x.sm n=true):(W.lst xs).sm (n+1)=true:=by
  simp only [W.sm,Bool.and_eq_true,decide_eq_true_eq];exact ⟨l,W.sms_of h⟩
theorem A80:∀(d:Nat) (w:W),w.sm d=true→m__law_same (d+1) [w,w]=ret (.val (.bl true)):=by
  intro d
  induction d with
  | zero=>
    intro w h
    show A0f _ w w=_
    unfold A0f
    cases w with
    | non=> simp only [↓E5,↓G2,↓I5,↓F9,↓I9,↓K2,↓K7,↓K6,↓K8,↓P8,↓M6,↓T0,↓X9,↓s9,↓W3,↓W1,↓O1,↓O9,↓P3,↓I0,↓A5b,if_true,if_false,Bool.not_true,Bool.not_false,Bool.false_eq_true,decide_true,↓j4,↓n5,↓o4,↓i7,↓j5,↓o5,↓o7,↓o6,↓k9,↓m7,↓l5,↓n9,↓m9,↓i9,↓l7,↓k8,↓o0,↓o3,↓j3,↓l9,↓m6,↓n7,↓n4,↓i6,↓j9,↓j7,↓n8,↓m8,↓i8,↓l8,↓A0N,↓t9]
    | bl b=> simp only [↓E5,↓G2,↓I5,↓F9,↓I9,↓K2,↓K7,↓K6,↓K8,↓P8,↓M6,↓T0,↓X9,↓s9,↓W3,↓W1,↓O1,↓O9,↓P3,↓I0,if_true,if_false,Bool.not_true,Bool.false_eq_true,decide_true,↓A9a,↓j4,↓n5,↓o4,↓i7,↓j5,↓o5,↓o7,↓o6,↓k9,↓m7,↓l5,↓n9,↓m9,↓i9,↓l7,↓k8,↓o0,↓o3,↓j3,↓l9,↓m6,↓n7,↓n4,↓i6,↓j9,↓j7,↓n8,↓m8,↓i8,↓l8,↓A0N,↓t9]
    | int i=> simp only [↓E5,↓G2,↓I5,↓F9,↓I9,↓K2,↓K7,↓K6,↓K8,↓P8,↓M6,↓T0,↓X9,↓s9,↓W3,↓W1,↓O1,↓O9,↓P3,↓I0,↓x7,↓A8z,if_true,if_false,Bool.not_true,Bool.not_false,Bool.false_eq_true,decide_true,↓j4,↓n5,↓o4,↓i7,↓j5,↓o5,↓o7,↓o6,↓k9,↓m7,↓l5,↓n9,↓m9,↓i9,↓l7,↓k8,↓o0,↓o3,↓j3,↓l9,↓m6,↓n7,↓n4,↓i6,↓j9,↓j7,↓n8,↓m8,↓i8,↓l8,↓A0N,↓t9]
    | str x=> simp only [↓E5,↓G2,↓I5,↓F9,↓I9,↓K2,↓K7,↓K6,↓K8,↓P8,↓M6,↓T0,↓X9,↓s9,↓W3,↓W1,↓O1,↓O9,↓P3,↓I0,↓A0A,↓A03,↓A2o,↓A2k,↓A8g,if_true,if_false,Bool.not_true,Bool.not_false,Bool.false_eq_true,decide_true,Int.toNat_natCast,F8,↓j4,↓n5,↓o4,↓i7,↓j5,↓o5,↓o7,↓o6,↓k9,↓m7,↓l5,↓n9,↓m9,↓i9,↓l7,↓k8,↓o0,↓o3,↓j3,↓l9,↓m6,↓n7,↓n4,↓i6,↓j9,↓j7,↓n8,↓m8,↓i8,↓l8,↓A0N,↓t9]
    | tup xs=> simp [W.sm] at h
    | lst xs=> simp [W.sm] at h
    | dct _ _=> simp [W.sm] at h
    | ref _=> simp [W.sm] at h
    | ty _=> simp [W.sm] at h
  | succ d ih=>
    intro w h
    show A0f (m__law_same (d+1)) w w=_
    unfold A0f
    have seq:∀xs:List W,xs.length≤100000→(∀x∈xs,x.sm d=true)→∀v:W,(∀(i:Nat) (k:SV→MC),i < xs.length→C7 oIx (.val v) (.val (.int i)) k=O5 xs i fun w=> k (.val w))→
        ∀k:SV→MC,M7 (fun x_at kk=> C7 oIx (.val v) (.val x_at) fun x=> C7 oIx (.val v) (.val x_at) fun y=> call0 (m__law_same (d+1) [x.fz,y.fz]) fun z=> kk (some z.fz)) (fun acc=> k (.own (.seq acc))) (P4 0 xs.length) []=k (.own (.seq ((List.replicate xs.length true).map W.bl))):=by
      intro xs hl hx v hv k
      rw [A3Z,d8 N3 (fun _=> .bl true) _ (fun i hi kk=> ?_) (by simp [F8];omega)]
      · congr 3
        rw [List.map_const',List.map_replicate,List.length_range]
      · have hi:i < xs.length:=by simpa using hi
        rw [hv i _ hi,A3q hi,hv i _ hi,A3q hi,D8,ih _ (hx _ (List.getElem_mem hi)),B3T,D8]
    cases w with
    | non=> simp only [↓E5,↓G2,↓I5,↓F9,↓I9,↓K2,↓K7,↓K6,↓K8,↓P8,↓M6,↓T0,↓X9,↓s9,↓W3,↓W1,↓O1,↓O9,↓P3,↓I0,↓A5b,if_true,if_false,Bool.not_true,Bool.not_false,Bool.false_eq_true,decide_true,↓j4,↓n5,↓o4,↓i7,↓j5,↓o5,↓o7,↓o6,↓k9,↓m7,↓l5,↓n9,↓m9,↓i9,↓l7,↓k8,↓o0,↓o3,↓j3,↓l9,↓m6,↓n7,↓n4,↓i6,↓j9,↓j7,↓n8,↓m8,↓i8,↓l8,↓A0N,↓t9]
    | bl b=> simp only [↓E5,↓G2,↓I5,↓F9,↓I9,↓K2,↓K7,↓K6,↓K8,↓P8,↓M6,↓T0,↓X9,↓s9,↓W3,↓W1,↓O1,↓O9,↓P3,↓I0,if_true,if_false,Bool.not_true,Bool.false_eq_true,decide_true,↓A9a,↓j4,↓n5,↓o4,↓i7,↓j5,↓o5,↓o7,↓o6,↓k9,↓m7,↓l5,↓n9,↓m9,↓i9,↓l7,↓k8,↓o0,↓o3,↓j3,↓l9,↓m6,↓n7,↓n4,↓i6,↓j9,↓j7,↓n8,↓m8,↓i8,↓l8,↓A0N,↓t9]
    | int i=> simp only [↓E5,↓G2,↓I5,↓F9,↓I9,↓K2,↓K7,↓K6,↓K8,↓P8,↓M6,↓T0,↓X9,↓s9,↓W3,↓W1,↓O1,↓O9,↓P3,↓I0,↓x7,↓A8z,if_true,if_false,Bool.not_true,Bool.not_false,Bool.false_eq_true,decide_true,↓j4,↓n5,↓o4,↓i7,↓j5,↓o5,↓o7,↓o6,↓k9,↓m7,↓l5,↓n9,↓m9,↓i9,↓l7,↓k8,↓o0,↓o3,↓j3,↓l9,↓m6,↓n7,↓n4,↓i6,↓j9,↓j7,↓n8,↓m8,↓i8,↓l8,↓A0N,↓t9]
    | str x=> simp only [↓E5,↓G2,↓I5,↓F9,↓I9,↓K2,↓K7,↓K6,↓K8,↓P8,↓M6,↓T0,↓X9,↓s9,↓W3,↓W1,↓O1,↓O9,↓P3,↓I0,↓A0A,↓A03,↓A2o,↓A2k,↓A8g,if_true,if_false,Bool.not_true,Bool.not_false,Bool.false_eq_true,decide_true,Int.toNat_natCast,F8,↓j4,↓n5,↓o4,↓i7,↓j5,↓o5,↓o7,↓o6,↓k9,↓m7,↓l5,↓n9,↓m9,↓i9,↓l7,↓k8,↓o0,↓o3,↓j3,↓l9,↓m6,↓n7,↓n4,↓i6,↓j9,↓j7,↓n8,↓m8,↓i8,↓l8,↓A0N,↓t9]
    | tup xs=>
      simp only [W.sm,Bool.and_eq_true,decide_eq_true_eq] at h
      have hl:=h.1
      simp only [↓E5,↓G2,↓I5,↓F9,↓I9,↓K2,↓K7,↓K6,↓K8,↓P8,↓M6,↓T0,↓X9,↓s9,↓W3,↓W1,↓O1,↓O9,↓P3,↓I0,↓A0A,↓A0K,↓A2o,↓A83,if_true,if_false,Bool.not_true,Bool.not_false,Bool.false_eq_true,decide_true,Int.toNat_natCast,↓j4,↓n5,↓o4,↓i7,↓j5,↓o5,↓o7,↓o6,↓k9,↓m7,↓l5,↓n9,↓m9,↓i9,↓l7,↓k8,↓o0,↓o3,↓j3,↓l9,↓m6,↓n7,↓n4,↓i6,↓j9,↓j7,↓n8,↓m8,↓i8,↓l8,↓t9]
      rw [D1 (by omega)]
      refine (seq xs h.1 (W.sms_mem h.2) (.tup xs) (fun i k _=> A6J) (fun z=> cb Q8 [z] ret)).trans ?_
      rw [o9]
      simp
    | lst xs=>
      simp only [W.sm,Bool.and_eq_true,decide_eq_true_eq] at h
      have hl:=h.1
      simp only [↓E5,↓G2,↓I5,↓F9,↓I9,↓K2,↓K7,↓K6,↓K8,↓P8,↓M6,↓T0,↓X9,↓s9,↓W3,↓W1,↓O1,↓O9,↓P3,↓I0,↓A0A,↓A2l,↓A2o,↓B4y,if_true,if_false,Bool.not_true,Bool.not_false,Bool.false_eq_true,decide_true,Int.toNat_natCast,↓j4,↓n5,↓o4,↓i7,↓j5,↓o5,↓o7,↓o6,↓k9,↓m7,↓l5,↓n9,↓m9,↓i9,↓l7,↓k8,↓o0,↓o3,↓j3,↓l9,↓m6,↓n7,↓n4,↓i6,↓j9,↓j7,↓n8,↓m8,↓i8,↓l8,↓t9]
      rw [D1 (by omega)]
      refine (seq xs h.1 (W.sms_mem h.2) (.lst xs) (fun i k _=> A2t) (fun z=> cb Q8 [z] ret)).trans ?_
      rw [o9]
      simp
    | dct _ _=> simp [W.sm] at h
    | ref _=> simp [W.sm] at h
    | ty _=> simp [W.sm] at h
end Ab
namespace Ab
open PySem PySem.Spec PyProof.Rows L2 RZ
def A2N (x_text:W):MC:=
  ((g8 (Z4 (fun i j=> decide (i≤j)) (fun i j=> decide (i≤j)) (eC (.int 1)) (C0 B4 (B3 (eV (.val x_text)) B8)) (eC (.int 8))) (C0 Q8 (B3 (T5 (A1O (eV (.val x_text))) fun x_sign kk=> U7 V8 (A0 (A8 (oInS false) (eV (.val x_sign)) (eC (.str ("abcdefghijklmnopqrstuvwxyz":Str))))) kk) B8))) ret)
def A0o:List W→MC
  | [x_text]=> A2N x_text
  | _=> bad
def B2k (x_step:W):MC:=
  ((g8 (A8 oGt (C0 B4 (B3 (eV (.val x_step)) B8)) (eC (.int 0))) (A8 (B5 false) (A8 oIx (eV (.val x_step)) (eC (.int 0))) (eC (.str ("call":Str))))) ret)
def B20:List W→MC
  | [x_step]=> B2k x_step
  | _=> bad
def B1f (x_step:W):MC:=
  (G5 (D3 (A8 (B5 true) (C0 B4 (B3 (eV (.val x_step)) B8)) (eC (.int 3)))) ((A6x (eC (.int 1))) ret) ((eIf (D3 (Z4 (fun i j=> decide (i≤j)) (fun i j=> decide (i≤j)) (eC (.int 0)) (A8 oIx (eV (.val x_step)) (eC (.int 2))) (eC (.int 9)))) (eC .non) (eC (.int 2))) ret))
def B1y:List W→MC
  | [x_step]=> B1f x_step
  | _=> bad
def A0E:Str:=("abcdefghijklmnopqrstuvwxyz":Str)
def S9 (x:Str):Bool:=decide ((1:Int)≤x.length) && (decide ((x.length:Int)≤8) && x.cps.toList.all fun c=> V6 ⟨#[c]⟩ A0E)
theorem B2p {x:Str} (l:x.length≤1000):A0o [.str x]=ret (.val (.bl (S9 x))):=by
  show A2N _=_
  unfold A2N
  have l2:x.length≤16777216:=by omega
  have l3:x.cps.toList.length≤sizeLine:=by
    have e:x.cps.toList.length=x.length:=by simp [Str.length]
    rw [e,F8];omega
  simp only [↓A3w,↓A3k,↓E5,↓G2,↓I5,↓F9,↓K7,↓K6,↓K8,↓P8,↓X9,↓A1Z,↓O9,↓P3,↓W2,↓I0,↓U3,↓A03,if_true,if_false,Bool.false_eq_true,decide_eq_true_eq,F8,l2,U3]
  unfold S9
  by_cases a:(1:Int)≤x.length
  · by_cases b:(x.length:Int)≤8
    · simp only [a,b,if_true,decide_true,Bool.true_and]
      show M7 _ _ (x.cps.toList.map fun c=> W.str ⟨#[c]⟩) []=_
      rw [d8 (fun c:Nat=> W.str ⟨#[c]⟩) (fun c=> .bl (V6 ⟨#[c]⟩ A0E)) x.cps.toList (fun c _ kk=> by rw [A4Y];rfl) l3]
      rw [show (x.cps.toList.map fun c=> W.bl (V6 ⟨#[c]⟩ A0E))=(x.cps.toList.map fun c=> V6 ⟨#[c]⟩ A0E).map W.bl by rw [List.map_map];rfl,o9,List.all_map]
      rfl
    · simp only [a,b,if_true,if_false,decide_true,decide_false,Bool.true_and,Bool.false_and,Bool.false_eq_true]
  · simp only [a,if_false,decide_false,Bool.false_and,Bool.false_eq_true]
inductive St where
  | call (n:Str) (t:Nat) | deed (d:Dd)
def St.w:St→W
  | .call n t=> .tup [.str "call",.str n,.int (t:Int)]
  | .deed d=> d.w
def St.ok (ss:List Int):St→Prop
  | .call _ t=> t≤9
  | .deed d=> d.ok ss
theorem A2c (d:Dd):d.word≠("call":Str):=by cases d <;> (show Str.ofString _≠Str.ofString _;rw [Ne,B4h];decide)
theorem St.nb (s:St):s.w.nb 1=true:=by
  cases s with
  | call n t=> rfl
  | deed d=> exact B6r d
structure Ent where
  name:Str
  steps:List St
  deeds:List Dd
def Ent.wr (e:Ent):Str×W:=(e.name,.lst (e.steps.map St.w))
def Ent.la (e:Ent):Str×W:=(e.name,.lst (e.deeds.map Dd.w))
structure BookAt (h:AH) (b:Addr) (s:W) (pw pl:Addr) (es:List Ent):Prop where
  ob:h b=some (.ins "Book" [("casks",s),("written",.ref pw),("laid",.ref pl)])
  wr:h pw=some (.cont (.map (smap (es.map Ent.wr))))
  la:h pl=some (.cont (.map (smap (es.map Ent.la))))
  ne:pw≠pl
def B7C (es:List Ent) (x:Str):Option Ent:=es.find? fun e=> e.name==x
section
variable {Q:RR→AH→Prop} {E:AExc→AH→Prop} {h:AH} {b pw pl:Addr} {s:W} {es:List Ent} {k:SV→MC}
inductive Sw where
  | good (s:St) | odd (w:W) (p:Int)
def Sw.w:Sw→W
  | .good s=> s.w
  | .odd w _=> w
def Sw.ok (ss:List Int):Sw→Prop
  | .good s=> s.ok ss
  | .odd w p=> ∃c,B20 [w]=ret (.val (.bl c))∧(c=true→B1y [w]=ret (.val (.int p)))∧(c=false→B2t [.tup (ss.map .int),w]=ret (.val (.int p)))
def St.there (es:List Ent):St→Prop
  | .call n _=> (B7C es n).isSome=true
  | .deed _=> True
def C0g (x:Str):St→Bool
  | .call n _=> n==x
  | .deed _=> false
def tooLong:AExc:=⟨"TooLong",initF (W.str "too long") ["most"] [.int 200]⟩
end
end Ab
namespace Ab
open PySem PySem.Spec PyProof.Rows L2 RZ
def R1 (l:List Nat):Str:=⟨l.toArray⟩
theorem A8y {l:List Nat}:(R1 l).length=l.length:=by simp [R1,Str.length]
theorem B5G {l:List Nat}:(R1 l).cps.toList=l:=by simp [R1]
theorem A4G (x:Str):R1 x.cps.toList=x:=by simp [R1]
theorem A8r {a b:List Nat} (h:R1 a=R1 b):a=b:=by
  have z:=congrArg (fun s:Str=> s.cps.toList) h
  simpa [R1] using z
section
variable {k:SV→MC} {l:List Nat}
theorem A98 {x:Str} {lo hi:Option Int}:slc (.val (.str x)) lo hi k=E8 (x.length≤sizeLine) (k (.val (.str (Txt.slice x lo hi)))):=rfl
theorem B0R {j c:Nat} (h:l[j]? =some c):C7 oIx (.val (.str (R1 l))) (.val (.int (j:Int))) k=E8 (l.length≤sizeLine) (k (.val (.str (R1 [c])))):=by
  have e:L2.atI (R1 l).cps.toList (j:Int)=some c:=by
    rw [B5G]
    exact atI_nat h
  funext h Q E
  refine propext ⟨fun ⟨z1,c',z2,z3⟩=> ?_,fun ⟨z1,z2⟩=> ⟨by rw [A8y];exact z1,c,e,z2⟩⟩
  rw [e] at z2
  cases z2
  exact ⟨by rw [A8y] at z1;exact z1,z3⟩
end
end Ab
namespace Ab
open PySem PySem.Spec PyProof.Rows L2 RZ
def A14 (x_text:W):MC:=
  (G5 (tOr (U6 (D3 (Z4 (fun i j=> decide (i≤j)) (fun i j=> decide (i≤j)) (eC (.int 1)) (C0 B4 (B3 (eV (.val x_text)) B8)) (eC (.int 30))))) (U6 (D3 (C0 Q8 (B3 (T5 (A1O (eV (.val x_text))) fun x_sign kk=> U7 V8 (A0 (A8 (oInS false) (eV (.val x_sign)) (eC (.str ("0123456789":Str))))) kk) B8))))) ((eC (.bl false)) ret) ((eOr (A8 (B5 false) (C0 B4 (B3 (eV (.val x_text)) B8)) (eC (.int 1))) (A8 (B5 true) (A8 oIx (eV (.val x_text)) (eC (.int 0))) (eC (.str ("0":Str))))) ret))
def Y4:List W→MC
  | [x_text]=> A14 x_text
  | _=> bad
def A45 (x_step:W):MC:=
  ((A2n (eC (.str (" ":Str))) (T5 (o8 (A0 (eV (.val x_step)))) fun x_thing kk=> U7 V8 (A0 (C0 Y0 (B3 (eV (.val x_thing)) B8))) kk)) ret)
def A7s:List W→MC
  | [x_step]=> A45 x_step
  | _=> bad
def A2M (x_words:W):MC:=
  (G5 (tOr (D3 (A8 (B5 true) (C0 B4 (B3 (eV (.val x_words)) B8)) (eC (.int 3)))) (tOr (U6 (D3 (D5 A0o (A2 (A0 (A8 oIx (eV (.val x_words)) (eC (.int 1)))) B2)))) (U6 (D3 (D5 Y4 (A2 (A0 (A8 oIx (eV (.val x_words)) (eC (.int 2)))) B2)))))) ((eC .non) ret) ((Q1 (A2 (A0 (eC (.str ("call":Str)))) (A2 (A0 (A8 oIx (eV (.val x_words)) (eC (.int 1)))) (A2 (A0 (C0 T2 (B3 (A8 oIx (eV (.val x_words)) (eC (.int 2))) B8))) B2)))) ret))
def z9:List W→MC
  | [x_words]=> A2M x_words
  | _=> bad
def A2O (x_text:W):MC:=
  (A2q (A0 (eM1 X6 (eV (.val x_text)) (eC (.str (" ":Str))))) fun x_word x_rest=> (G5 (D3 (A8 (B5 false) (eV (.val x_word)) (eC (.str ("call":Str))))) ((D5 z9 (A2 (A0 (A8 oAdd (Q2 (A2 (A0 (eV (.val x_word))) B2)) (eV x_rest))) B2)) ret) (G5 (tOr (D3 (A6B true ([(("over":Str),3),(("down":Str),3),(("swap":Str),2),(("tap":Str),2),(("drain":Str),2)]:List (Str×Int)) (A0 (eV (.val x_word))))) (U6 (D3 (Z4 (fun i j=> decide (i≤j)) (fun i j=> decide (i≤j)) (A4V ([(("over":Str),3),(("down":Str),3),(("swap":Str),2),(("tap":Str),2),(("drain":Str),2)]:List (Str×Int)) (A0 (eV (.val x_word)))) (C0 B4 (B3 (eV x_rest) B8)) (A4V ([(("over":Str),7),(("down":Str),7),(("swap":Str),2),(("tap":Str),2),(("drain":Str),2)]:List (Str×Int)) (A0 (eV (.val x_word)))))))) ((eC .non) ret) (G5 (U6 (D3 (C0 Q8 (B3 (T5 (o8 (A0 (eV (.val (SV.fz x_rest))))) fun x_one kk=> U7 V8 (A0 (A0H Y4 (A2 (A0 (eV (.val x_one))) B2))) kk) B8)))) ((eC .non) ret) ((A8 oAdd (Q1 (A2 (A0 (eV (.val x_word))) B2)) (C0 O8 (B3 (T5 (o8 (A0 (eV (.val (SV.fz x_rest))))) fun x_one kk=> U7 V8 (A0 (C0 T2 (B3 (eV (.val x_one)) B8))) kk) B8))) ret)))))
def z8:List W→MC
  | [x_text]=> A2O x_text
  | _=> bad
def blank:Str:=(" ":Str)
theorem B3d:blank=⟨#[32]⟩:=by decide+kernel
def jl (c:Nat):List (List Nat)→List Nat
  | []=> []
  | [p]=> p
  | p::q::r=> p++c::jl c (q::r)
theorem A8T {c:Nat}:∀{p p' t t':List Nat},c∉p→c∉p'→p++c::t=p'++c::t'→p=p'∧t=t'
  | [],[],t,t',_,_,h=> by
    injection h with _ h
    exact ⟨rfl,h⟩
  | [],x::p',t,t',_,n,h=> by
    injection h with h1 h2
    exact absurd (h1▸List.mem_cons_self) n
  | x::p,[],t,t',n,_,h=> by
    injection h with h1 h2
    exact absurd (h1▸List.mem_cons_self) n
  | x::p,y::p',t,t',n,n',h=> by
    injection h with h1 h2
    obtain ⟨a,b⟩:=A8T (fun z=> n (List.mem_cons_of_mem _ z)) (fun z=> n' (List.mem_cons_of_mem _ z)) h2
    exact ⟨by rw [h1,a],b⟩
theorem A8t {c:Nat}:∀{ps qs:List (List Nat)},ps≠[]→qs≠[]→(∀p∈ps,c∉p)→(∀p∈qs,c∉p)→jl c ps=jl c qs→ps=qs
  | [],_,n,_,_,_,_=> absurd rfl n
  | _,[],_,n,_,_,_=> absurd rfl n
  | [p],[q],_,_,_,_,h=> by
    have h:p=q:=h
    rw [h]
  | [p],q::r::s,_,_,f,_,h=> by
    have h:p=q++c::jl c (r::s):=h
    exact absurd (h▸List.mem_append_right _ List.mem_cons_self) (f p List.mem_cons_self)
  | p::r::s,[q],_,_,_,f,h=> by
    have h:p++c::jl c (r::s)=q:=h
    exact absurd (h▸List.mem_append_right _ List.mem_cons_self) (f q List.mem_cons_self)
  | p::r::s,q::r'::s',_,_,f,g,h=> by
    have h:p++c::jl c (r::s)=q++c::jl c (r'::s'):=h
    obtain ⟨a,b⟩:=A8T (f p List.mem_cons_self) (g q List.mem_cons_self) h
    rw [a,A8t (List.cons_ne_nil _ _) (List.cons_ne_nil _ _) (fun x hx=> f x (List.mem_cons_of_mem _ hx)) (fun x hx=> g x (List.mem_cons_of_mem _ hx)) b]
abbrev E1 (x:Str):List Nat:=x.cps.toList
theorem A8i (a b:Str):E1 (a++b)=E1 a++E1 b:=by
  show (Str.append a b).cps.toList=_
  simp [Str.append]
theorem A9C {a b:Str} (h:E1 a=E1 b):a=b:=by
  rw [←A4G a,←A4G b]
  exact congrArg R1 h
theorem A3o (a:Str):(E1 a).length=a.length:=by simp [E1,Str.length]
theorem A5L (c:Nat):∀ws:List Str,E1 (Str.join ⟨#[c]⟩ ws)=jl c (ws.map E1)
  | []=> rfl
  | [x]=> rfl
  | x::y::r=> by
    show E1 (x++⟨#[c]⟩++Str.join ⟨#[c]⟩ (y::r))=E1 x++c::jl c ((y::r).map E1)
    rw [A8i,A8i,A5L c (y::r),List.append_assoc]
    rfl
theorem A9x (s:Str) (ws:List Str):Txt.join s ws=Str.join s ws:=StrLaws.glued_eq_join s ws
theorem A5I (x y:Str):Txt.split x y≠[]:=fun e=> by
  have z:=split_pos x y
  rw [e] at z
  exact absurd z (by decide)
theorem B2u {c:Nat} {ws:List Str} (ne:ws≠[]) (f:∀w∈ws,c∉E1 w):Txt.split (Str.join ⟨#[c]⟩ ws) ⟨#[c]⟩=ws:=by
  have e1:=StrLaws.join_split (Str.join ⟨#[c]⟩ ws) ⟨#[c]⟩
  have e2:=congrArg E1 e1
  rw [A5L,A5L] at e2
  have e3:=A8t (by simpa using A5I _ _) (by simpa using ne) (fun p hp=> by
    obtain ⟨w,hw,rfl⟩:=List.mem_map.mp hp
    exact StrLaws.split_free _ c w hw) (fun p hp=> by
    obtain ⟨w,hw,rfl⟩:=List.mem_map.mp hp
    exact f w hw) e2
  exact (List.map_inj_right (fun a b=> A9C)).mp e3
def Q3 (i:Int):Str:=Str.ofString (toString i)
def I8 (x:Str):Bool:=decide (1≤x.length∧x.length≤30) && ((E1 x).all (fun c=> decide (48≤c∧c≤57)) && (decide (x.length=1) || decide ((E1 x)[0]? ≠some 48)))
def Q7 (x:Str):Int:=(NumText.digitsVal (E1 x):Nat)
theorem u9 {x:Str} (h:I8 x=true):NumText.AllDigits (E1 x)∧E1 x≠[]∧x.length≤30:=by
  unfold I8 at h
  simp only [Bool.and_eq_true,decide_eq_true_eq,List.all_eq_true] at h
  obtain ⟨⟨h1,h2⟩,h3,_⟩:=h
  refine ⟨fun c hc=> h3 c hc,fun e=> ?_,h2⟩
  have z:=A3o x
  rw [e] at z
  have z:0=x.length:=z
  omega
theorem A3x {x:Str} (h:I8 x=true):intText? x=some (Q7 x):=by
  obtain ⟨a,b,c⟩:=u9 h
  exact intText_digits a b (by omega)
theorem A5N (m:Nat):E1 (Q3 (m:Int))=(Nat.toDigits 10 m).map Char.toNat:=PySem.W.KIN.signs_num m
theorem B3g (m:Nat):Q7 (Q3 (m:Int))=m:=by
  unfold Q7
  rw [A5N,PySem.W.KIN.val_back]
theorem A7Q {m:Nat} (h:10≤m):∃c r,Nat.toDigits 10 m=c::r∧r≠[]∧c.toNat≠48:=by
  induction m using Nat.strongRecOn with
  | ind m ih=>
    have hm:m % 10 < 10:=Nat.mod_lt m (by decide)
    have t:Nat.toDigits 10 (m / 10)++Nat.toDigits 10 (m % 10)=Nat.toDigits 10 (10*(m / 10)+m % 10):=Nat.toDigits_append_toDigits (by decide) (by omega) hm
    rw [Nat.div_add_mod] at t
    rw [←t,Nat.toDigits_of_lt_base hm]
    by_cases g:m / 10 < 10
    · rw [Nat.toDigits_of_lt_base g]
      refine ⟨_,_,rfl,List.cons_ne_nil _ _,fun z=> ?_⟩
      have q:=PySem.W.KIN.digit_back (m / 10) g
      rw [z] at q
      omega
    · obtain ⟨c,r,e1,e2,e3⟩:=ih (m / 10) (by omega) (by omega)
      refine ⟨c,_,by rw [e1];rfl,by simp,e3⟩
theorem B4b {m:Nat}:10≤m→10 ^ ((Nat.toDigits 10 m).length - 1)≤m:=by
  induction m using Nat.strongRecOn with
  | ind m ih=>
    intro h
    have hm:m % 10 < 10:=Nat.mod_lt m (by decide)
    have t:Nat.toDigits 10 (m / 10)++Nat.toDigits 10 (m % 10)=Nat.toDigits 10 (10*(m / 10)+m % 10):=Nat.toDigits_append_toDigits (by decide) (by omega) hm
    rw [Nat.div_add_mod] at t
    rw [←t,Nat.toDigits_of_lt_base hm,List.length_append,List.length_singleton]
    by_cases g:m / 10 < 10
    · rw [Nat.toDigits_of_lt_base g]
      show 10 ^ (1+1 - 1)≤m
      omega
    · have i:=ih (m / 10) (by omega) (by omega)
      obtain ⟨c,r,e1,_,_⟩:=A7Q (m:=m / 10) (by omega)
      rw [e1] at i ⊢
      simp only [List.length_cons,Nat.add_sub_cancel] at i ⊢
      rw [Nat.pow_succ]
      omega
theorem B39 (m:Nat):NumText.AllDigits (E1 (Q3 (m:Int))):=fun c hc=> by
  rw [A5N] at hc
  obtain ⟨ch,hch,e⟩:=List.mem_map.mp hc
  have r:=PyProof.Rows.digit_range (Nat.isDigit_of_mem_toDigits (by decide) (by decide) hch)
  rw [←e]
  exact r
theorem A0B {i:Int} (h0:0≤i) (h1:i < O0):I8 (Q3 i)=true∧Q7 (Q3 i)=i:=by
  obtain ⟨m,rfl⟩:=Int.eq_ofNat_of_zero_le h0
  refine ⟨?_,B3g m⟩
  have g:O0=((10 ^ 30:Nat):Int):=by decide
  rw [g] at h1
  have hm:m < 10 ^ 30:=by exact_mod_cast h1
  have el:=A3o (Q3 (m:Int))
  have ln:1≤(E1 (Q3 (m:Int))).length∧(E1 (Q3 (m:Int))).length≤30∧((E1 (Q3 (m:Int))).length=1∨(E1 (Q3 (m:Int)))[0]? ≠some 48):=by
    rw [A5N,List.length_map]
    by_cases g:m < 10
    · rw [Nat.toDigits_of_lt_base g]
      exact ⟨by simp,by simp,.inl rfl⟩
    · obtain ⟨c,r,e1,e2,e3⟩:=A7Q (m:=m) (by omega)
      have z:=B4b (m:=m) (by omega)
      refine ⟨by rw [e1];simp,?_,.inr ?_⟩
      · refine Decidable.byContradiction fun q=> ?_
        have q2:30≤(Nat.toDigits 10 m).length - 1:=by omega
        have z2:10 ^ 30≤10 ^ ((Nat.toDigits 10 m).length - 1):=Nat.pow_le_pow_right (by decide) q2
        omega
      · rw [e1]
        show some c.toNat≠some 48
        intro q
        exact e3 (Option.some.inj q)
  obtain ⟨l1,l2,l3⟩:=ln
  rw [el] at l1 l2 l3
  unfold I8
  simp only [Bool.and_eq_true,Bool.or_eq_true,decide_eq_true_eq,List.all_eq_true]
  exact ⟨⟨l1,l2⟩,fun c hc=> B39 m c hc,l3⟩
theorem B5E {x:Str} {c:Nat} (h:NumText.AllDigits (E1 x)) (hc:¬(48≤c∧c≤57)):c∉E1 x:=fun z=> hc (h c z)
theorem A9W (c:Nat) (y:Str):V6 ⟨#[c]⟩ y=decide (c∈E1 y):=by
  unfold V6
  have f:=StrLaws.found_iff y ⟨#[c]⟩
  by_cases h:c∈E1 y
  · rw [decide_eq_true h]
    obtain ⟨j,hj⟩:=List.getElem?_of_mem h
    exact f.mpr ⟨j,(StrLaws.subAt_one y c j).mpr hj⟩
  · rw [decide_eq_false h]
    cases e: !(Builtin.Str.occurrences y ⟨#[c]⟩ 0 y.length 1).isEmpty with
    | false=> rfl
    | true=>
      obtain ⟨j,hj⟩:=f.mp e
      exact absurd (List.mem_of_getElem? ((StrLaws.subAt_one y c j).mp hj)) h
theorem B43:E1 ("0123456789":Str)=[48,49,50,51,52,53,54,55,56,57]:=by decide+kernel
theorem A9K (c:Nat):V6 ⟨#[c]⟩ ("0123456789":Str)=decide (48≤c∧c≤57):=by
  rw [A9W,B43]
  refine decide_eq_decide.mpr ?_
  simp only [List.mem_cons,List.not_mem_nil,or_false]
  omega
theorem A5E:Str.ofString "0"=R1 [48]:=by decide+kernel
theorem A7R {x:Str} (l:x.length≤10000):Y4 [.str x]=ret (.val (.bl (I8 x))):=by
  show A14 _=_
  unfold A14
  have l2:x.length≤16777216:=by omega
  have l3:x.cps.toList.length≤sizeLine:=by
    have e:x.cps.toList.length=x.length:=by simp [Str.length]
    rw [e,F8];omega
  simp only [↓A3w,↓A3k,↓E5,↓G2,↓I5,↓F9,↓K7,↓K6,↓K8,↓P8,↓M6,↓T0,↓A1S,↓B0e,↓A1Z,↓O1,↓O9,↓P3,↓W2,↓I0,↓U3,↓A03,↓x7,if_true,Bool.not_false,decide_eq_true_eq,F8,l2,U3]
  unfold I8
  by_cases a:1≤x.length
  · by_cases b:x.length≤30
    · rw [if_pos (by omega),if_neg (by simp;omega),decide_eq_true (p:=1≤x.length∧x.length≤30) ⟨a,b⟩,Bool.true_and]
      show M7 _ _ (x.cps.toList.map fun c=> W.str ⟨#[c]⟩) []=_
      rw [d8 (fun c:Nat=> W.str ⟨#[c]⟩) (fun c=> .bl (decide (48≤c∧c≤57))) x.cps.toList (fun c _ kk=> by rw [A4Y,←A9K];rfl) l3]
      rw [show (x.cps.toList.map fun c=> W.bl (decide (48≤c∧c≤57)))=(x.cps.toList.map fun c=> decide (48≤c∧c≤57)).map W.bl by rw [List.map_map];rfl,o9,List.all_map]
      simp only [I0]
      show _=ret (.val (.bl (((E1 x).all fun c=> decide (48≤c∧c≤57)) && _)))
      show (if (!(E1 x).all fun c=> decide (48≤c∧c≤57))=true then _ else _)=_
      cases (E1 x).all fun c=> decide (48≤c∧c≤57) with
      | false=> rfl
      | true=>
        rw [if_neg (by decide)]
        by_cases g:x.length=1
        · rw [if_pos (by omega),decide_eq_true g]
          rfl
        · rw [if_neg (by omega),decide_eq_false g]
          have hl:=A3o x
          have e0:(E1 x)[0]? =some ((E1 x).getD 0 0):=by
            rw [List.getD_eq_getElem?_getD,List.getElem?_eq_getElem (by omega)]
            rfl
          have z:=B0R (k:=fun x=> C7 (B5 true) x (.val (.str (Str.ofString "0"))) ret) (l:=E1 x) (j:=0) e0
          rw [A4G] at z
          refine z.trans ?_
          rw [D1 (by rw [hl,F8];omega),A5E]
          rw [e0]
          simp only [↓A9J]
          congr 3
          rw [Bool.true_and,Bool.false_or,←decide_not]
          refine decide_eq_decide.mpr ?_
          simp only [ne_eq,Option.some.injEq]
          exact not_congr ⟨fun z=> by have:=A8r z;injection this,fun z=> by rw [z]⟩
    · rw [if_pos (by omega),if_pos (by simp;omega),decide_eq_false (p:=1≤x.length∧x.length≤30) (fun z=> b z.2)]
      rfl
  · rw [if_neg (by omega),decide_eq_false (p:=1≤x.length∧x.length≤30) (fun z=> a z.1)]
    rfl
def R0:W→Str
  | .str s=> s
  | .int i=> Q3 i
  | _=> Str.empty
def A4o (w:W):Prop:=(∃s:Str,w= .str s∧s.length≤1000)∨∃i:Int,w= .int i∧0≤i∧i < O0
theorem B4i {w:W} (h:A4o w):(R0 w).length≤1000:=by
  rcases h with ⟨s,rfl,l⟩ | ⟨i,rfl,h0,h1⟩
  · exact l
  · have z:=(u9 (A0B h0 h1).1).2.2
    show (Q3 i).length≤1000
    omega
theorem B5x {i:Int} (h0:0≤i) (h1:i < O0):i.natAbs.log2 < 1920:=by
  have g:O0=((10 ^ 30:Nat):Int):=by decide
  rw [g] at h1
  have h:i.natAbs < 10 ^ 30:=by omega
  by_cases z:i.natAbs=0
  · rw [z];decide
  · exact (Nat.log2_lt z).mpr (Nat.lt_of_lt_of_le h (by decide+kernel))
theorem A5P {l:List Str} {b:Nat} (h:∀x∈l,x.length≤b):(l.map (·.length)).sum≤l.length*b:=by
  induction l with
  | nil=> simp
  | cons x l ih=>
    have a:=h x List.mem_cons_self
    have c:=ih fun y hy=> h y (List.mem_cons_of_mem _ hy)
    simp only [List.map_cons,List.sum_cons,List.length_cons,Nat.succ_mul]
    omega
theorem A70 {ws:List W} {k:SV→MC} (h:∀w∈ws,A4o w) (hl:ws.length≤1000):M7 (fun x_thing kk=> cb Y0 [.val x_thing] fun x=> kk (some x.fz)) (fun acc=> A2m (.val (.str (Str.ofString " "))) (.own (.seq acc)) k) ws []=k (.val (.str (Str.join blank (ws.map R0)))):=by
  have e:=d8 (k:=fun acc=> A2m (.val (.str (Str.ofString " "))) (.own (.seq acc)) k) (body:=fun x_thing kk=> cb Y0 [.val x_thing] fun x=> kk (some x.fz)) id (fun w=> W.str (R0 w)) ws (fun w hw kk=> by
    rcases h w hw with ⟨s,rfl,l⟩ | ⟨i,rfl,h0,h1⟩
    · rfl
    · show cb Y0 [.val (.int i)] _=_
      rw [B4V,D1 (B5x h0 h1)]
      rfl) (by rw [F8];omega)
  rw [List.map_id] at e
  refine e.trans ?_
  rw [show (ws.map fun w=> W.str (R0 w))=(ws.map R0).map W.str by rw [List.map_map];rfl,A8I,D1,A9x]
  · rfl
  have s:=A5P (l:=ws.map R0) (b:=1000) fun x hx=> by
    obtain ⟨w,hw,rfl⟩:=List.mem_map.mp hx
    exact B4i (h w hw)
  rw [List.length_map] at s ⊢
  have:(Str.ofString " ").length=1:=by decide+kernel
  rw [this]
  omega
theorem B1j {x:W} {ws:List W} (hx:x= .tup ws) (h:∀w∈ws,A4o w) (hl:ws.length≤1000):A7s [x]=ret (.val (.str (Str.join blank (ws.map R0)))):=by
  subst hx
  show A45 _=_
  unfold A45
  simp only [↓A54,↓A2W,↓E5,↓G2,↓F9,↓K7,↓K6,↓K8,↓P8,↓A1K,↓O9,↓P3,↓D8,↓B27,if_true]
  exact A70 h hl
def A5l:List Str→W
  | [_,b,c]=> if S9 b=true∧I8 c=true then .tup [.str "call",.str b,.int (Q7 c)] else .non
  | _=> .non
theorem v5 {ws:List Str} {j:Nat} {w:Str} {k:W→MC} (h:ws[j]? =some w):O5 (ws.map W.str) (j:Int) k=k (.str w):=by
  unfold O5
  rw [show L2.atI (ws.map W.str) (j:Int)=some (.str w) from atI_nat (by rw [List.getElem?_map,h];rfl)]
theorem B2d {ws:List Str} (h:∀w∈ws,w.length≤1000):z9 [.lst (ws.map W.str)]=ret (.val (A5l ws)):=by
  show A2M _=_
  unfold A2M
  simp only [↓E5,↓G2,↓I5,↓F9,↓I9,↓K2,↓s4,↓K7,↓K6,↓K8,↓M6,↓T0,↓A1S,↓S8,↓O1,↓D8,↓I0,↓U3,↓A2t,↓A2l,↓A2o,if_true,List.length_map,List.length_cons,List.length_nil,F8,Nat.zero_add,Nat.reduceAdd,Nat.reduceLeDiff]
  match ws,h with
  | [],_=> rfl
  | [_],_=> rfl
  | [_,_],_=> rfl
  | a::b::c::d::r,_=>
    rw [if_pos (by simp;omega)]
    rfl
  | [a,b,c],h=>
    have hb:=h b (by simp)
    have hc:=h c (by simp)
    rw [if_neg (by simp)]
    rw [show ((1:Int))=((1:Nat):Int) from rfl,show ((2:Int))=((2:Nat):Int) from rfl,v5 (w:=b) rfl]
    simp only [B2p hb,A7R (show c.length≤10000 by omega),↓I0,↓A1J,v5 (ws:=[a,b,c]) (j:=1) (w:=b) rfl,v5 (ws:=[a,b,c]) (j:=2) (w:=c) rfl]
    show _=ret (.val (if S9 b=true∧I8 c=true then W.tup [.str "call",.str b,.int (Q7 c)] else .non))
    cases hn:S9 b with
    | false=> simp
    | true=>
      cases hf:I8 c with
      | false=> simp
      | true=>
        have z:=(u9 hf).2.2
        simp only [Bool.not_true,Bool.false_eq_true,if_false,A39 (A3x hf),D1 (show c.length≤640 by omega),D8,and_self,if_true]
abbrev leastT:List (Str×Int):=[(("over":Str),3),(("down":Str),3),(("swap":Str),2),(("tap":Str),2),(("drain":Str),2)]
abbrev A1d:List (Str×Int):=[(("over":Str),7),(("down":Str),7),(("swap":Str),2),(("tap":Str),2),(("drain":Str),2)]
def X0 (w:Str):Option (Int×Int):=match K3 leastT w with
  | some a=> some (a,(K3 A1d w).getD 0)
  | none=> none
theorem B2s {w:Str} {a:Int} (h:K3 leastT w=some a):K3 A1d w=some ((K3 A1d w).getD 0):=by
  cases e:K3 A1d w with
  | some b=> rfl
  | none=>
    unfold K3 at h e
    rw [Option.map_eq_none_iff,List.find?_eq_none] at e
    obtain ⟨p,hp,_⟩:=Option.map_eq_some_iff.mp h
    have hm:=List.mem_of_find?_eq_some hp
    have hq:=List.find?_some hp
    simp only [List.mem_cons,List.not_mem_nil,or_false] at hm
    exfalso
    rcases hm with rfl | rfl | rfl | rfl | rfl
    · exact e (("over":Str),7) (by simp) hq
    · exact e (("down":Str),7) (by simp) hq
    · exact e (("swap":Str),2) (by simp) hq
    · exact e (("tap":Str),2) (by simp) hq
    · exact e (("drain":Str),2) (by simp) hq
def Y8:List Str→W
  | []=> .non
  | w::rest=> if w=("call":Str) then A5l (w::rest) else match X0 w with
    | none=> .non
    | some (a,b)=> if a≤(rest.length:Int)∧(rest.length:Int)≤b then (if rest.all I8=true then .tup (.str w::rest.map fun f=> .int (Q7 f)) else .non) else .non
theorem A2K {w:Str} {rest:List Str}:Y8 (w::rest)=if w=("call":Str) then A5l (w::rest) else match X0 w with
    | none=> .non
    | some (a,b)=> if a≤(rest.length:Int)∧(rest.length:Int)≤b then (if rest.all I8=true then .tup (.str w::rest.map fun f=> .int (Q7 f)) else .non) else .non:=rfl
theorem A7y {x:Str} (hl:x.length≤1000):z8 [.str x]=ret (.val (Y8 (Txt.split x blank))):=by
  show A2O _=_
  unfold A2O
  have bl:(blank.length==0)=false:=by decide+kernel
  have hw:∀w∈Txt.split x blank,w.length≤1000:=fun w h=> Nat.le_trans (part_short h) hl
  have hn:=split_le x blank
  have ne:=A5I x blank
  have c1:(Str.length (Str.ofString " ")==0)=false∧x.length+2≤sizeLine:=⟨bl,by rw [F8];omega⟩
  simp only [↓A2W,↓A6m,↓B56,↓B5o,↓A5Y,↓E5,↓G2,↓I5,↓F9,↓I9,↓K2,↓s4,↓s8,↓K7,↓K6,↓K8,↓P8,↓M6,↓T0,↓A1S,↓A1Z,↓S8,↓W3,↓A1K,↓O1,↓B42,↓O9,↓P3,↓D8,↓Y7,↓I0,↓U3,↓A5z,↓A4E,if_true,Bool.not_false,decide_eq_true_eq,List.length_cons,List.length_nil,F8,Nat.zero_add,Nat.reduceLeDiff,↓c1,and_self,U3]
  show A1l (.lst ((Txt.split x blank).map W.str)) _=_
  revert hw hn ne
  generalize Txt.split x blank=ws
  intro hw hn ne
  match ws,ne,hw,hn with
  | w::rest,_,hw,hn=>
    have hr:∀f∈rest,f.length≤1000:=fun f h=> hw f (List.mem_cons_of_mem _ h)
    rw [List.length_cons] at hn
    rw [List.map_cons]
    have ls:rest.length≤sizeLine:=by rw [F8];omega
    have f1:∀kk,M7 (fun x_one kk=> call0 (Y4 [x_one]) fun x=> kk (some x.fz)) kk (rest.map W.str) []=kk ((rest.map I8).map W.bl):=fun kk=> by
      rw [d8 W.str (fun f=> .bl (I8 f)) rest (fun f hf kk=> by rw [A7R (Nat.le_trans (hr f hf) (by decide))];rfl) ls,List.map_map]
      rfl
    have f2:∀kk,(∀f∈rest,I8 f=true)→M7 (fun x_one kk=> cb T2 [.val x_one] fun x=> kk (some x.fz)) kk (rest.map W.str) []=kk (rest.map fun f=> .int (Q7 f)):=fun kk h=> by
      rw [d8 W.str (fun f=> .int (Q7 f)) rest (fun f hf kk=> by rw [A39 (A3x (h f hf)),D1 (by have:=(u9 (h f hf)).2.2;omega)];rfl) ls]
    simp only [↓B6F,↓Y7,↓W2,↓I0,↓A3b,↓B4O,↓A8v,↓A5k,↓A2k,if_true,decide_eq_true_eq,List.length_map,List.length_cons,List.length_nil,F8,Nat.zero_add,List.length_map]
    rw [A2K]
    by_cases hc:w=("call":Str)
    · rw [if_pos hc,if_pos hc,D1 (by omega)]
      show call (z9 [.lst ((w::rest).map W.str)]) ret=_
      rw [B2d hw]
      rfl
    · rw [if_neg hc,if_neg hc]
      unfold X0
      cases e1:K3 leastT w with
      | none=>
        rfl
      | some a=>
        have e2:=B2s e1
        generalize (K3 A1d w).getD 0=b at e2 ⊢
        refine (if_neg (by simp)).trans ?_
        show A4b leastT (.str w) _=_
        rw [A9l e1]
        simp only [↓W2,List.length_map]
        by_cases l1:a≤(rest.length:Int)
        · rw [if_pos l1]
          show A4b A1d (.str w) _=_
          rw [A9l e2]
          simp only [↓W2,List.length_map]
          by_cases l2:(rest.length:Int)≤b
          · rw [if_neg (by simp;omega),f1,o9]
            rw [I0]
            show _=ret (.val (if a≤(rest.length:Int)∧(rest.length:Int)≤b then (if rest.all I8=true then .tup (.str w::rest.map fun f=> .int (Q7 f)) else .non) else .non))
            rw [if_pos (show a≤(rest.length:Int)∧(rest.length:Int)≤b from ⟨l1,l2⟩)]
            cases ea:rest.all I8 with
            | false=>
              rw [show (rest.map I8).all id=rest.all I8 by rw [List.all_map];rfl,ea]
              rfl
            | true=>
              rw [show (rest.map I8).all id=rest.all I8 by rw [List.all_map];rfl,ea,if_pos rfl]
              refine (if_neg (by simp)).trans ?_
              rw [f2 _ (List.all_eq_true.mp ea),D1 (by rw [List.length_map];omega)]
              rfl
          · rw [if_pos (by simp;omega)]
            show _=ret (.val (if a≤(rest.length:Int)∧(rest.length:Int)≤b then _ else .non))
            rw [if_neg (fun z=> l2 z.2)]
        · rw [if_neg l1]
          show _=ret (.val (if a≤(rest.length:Int)∧(rest.length:Int)≤b then _ else .non))
          rw [if_neg (fun z=> l1 z.1)]
theorem B23 {ws:List Str} (ne:ws≠[]) (f:∀w∈ws,32∉E1 w):Txt.split (Str.join blank ws) blank=ws:=by
  rw [B3d]
  exact B2u ne f
theorem A8M {i:Int} (h0:0≤i) (h1:i < O0):32∉E1 (Q3 i):=B5E (u9 (A0B h0 h1).1).1 (by omega)
theorem B3O {x:Str} (h:S9 x=true):32∉E1 x:=fun z=> by
  unfold S9 at h
  simp only [Bool.and_eq_true,List.all_eq_true] at h
  have q:=h.2.2 32 z
  rw [A9W] at q
  revert q
  decide+kernel
theorem B2o {w:Str} {xs:List Int} {a b:Int} (h:∀x∈xs,0≤x∧x < O0) (hw:w≠("call":Str)) (ha:X0 w=some (a,b)) (l1:a≤(xs.length:Int)) (l2:(xs.length:Int)≤b):
    Y8 (w::xs.map Q3)= .tup (.str w::xs.map .int):=by
  rw [A2K,if_neg hw,ha]
  show (if a≤((xs.map Q3).length:Int)∧((xs.map Q3).length:Int)≤b then _ else W.non)=_
  rw [List.length_map,if_pos ⟨l1,l2⟩,if_pos]
  · rw [List.map_map]
    congr 2
    refine List.map_congr_left fun x hx=> ?_
    show W.int (Q7 (Q3 x))=_
    rw [(A0B (h x hx).1 (h x hx).2).2]
  · rw [List.all_map,List.all_eq_true]
    exact fun x hx=> (A0B (h x hx).1 (h x hx).2).1
theorem B3c {n:Str} {i:Int} (hn:S9 n=true) (h0:0≤i) (h1:i < O0):Y8 [("call":Str),n,Q3 i]= .tup [.str "call",.str n,.int i]:=by
  rw [A2K,if_pos rfl]
  show (if S9 n=true∧I8 (Q3 i)=true then _ else _)=_
  rw [if_pos ⟨hn,(A0B h0 h1).1⟩,(A0B h0 h1).2]
structure SGood (x:W) (ws:List W):Prop where
  eq:x= .tup ws
  ne:ws≠[]
  len:ws.length≤1000
  th:∀w∈ws,A4o w
  short:∀w∈ws,(R0 w).length≤30
  free:∀w∈ws,32∉E1 (R0 w)
  back:Y8 (ws.map R0)=x
  ten:ws.length≤8
def Y9 (ws:List W):Str:=Str.join blank (ws.map R0)
theorem A5K {l:List Str} {b:Nat} (h:∀x∈l,x.length≤b):(Str.join blank l).length≤l.length*(b+1):=by
  have z:=StrLaws.join_length_le blank l
  have s:=A5P h
  have e:blank.length=1:=by decide+kernel
  rw [e] at z
  rw [Nat.mul_succ]
  omega
theorem SGood.tlen {x:W} {ws:List W} (g:SGood x ws):(Y9 ws).length≤1000:=by
  have z:=A5K (l:=ws.map R0) (b:=30) fun y hy=> by
    obtain ⟨w,hw,rfl⟩:=List.mem_map.mp hy
    exact g.short w hw
  rw [List.length_map] at z
  have t:=g.ten
  unfold Y9
  omega
theorem SGood.tlen8 {x:W} {ws:List W} (g:SGood x ws):(Y9 ws).length≤250:=by
  have z:=A5K (l:=ws.map R0) (b:=30) fun y hy=> by
    obtain ⟨w,hw,rfl⟩:=List.mem_map.mp hy
    exact g.short w hw
  rw [List.length_map] at z
  have t:=g.ten
  unfold Y9
  omega
theorem SGood.split {x:W} {ws:List W} (g:SGood x ws):Txt.split (Y9 ws) blank=ws.map R0:=
  B23 (by simpa using g.ne) fun y hy=> by
    obtain ⟨w,hw,rfl⟩:=List.mem_map.mp hy
    exact g.free w hw
theorem SGood.text {x:W} {ws:List W} (g:SGood x ws):A7s [x]=ret (.val (.str (Y9 ws))):=B1j g.eq g.th g.len
theorem SGood.read {x:W} {ws:List W} (g:SGood x ws):z8 [.str (Y9 ws)]=ret (.val x):=by
  rw [A7y g.tlen,g.split,g.back]
theorem SGood.sm {x:W} {ws:List W} (g:SGood x ws) (n:Nat):x.sm (n+1)=true:=by
  rw [g.eq]
  refine A9P (by have:=g.len;omega) fun w hw=> ?_
  rcases g.th w hw with ⟨s,rfl,_⟩ | ⟨i,rfl,_⟩
  · cases n <;> rfl
  · cases n <;> rfl
theorem A2S {w:Str} {xs:List Int} {a b:Int} (h:∀x∈xs,0≤x∧x < O0) (hw:w≠("call":Str)) (ha:X0 w=some (a,b)) (l1:a≤(xs.length:Int)) (l2:(xs.length:Int)≤b) (b7:b≤7) (wl:w.length≤30) (wf:32∉E1 w):
    SGood (.tup (.str w::xs.map .int)) (.str w::xs.map .int) where
  eq:=rfl
  ne:=List.cons_ne_nil _ _
  len:=by rw [List.length_cons,List.length_map];omega
  th:=fun y hy=> by
    rcases List.mem_cons.mp hy with rfl | hy
    · exact .inl ⟨w,rfl,by omega⟩
    · obtain ⟨x,hx,rfl⟩:=List.mem_map.mp hy
      exact .inr ⟨x,rfl,h x hx⟩
  short:=fun y hy=> by
    rcases List.mem_cons.mp hy with rfl | hy
    · exact wl
    · obtain ⟨x,hx,rfl⟩:=List.mem_map.mp hy
      exact (u9 (A0B (h x hx).1 (h x hx).2).1).2.2
  free:=fun y hy=> by
    rcases List.mem_cons.mp hy with rfl | hy
    · exact wf
    · obtain ⟨x,hx,rfl⟩:=List.mem_map.mp hy
      exact A8M (h x hx).1 (h x hx).2
  back:=by
    rw [List.map_cons,List.map_map]
    exact B2o h hw ha l1 l2
  ten:=by rw [List.length_cons,List.length_map];omega
theorem B3M {n:Str} {i:Int} (hn:S9 n=true) (h0:0≤i) (h1:i < O0):SGood (.tup [.str "call",.str n,.int i]) [.str "call",.str n,.int i]:=by
  have ln:n.length≤8:=by
    unfold S9 at hn
    simp only [Bool.and_eq_true,decide_eq_true_eq] at hn
    omega
  refine ⟨rfl,List.cons_ne_nil _ _,by simp,fun y hy=> ?_,fun y hy=> ?_,fun y hy=> ?_,B3c hn h0 h1,by simp⟩
  all_goals simp only [List.mem_cons,List.not_mem_nil,or_false] at hy
  · rcases hy with rfl | rfl | rfl
    · exact .inl ⟨_,rfl,by decide+kernel⟩
    · exact .inl ⟨_,rfl,by omega⟩
    · exact .inr ⟨_,rfl,h0,h1⟩
  · rcases hy with rfl | rfl | rfl
    · decide+kernel
    · show n.length≤30
      omega
    · exact (u9 (A0B h0 h1).1).2.2
  · rcases hy with rfl | rfl | rfl
    · decide+kernel
    · exact B3O hn
    · exact A8M h0 h1
def Dd.nums:Dd→List Int
  | .swap i j=> [(i:Int),(j:Int)]
  | .tap n c=> [n,(c:Int)]
  | .drain n c=> [n,(c:Int)]
  | .over n cs=> n::cs.map fun (c:Nat)=> (c:Int)
  | .down n cs=> n::cs.map fun (c:Nat)=> (c:Int)
theorem Dd.w_nums (d:Dd):d.w= .tup (.str d.word::d.nums.map .int):=by
  cases d <;> first | rfl | (simp only [Dd.w,Dd.word,Dd.nums,List.map_cons,List.map_map];rfl)
theorem B46 {ss:List Int} {d:Dd} (hs:A6c ss) (h:d.ok ss):SGood d.w (.str d.word::d.nums.map .int):=by
  have l6:=hs.2.1
  have sm:∀c:Nat,c < 7→(0:Int)≤(c:Int)∧(c:Int) < O0:=fun c hc=> ⟨by omega,by unfold O0;omega⟩
  rw [Dd.w_nums]
  cases d with
  | swap i j=>
    obtain ⟨h1,h2,_,_⟩:=h
    refine A2S (a:=2) (b:=2) (fun x hx=> ?_) (A2c _) (show X0 ("swap":Str)=some (2,2) by decide+kernel) (by simp [Dd.nums]) (by simp [Dd.nums]) (by decide) (show Str.length ("swap":Str)≤30 by decide+kernel) (show 32∉E1 ("swap":Str) by decide+kernel)
    simp only [Dd.nums,List.mem_cons,List.not_mem_nil,or_false] at hx
    rcases hx with rfl | rfl <;> exact sm _ (by omega)
  | tap n c=>
    obtain ⟨h1,h2,h3⟩:=h
    refine A2S (a:=2) (b:=2) (fun x hx=> ?_) (A2c _) (show X0 ("tap":Str)=some (2,2) by decide+kernel) (by simp [Dd.nums]) (by simp [Dd.nums]) (by decide) (show Str.length ("tap":Str)≤30 by decide+kernel) (show 32∉E1 ("tap":Str) by decide+kernel)
    simp only [Dd.nums,List.mem_cons,List.not_mem_nil,or_false] at hx
    rcases hx with rfl | rfl
    · exact ⟨h1,h2⟩
    · exact sm _ (by omega)
  | drain n c=>
    obtain ⟨h1,h2,h3⟩:=h
    refine A2S (a:=2) (b:=2) (fun x hx=> ?_) (A2c _) (show X0 ("drain":Str)=some (2,2) by decide+kernel) (by simp [Dd.nums]) (by simp [Dd.nums]) (by decide) (show Str.length ("drain":Str)≤30 by decide+kernel) (show 32∉E1 ("drain":Str) by decide+kernel)
    simp only [Dd.nums,List.mem_cons,List.not_mem_nil,or_false] at hx
    rcases hx with rfl | rfl
    · exact ⟨h1,h2⟩
    · exact sm _ (by omega)
  | over n cs=>
    obtain ⟨h1,h2,h3,h4,_,h5⟩:=h
    refine A2S (a:=3) (b:=7) (fun x hx=> ?_) (A2c _) (show X0 ("over":Str)=some (3,7) by decide+kernel) (by simp [Dd.nums];omega) (by simp [Dd.nums];omega) (by decide) (show Str.length ("over":Str)≤30 by decide+kernel) (show 32∉E1 ("over":Str) by decide+kernel)
    simp only [Dd.nums,List.mem_cons,List.mem_map] at hx
    rcases hx with rfl | ⟨c,hc,rfl⟩
    · exact ⟨h1,h2⟩
    · exact sm _ (by have:=h5 c hc;omega)
  | down n cs=>
    obtain ⟨h1,h2,h3,h4,_,h5⟩:=h
    refine A2S (a:=3) (b:=7) (fun x hx=> ?_) (A2c _) (show X0 ("down":Str)=some (3,7) by decide+kernel) (by simp [Dd.nums];omega) (by simp [Dd.nums];omega) (by decide) (show Str.length ("down":Str)≤30 by decide+kernel) (show 32∉E1 ("down":Str) by decide+kernel)
    simp only [Dd.nums,List.mem_cons,List.mem_map] at hx
    rcases hx with rfl | ⟨c,hc,rfl⟩
    · exact ⟨h1,h2⟩
    · exact sm _ (by have:=h5 c hc;omega)
end Ab
namespace Ab
open PySem PySem.Spec PyProof.Rows L2 RZ
def A10 (x_text:W):MC:=
  ((A0 (D5 z8 (A2 (A0 (eV (.val x_text))) B2))) fun x_step=> (G5 (D3 (A8 (L1 false) (eV (.val x_step)) (eC .non))) (A5j "BadText" "bad text" ["row"] (A2 (A0 (eC (.int 0))) B2)) ((eV (.val x_step)) ret)))
def A0c:List W→MC
  | [x_text]=> A10 x_text
  | _=> bad
def A1r (x_word:W):MC:=
  (G5 (tOr (U6 (D3 (Z4 (fun i j=> decide (i≤j)) (fun i j=> decide (i≤j)) (eC (.int 1)) (C0 B4 (B3 (eV (.val x_word)) B8)) (eC (.int 30))))) (U6 (D3 (C0 Q8 (B3 (T5 (A1O (eV (.val x_word))) fun x_sign kk=> U7 V8 (A0 (A8 (oInS false) (eV (.val x_sign)) (eC (.str ("0123456789":Str))))) kk) B8))))) ((eC (.bl false)) ret) ((eOr (A8 (B5 false) (eV (.val x_word)) (eC (.str ("0":Str)))) (A8 (B5 true) (A8 oIx (eV (.val x_word)) (eC (.int 0))) (eC (.str ("0":Str))))) ret))
def a9:List W→MC
  | [x_word]=> A1r x_word
  | _=> bad
def A1y (x_word:W):MC:=
  ((g8 (Z4 (fun i j=> decide (i≤j)) (fun i j=> decide (i≤j)) (eC (.int 1)) (C0 B4 (B3 (eV (.val x_word)) B8)) (eC (.int 8))) (C0 Q8 (B3 (T5 (A1O (eV (.val x_word))) fun x_sign kk=> U7 V8 (A0 (A8 (oInS false) (eV (.val x_sign)) (eC (.str ("abcdefghijklmnopqrstuvwxyz":Str))))) kk) B8))) ret)
def A0b:List W→MC
  | [x_word]=> A1y x_word
  | _=> bad
def A2B (x_mtext:W):MC:=
  ((A0 (eM1 X6 (eV (.val x_mtext)) (eC (.str (" ":Str))))) fun x_words=> (G5 (D3 (A8 (B5 false) (A8 oIx (eV (.val x_words)) (eC (.int 0))) (eC (.str ("call":Str))))) ((A0 (g8 (A8 (B5 false) (C0 B4 (B3 (eV (.val x_words)) B8)) (eC (.int 3))) (g8 (D5 A0b (A2 (A0 (A8 oIx (eV (.val x_words)) (eC (.int 1)))) B2)) (D5 a9 (A2 (A0 (A8 oIx (eV (.val x_words)) (eC (.int 2)))) B2))))) fun x_good=> ((eIf (D3 (eV (.val x_good))) (Q1 (A2 (A0 (eC (.str ("call":Str)))) (A2 (A0 (A8 oIx (eV (.val x_words)) (eC (.int 1)))) (A2 (A0 (C0 T2 (B3 (A8 oIx (eV (.val x_words)) (eC (.int 2))) B8))) B2)))) (eC .non)) ret)) ((A0 (A5w (A6D (A2 (A0 (eC (.str ("over":Str)))) (A2 (A0 (eC (.int 8))) (A2 (A0 (eC (.str ("down":Str)))) (A2 (A0 (eC (.int 8))) (A2 (A0 (eC (.str ("swap":Str)))) (A2 (A0 (eC (.int 3))) (A2 (A0 (eC (.str ("tap":Str)))) (A2 (A0 (eC (.int 3))) (A2 (A0 (eC (.str ("drain":Str)))) (A2 (A0 (eC (.int 3))) B2))))))))))) (A0 (A8 oIx (eV (.val x_words)) (eC (.int 0)))) (A0 (eC (.int 0))))) fun x_most=> (G5 (tOr (U6 (D3 (Z4 (fun i j=> decide (i≤j)) (fun i j=> decide (i≤j)) (eIf (D3 (A8 (B5 false) (eV (.val x_most)) (eC (.int 3)))) (eC (.int 3)) (eC (.int 4))) (C0 B4 (B3 (eV (.val x_words)) B8)) (eV (.val x_most))))) (U6 (D3 (C0 Q8 (B3 (T5 (o8 (A0 (Z7 (eV (.val x_words)) (Z2 (eC (.int 1))) Z8))) fun x_word kk=> U7 V8 (A0 (A0H a9 (A2 (A0 (eV (.val x_word))) B2))) kk) B8))))) ((eC .non) ret) ((C0 O8 (B3 (A8 oAdd (Z7 (eV (.val x_words)) Z8 (Z2 (eC (.int 1)))) (T5 (o8 (A0 (Z7 (eV (.val x_words)) (Z2 (eC (.int 1))) Z8))) fun x_word kk=> U7 V8 (A0 (C0 T2 (B3 (eV (.val x_word)) B8))) kk)) B8)) ret)))))
def A0l:List W→MC
  | [x_mtext]=> A2B x_mtext
  | _=> bad
def A1z (x_bag x_mtext:W):MC:=
  ((eM1 X6 (eV (.val x_mtext)) (eC (.str (" ":Str)))) fun x_words=> (A6r (A2 (A0 (D5 D2 (A2 (A0 (eV (.val x_bag))) (A2 (A0 (C0 B4 (B3 (eV x_words) B8))) B2)))) (A2 (A0 (D5 D2 (A2 (A0 (eV (.val x_bag))) (A2 (A0 (C0 B4 (B3 (eV x_words) B8))) B2)))) B2)) fun x_at x_to=> ((A0 (D5 D2 (A2 (A0 (eV (.val x_bag))) (A2 (A0 (A8 oAdd (C0 B4 (B3 (eV (.val x_mtext)) B8)) (eC (.int 1)))) B2)))) fun x_spot=> ((A0 (D5 D2 (A2 (A0 (eV (.val x_bag))) (A2 (A0 (eC (.int 7))) B2)))) fun x_how=> (G5 (D3 (A8 (B5 false) (eV (.val x_how)) (eC (.int 0)))) ((A8 oAdd (A8 oAdd (Z7 (eV (.val x_mtext)) Z8 (Z2 (eV (.val x_spot)))) (D5 L5 (A2 (A0 (eV (.val x_bag))) (A2 (A0 (Q2 (A2 (A0 (eC (.str ("0":Str)))) (A2 (A0 (eC (.str ("-":Str)))) (A2 (A0 (eC (.str (" ":Str)))) (A2 (A0 (eC (.str ("a":Str)))) (A2 (A0 (eC (.str ("7":Str)))) (A2 (A0 (eC (.str ("+":Str)))) B2)))))))) B2)))) (Z7 (eV (.val x_mtext)) (Z2 (eV (.val x_spot))) Z8)) ret) (G5 (D3 (A8 (B5 false) (eV (.val x_how)) (eC (.int 1)))) ((A8 oAdd (Z7 (eV (.val x_mtext)) Z8 (Z2 (eV (.val x_spot)))) (Z7 (eV (.val x_mtext)) (Z2 (A8 oAdd (eV (.val x_spot)) (eC (.int 1)))) Z8)) ret) (join (fun (s1:SV)=> (join (fun (s3:SV)=> (join (fun (s5:SV)=> (join (fun (s7:SV)=> ((A2n (eC (.str (" ":Str))) (eV s7)) ret)) fun kj9=> (G5 (D3 (A8 (B5 false) (eV (.val x_how)) (eC (.int 5)))) (Y2 (A0 (D5 L5 (A2 (A0 (eV (.val x_bag))) (A2 (A0 (Q2 (A2 (A0 (eC (.str ("down":Str)))) (A2 (A0 (eC (.str ("drain":Str)))) (A2 (A0 (eC (.str ("0":Str)))) (A2 (A0 (eC (.str ("01":Str)))) (A2 (A0 (A8 oMulX (eC (.str ("9":Str))) (eC (.int 31)))) (A2 (A0 (eC (.str ("a":Str)))) (A2 (A0 (eC (.str ("abcdefgh":Str)))) (A2 (A0 (eC (.str ("-1":Str)))) B2)))))))))) B2)))) s5 (eV (.val x_at)) fun x_words=> (kj9 x_words)) (kj9 s5)))) fun kj11=> (G5 (D3 (A8 (B5 false) (eV (.val x_how)) (eC (.int 4)))) (lmC d3 s3 (A2 (A0 (eV (.val x_at))) B2) fun x_words _=> (kj11 x_words)) (kj11 s3)))) fun kj13=> (G5 (D3 (A8 (B5 false) (eV (.val x_how)) (eC (.int 3)))) ((A0 (Q2 (A2 (A0 (eC (.str ("over":Str)))) (A2 (A0 (eC (.str ("call":Str)))) (A2 (A0 (eC (.str ("1":Str)))) (A2 (A0 (eC (.str ("00":Str)))) (A2 (A0 (A8 oMulX (eC (.str ("9":Str))) (eC (.int 30)))) (A2 (A0 (A8 oAdd (eC (.str ("1":Str))) (A8 oMulX (eC (.str ("0":Str))) (eC (.int 30))))) (A2 (A0 (eC (.str ("swap":Str)))) (A2 (A0 (eC (.str ("Tap":Str)))) (A2 (A0 (eC (.str ("abcdefghi":Str)))) B2))))))))))) fun x_odd=> (lmC A0D s1 (A2 (A0 (eV (.val x_at))) (A2 (A0 (D5 L5 (A2 (A0 (eV (.val x_bag))) (A2 (A0 (eV (.val x_odd))) B2)))) B2)) fun x_words _=> (kj13 x_words))) (kj13 s1)))) fun kj15=> (G5 (D3 (A8 (B5 false) (eV (.val x_how)) (eC (.int 2)))) (A6Q (A0 (Q1 (A2 (A0 (A8 oIx (eV x_words) (eV (.val x_to)))) (A2 (A0 (A8 oIx (eV x_words) (eV (.val x_at)))) B2)))) x_words (eV (.val x_at)) (fun y17=> (eV (.val x_to))) fun x_words=> (kj15 x_words)) (kj15 x_words)))))))))
def A0d:List W→MC
  | [x_bag,x_mtext]=> A1z x_bag x_mtext
  | _=> bad
def A2j (x_script:W):MC:=
  ((D5 A0k (A2 (A0 (eV (.val x_script))) B2)) fun x_bag=> (A20 x_bag fun x_bag=> (A2z (A07 (B3 (eC (.int 10)) B8)) () (fun x_turn (s17:Unit) kn19 kb20=> ((A0 (D5 A0Z (A2 (A0 (eV (.val x_bag))) B2))) fun x_msizes=> ((A0 (D5 A0j (A2 (A0 (eV (.val x_bag))) (A2 (A0 (eV (.val x_msizes))) (A2 (A0 (D5 u4 (A2 (A0 (eV (.val x_bag))) B2))) (A2 (A0 (eC (.bl true))) B2)))))) fun x_mstep=> (join (fun (s23:W)=> ((A0 (D5 A0d (A2 (A0 (eV (.val x_bag))) (A2 (A0 (A2n (eC (.str (" ":Str))) (T5 (o8 (A0 (eV (.val s23)))) fun x_thing kk=> U7 V8 (A0 (C0 Y0 (B3 (eV (.val x_thing)) B8))) kk))) B2)))) fun x_mtext=> ((A0 (D5 A0l (A2 (A0 (eV (.val x_mtext))) B2))) fun x_due=> ((A0 (eC (.str ("none":Str)))) fun x_row=> ((A0 (eC .non)) fun x_found=> (join (fun (s25:W×W)=> (G5 (U6 (D3 (D5 (m__law_same 8) (A2 (A0 (Q2 (A2 (A0 (eV (.val s25.2))) (A2 (A0 (eV (.val s25.1))) B2)))) (A2 (A0 (Q2 (A2 (A0 (eV (.val x_due))) (A2 (A0 (eIf (D3 (A8 (L1 true) (eV (.val x_due)) (eC .non))) (eC (.str ("none":Str))) (eC (.int 0)))) B2)))) B2))))) ((eC (.bl false)) ret) (kn19 ()))) fun kj27=> (A4a (fun kk30=> ((A0 (D5 A0c (A2 (A0 (eV (.val x_mtext))) B2))) fun x_found=> (kk30 x_found))) (fun s29=> (kj27 (x_row,s29))) (fun s29=> (kj27 (s29,x_found))) (A2g ["BadText"] [("BadText",(A2x "row"))])))))))) fun kj32=> (G5 (D3 (A8 (B5 false) (D5 D2 (A2 (A0 (eV (.val x_bag))) (A2 (A0 (eC (.int 4))) B2))) (eC (.int 0)))) ((A0 (Q1 (A2 (A0 (eC (.str ("call":Str)))) (A2 (A0 (D5 L5 (A2 (A0 (eV (.val x_bag))) (A2 (A0 (Q2 (A2 (A0 (eC (.str ("a":Str)))) (A2 (A0 (eC (.str ("ab":Str)))) (A2 (A0 (eC (.str ("abcdefgh":Str)))) (A2 (A0 (eC (.str ("over":Str)))) B2)))))) B2)))) (A2 (A0 (D5 u4 (A2 (A0 (eV (.val x_bag))) B2))) B2))))) fun x_mstep=> (kj32 x_mstep)) (kj32 x_mstep)))))) fun (s17:Unit)=> ((eC (.bl true)) ret))))
def m_law:List W→MC
  | [x_script]=> A2j x_script
  | _=> bad
end Ab
namespace Ab
open PySem PySem.Spec PyProof.Rows L2 RZ
theorem A8L (x:Str):g7 x=x.cps.toList.map fun c=> W.str ⟨#[c]⟩:=rfl
theorem B4B {x:Str} {k:List W→MC} (l:x.length≤10000):M7 (fun x_sign kk=> C7 (oInS false) (.val x_sign) (.val (.str ("0123456789":Str))) fun x=> kk (some x.fz)) k (g7 x) []=k (((E1 x).map fun c=> decide (48≤c∧c≤57)).map W.bl):=by
  have l3:x.cps.toList.length≤sizeLine:=by
    have e:x.cps.toList.length=x.length:=by simp [Str.length]
    rw [e,F8];omega
  rw [A8L,d8 (fun c:Nat=> W.str ⟨#[c]⟩) (fun c=> .bl (decide (48≤c∧c≤57))) x.cps.toList (fun c _ kk=> by rw [A4Y,←A9K];rfl) l3,List.map_map]
  rfl
theorem B4S {x:Str} {k:List W→MC} (l:x.length≤10000):M7 (fun x_sign kk=> C7 (oInS false) (.val x_sign) (.val (.str A0E)) fun x=> kk (some x.fz)) k (g7 x) []=k (((E1 x).map fun c=> V6 ⟨#[c]⟩ A0E).map W.bl):=by
  have l3:x.cps.toList.length≤sizeLine:=by
    have e:x.cps.toList.length=x.length:=by simp [Str.length]
    rw [e,F8];omega
  rw [A8L,d8 (fun c:Nat=> W.str ⟨#[c]⟩) (fun c=> .bl (V6 ⟨#[c]⟩ A0E)) x.cps.toList (fun c _ kk=> by rw [A4Y];rfl) l3,List.map_map]
  rfl
theorem A7H {x:Str} (l:x.length≤10000):a9 [.str x]=ret (.val (.bl (I8 x))):=by
  show A1r _=_
  unfold A1r
  have l2:x.length≤16777216:=by omega
  simp only [↓A3w,↓A3k,↓E5,↓G2,↓I5,↓F9,↓K7,↓K6,↓K8,↓P8,↓M6,↓T0,↓A1S,↓B0e,↓A1Z,↓O1,↓O9,↓P3,↓W2,↓I0,↓U3,↓A03,↓o9,↓A2k,if_true,Bool.not_false,decide_eq_true_eq,F8,l2,U3,B4B l,o9]
  unfold I8
  rw [List.all_map]
  by_cases a:1≤x.length
  · by_cases b:x.length≤30
    · rw [if_pos (by omega),if_neg (by simp;omega),decide_eq_true (p:=1≤x.length∧x.length≤30) ⟨a,b⟩,Bool.true_and]
      show (if (!(E1 x).all fun c=> decide (48≤c∧c≤57))=true then _ else _)=ret (.val (.bl (((E1 x).all fun c=> decide (48≤c∧c≤57)) && _)))
      cases (E1 x).all fun c=> decide (48≤c∧c≤57) with
      | false=> rfl
      | true=>
        refine (if_neg (by simp)).trans ?_
        have hl:=A3o x
        have e0:(E1 x)[0]? =some ((E1 x).getD 0 0):=by
          rw [List.getD_eq_getElem?_getD,List.getElem?_eq_getElem (by omega)]
          rfl
        have z:=B0R (k:=fun x=> C7 (B5 true) x (.val (.str (Str.ofString "0"))) ret) (l:=E1 x) (j:=0) e0
        rw [A4G] at z
        have hx:x=Str.ofString "0"↔x.length=1∧(E1 x)[0]? =some 48:=by
          rw [A5E]
          constructor
          · rintro rfl
            exact ⟨by decide,by decide⟩
          · rintro ⟨h1,h2⟩
            refine A9C ?_
            match hs:E1 x with
            | []=> rw [hs] at h2;cases h2
            | [c]=> rw [hs] at h2;cases h2;rfl
            | _::_::_=> rw [hs] at hl;simp at hl;omega
        by_cases g:x=Str.ofString "0"
        · obtain ⟨g1,g2⟩:=hx.mp g
          rw [if_pos g,decide_eq_true g1]
          rfl
        · rw [if_neg g]
          refine z.trans ?_
          rw [D1 (by rw [hl,F8];omega),A5E]
          simp only [↓A9J]
          congr 3
          rw [Bool.true_and,←decide_not]
          have q:(¬R1 [(E1 x).getD 0 0]=R1 [48])↔(E1 x)[0]? ≠some 48:=by
            rw [e0]
            simp only [ne_eq,Option.some.injEq]
            exact not_congr ⟨fun z=> by have:=A8r z;injection this,fun z=> by rw [z]⟩
          rw [show decide (¬R1 [(E1 x).getD 0 0]=R1 [48])=decide ((E1 x)[0]? ≠some 48) from decide_eq_decide.mpr q]
          by_cases g1:x.length=1
          · rw [decide_eq_true g1,Bool.true_or]
            exact decide_eq_true (fun z=> g (hx.mpr ⟨g1,z⟩))
          · rw [decide_eq_false g1,Bool.false_or]
    · rw [if_pos (by omega),if_pos (by simp;omega),decide_eq_false (p:=1≤x.length∧x.length≤30) (fun z=> b z.2)]
      rfl
  · rw [if_neg (by omega),decide_eq_false (p:=1≤x.length∧x.length≤30) (fun z=> a z.1)]
    rfl
theorem B1a {x:Str} (l:x.length≤10000):A0b [.str x]=ret (.val (.bl (S9 x))):=by
  show A1y _=_
  unfold A1y
  have l2:x.length≤16777216:=by omega
  have al:=fun k=> B4S (x:=x) (k:=k) l
  unfold A0E at al
  simp only [↓A3w,↓A3k,↓E5,↓G2,↓I5,↓F9,↓K7,↓K6,↓K8,↓P8,↓X9,↓A1Z,↓O9,↓P3,↓W2,↓I0,↓U3,↓A03,↓o9,if_true,if_false,Bool.false_eq_true,decide_eq_true_eq,F8,l2,U3,al,o9]
  unfold S9
  rw [List.all_map]
  by_cases a:(1:Int)≤x.length
  · by_cases b:(x.length:Int)≤8
    · simp only [a,b,if_true,decide_true,Bool.true_and]
      rfl
    · simp only [a,b,if_true,if_false,decide_true,decide_false,Bool.true_and,Bool.false_and,Bool.false_eq_true]
  · simp only [a,if_false,decide_false,Bool.false_and,Bool.false_eq_true]
def mostL:List (Str×W):=[(("over":Str),.int 8),(("down":Str),.int 8),(("swap":Str),.int 3),(("tap":Str),.int 3),(("drain":Str),.int 3)]
theorem A7t (w:Str):(X0 w=some (3,7)∧(mostL.lookup w).getD (.int 0)= .int 8)∨(X0 w=some (2,2)∧(mostL.lookup w).getD (.int 0)= .int 3)∨(X0 w=none∧(mostL.lookup w).getD (.int 0)= .int 0):=by
  by_cases h1:w=("over":Str)
  · subst h1
    exact .inl ⟨by decide+kernel,rfl⟩
  by_cases h2:w=("down":Str)
  · subst h2
    exact .inl ⟨by decide+kernel,rfl⟩
  by_cases h3:w=("swap":Str)
  · subst h3
    exact .inr (.inl ⟨by decide+kernel,rfl⟩)
  by_cases h4:w=("tap":Str)
  · subst h4
    exact .inr (.inl ⟨by decide+kernel,rfl⟩)
  by_cases h5:w=("drain":Str)
  · subst h5
    exact .inr (.inl ⟨by decide+kernel,rfl⟩)
  refine .inr (.inr ⟨?_,?_⟩)
  · unfold X0 K3
    rw [show leastT.find? (fun p=> decide (p.1=w))=none from List.find?_eq_none.mpr fun p hp=> by
      simp only [List.mem_cons,List.not_mem_nil,or_false] at hp
      rcases hp with rfl | rfl | rfl | rfl | rfl
      · simpa using fun z=> h1 z.symm
      · simpa using fun z=> h2 z.symm
      · simpa using fun z=> h3 z.symm
      · simpa using fun z=> h4 z.symm
      · simpa using fun z=> h5 z.symm]
    rfl
  · unfold mostL
    simp only [List.lookup,beq_eq_false_iff_ne.mpr h1,beq_eq_false_iff_ne.mpr h2,beq_eq_false_iff_ne.mpr h3,beq_eq_false_iff_ne.mpr h4,beq_eq_false_iff_ne.mpr h5]
    rfl
theorem B3U {k:SV→MC}:A6Y [.str "over",.int 8,.str "down",.int 8,.str "swap",.int 3,.str "tap",.int 3,.str "drain",.int 3] k=k (.own (.map (smap mostL))):=by
  funext h Q E
  refine propext ⟨fun ⟨kvs,ks,e1,e2,e3,e4,z⟩=> ?_,fun z=> ⟨smap mostL,[.inr "over",.inr "down",.inr "swap",.inr "tap",.inr "drain"],rfl,rfl,by decide+kernel,by decide,z⟩⟩
  have e:kvs=smap mostL:=by
    match kvs,e1 with
    | [(_,_),(_,_),(_,_),(_,_),(_,_)],e1=>
      simp only [W8,List.cons.injEq,and_true] at e1
      obtain ⟨rfl,rfl,rfl,rfl,rfl,rfl,rfl,rfl,rfl,rfl⟩:=e1
      rfl
    | [],e1=> cases e1
    | [_],e1=> simp [W8] at e1
    | [_,_],e1=> simp [W8] at e1
    | [_,_,_],e1=> simp [W8] at e1
    | [_,_,_,_],e1=> simp [W8] at e1
    | _::_::_::_::_::_::_,e1=> simp [W8] at e1
  subst e
  exact z
theorem B2w {l:List (Str×W)} {s:Str} {d:W} {k:SV→MC}:A5v (.own (.map (smap l))) (.str s) d k=k (.val ((l.lookup s).getD d)):=by
  funext h Q E
  refine propext ⟨fun ⟨l',s',z1,z2,z3⟩=> ?_,fun z=> ⟨l,s,rfl,rfl,z⟩⟩
  cases B25 z1
  cases z2
  exact z3
theorem B4H {l:List (Str×W)} {k:MC}:A6f (.own (.map (smap l))) k=k:=by
  funext h Q E
  exact propext ⟨fun z=> z.2,fun z=> ⟨⟨l,rfl⟩,z⟩⟩
theorem B7j {x:W} {xs:List W}:T4 (x::xs) (some 1) none=xs:=by
  unfold T4 HT.sIx
  simp
theorem B6s {x:W} {xs:List W}:T4 (x::xs) none (some 1)=[x]:=by
  unfold T4 HT.sIx
  simp
theorem B15 {x:Str} (hl:x.length≤1000):A0l [.str x]=ret (.val (Y8 (Txt.split x blank))):=by
  show A2B _=_
  unfold A2B
  have bl:(blank.length==0)=false:=by decide+kernel
  have hw:∀w∈Txt.split x blank,w.length≤1000:=fun w h=> Nat.le_trans (part_short h) hl
  have hn:=split_le x blank
  have ne:=A5I x blank
  have c1:(Str.length (Str.ofString " ")==0)=false∧x.length+2≤sizeLine:=⟨bl,by rw [F8];omega⟩
  simp only [↓B4x,↓A2W,↓A6m,↓A5Y,↓E5,↓G2,↓I5,↓F9,↓I9,↓K2,↓s4,↓A4U,↓A3p,↓A4g,↓K7,↓K6,↓K8,↓P8,↓M6,↓T0,↓A1S,↓B0b,↓X9,↓A1Z,↓S8,↓W3,↓A1K,↓O1,↓O9,↓P3,↓D8,↓Y7,↓W2,↓I0,↓A3b,↓U3,↓A8v,↓A2t,↓A9q,↓A2l,↓B6I,↓A4E,↓x7,if_true,if_false,Bool.not_false,Bool.false_eq_true,decide_eq_true_eq,List.length_map,List.length_cons,List.length_nil,F8,Nat.zero_add,Nat.reduceAdd,Nat.reduceLeDiff,↓c1,and_self,U3]
  unfold blank at hw hn ne ⊢
  revert hw hn ne
  generalize Txt.split x (Str.ofString " ")=ws
  intro hw hn ne
  match ws,ne,hw,hn with
  | w::rest,_,hw,hn=>
    have hr:∀f∈rest,f.length≤1000:=fun f h=> hw f (List.mem_cons_of_mem _ h)
    rw [List.length_cons] at hn
    have ls:rest.length≤sizeLine:=by rw [F8];omega
    have f1:∀kk,M7 (fun x_one kk=> call0 (a9 [x_one]) fun x=> kk (some x.fz)) kk (rest.map W.str) []=kk ((rest.map I8).map W.bl):=fun kk=> by
      rw [d8 W.str (fun f=> .bl (I8 f)) rest (fun f hf kk=> by rw [A7H (Nat.le_trans (hr f hf) (by decide))];rfl) ls,List.map_map]
      rfl
    have f2:∀kk,(∀f∈rest,I8 f=true)→M7 (fun x_one kk=> cb T2 [.val x_one] fun x=> kk (some x.fz)) kk (rest.map W.str) []=kk (rest.map fun f=> .int (Q7 f)):=fun kk h=> by
      rw [d8 W.str (fun f=> .int (Q7 f)) rest (fun f hf kk=> by rw [A39 (A3x (h f hf)),D1 (by have:=(u9 (h f hf)).2.2;omega)];rfl) ls]
    have tl:(M7 (fun x_one kk=> call0 (a9 [x_one]) fun x=> kk (some x.fz)) (fun acc=> cb Q8 [.own (.seq acc)] fun x_6=> W0 x_6 fun x_7=> if (!x_7)=true then ret (.val .non) else M7 (fun x_word kk=> cb T2 [.val x_word] fun x=> kk (some x.fz)) (fun acc=> E8 (1+acc.length≤16777216) (ret (.val (.tup ([.str w]++acc))))) (rest.map W.str) []) (rest.map W.str) [])=ret (.val (if rest.all I8=true then .tup (.str w::rest.map fun f=> .int (Q7 f)) else .non)):=by
      rw [f1,o9,I0,show (rest.map I8).all id=rest.all I8 by rw [List.all_map];rfl]
      cases ea:rest.all I8 with
      | false=> rfl
      | true=>
        refine (if_neg (by simp)).trans ?_
        rw [f2 _ (List.all_eq_true.mp ea),D1 (by rw [List.length_map];omega)]
        rfl
    rw [A2K]
    have a0:∀k:W→MC,O5 ((w::rest).map W.str) 0 k=k (.str w):=fun k=> v5 (ws:=w::rest) (j:=0) rfl
    rw [a0]
    simp only [↓I0,↓A2k,decide_eq_true_eq,List.length_cons]
    by_cases hc:w=("call":Str)
    · rw [if_pos hc,if_pos hc]
      match rest,hr with
      | [],_=> rfl
      | [_],_=> rfl
      | b::c::d::r,_=>
        rw [if_neg (by simp;omega)]
        rfl
      | [b,c],hr=>
        have hb:=hr b (by simp)
        have hc2:=hr c (by simp)
        have a1:∀k:W→MC,O5 ([w,b,c].map W.str) 1 k=k (.str b):=fun k=> v5 (ws:=[w,b,c]) (j:=1) rfl
        have a2:∀k:W→MC,O5 ([w,b,c].map W.str) 2 k=k (.str c):=fun k=> v5 (ws:=[w,b,c]) (j:=2) rfl
        rw [if_pos (by simp),a1]
        show _=ret (.val (if S9 b=true∧I8 c=true then W.tup [.str "call",.str b,.int (Q7 c)] else .non))
        simp only [B1a (show b.length≤10000 by omega),↓D8,↓I0,↓A1J,a2,A7H (show c.length≤10000 by omega),a1]
        cases hn:S9 b with
        | false=> simp
        | true=>
          cases hf:I8 c with
          | false=> simp
          | true=>
            have z:=(u9 hf).2.2
            simp only [if_true,A39 (A3x hf),D1 (show c.length≤640 by omega),D8,and_self]
    · rw [if_neg hc,if_neg hc,B3U,B4H,a0,B2w]
      rw [List.map_cons,B7j,B6s]
      simp only [List.length_singleton,List.length_cons]
      rcases A7t w with ⟨e1,e2⟩ | ⟨e1,e2⟩ | ⟨e1,e2⟩
      · rw [e1,e2]
        simp only [↓D8,↓W2,↓I0,↓x7,decide_eq_true_eq,List.length_nil,Nat.zero_add]
        rw [if_neg (by decide)]
        show _=ret (.val (if (3:Int)≤(rest.length:Int)∧(rest.length:Int)≤7 then _ else .non))
        by_cases l1:3≤rest.length
        · rw [if_pos (by omega)]
          by_cases l2:rest.length≤7
          · rw [if_neg (by simp;omega),if_pos (show (3:Int)≤(rest.length:Int)∧(rest.length:Int)≤7 by omega)]
            exact tl
          · rw [if_pos (by simp;omega),if_neg (by omega)]
        · rw [if_neg (by omega),if_neg (by omega)]
      · rw [e1,e2]
        simp only [↓D8,↓W2,↓I0,↓x7,if_true,decide_true,List.length_nil,Nat.zero_add]
        show _=ret (.val (if (2:Int)≤(rest.length:Int)∧(rest.length:Int)≤2 then _ else .non))
        by_cases l1:2≤rest.length
        · rw [if_pos (by omega)]
          by_cases l2:rest.length≤2
          · rw [if_neg (by simp;omega),if_pos (show (2:Int)≤(rest.length:Int)∧(rest.length:Int)≤2 by omega)]
            exact tl
          · rw [if_pos (by simp;omega),if_neg (by omega)]
        · rw [if_neg (by omega),if_neg (by omega)]
      · rw [e1,e2]
        simp only [↓D8,↓W2,↓I0,↓x7,decide_eq_true_eq,List.length_nil,Nat.zero_add]
        rw [if_neg (by decide)]
        by_cases l1:4≤rest.length+1
        · rw [if_pos (by omega),if_pos (by simp)]
        · rw [if_neg (by omega)]
def B0T:AExc:=⟨"BadText",initF (W.str "bad text") ["row"] [.int 0]⟩
theorem A7W (ws:List Str):Y8 ws= .non∨∃xs,Y8 ws= .tup xs∧(W.tup xs).sm 6=true:=by
  match ws with
  | []=> exact .inl rfl
  | w::rest=>
    rw [A2K]
    by_cases hc:w=("call":Str)
    · rw [if_pos hc]
      match rest with
      | []=> exact .inl rfl
      | [_]=> exact .inl rfl
      | [b,c]=>
        by_cases z:S9 b=true∧I8 c=true
        · exact .inr ⟨_,if_pos z,rfl⟩
        · exact .inl (if_neg z)
      | _::_::_::_=> exact .inl rfl
    · rw [if_neg hc]
      have go:∀a b:Int,b≤7→(if a≤(rest.length:Int)∧(rest.length:Int)≤b then (if rest.all I8=true then W.tup (.str w::rest.map fun f=> .int (Q7 f)) else .non) else .non)= .non∨∃xs,(if a≤(rest.length:Int)∧(rest.length:Int)≤b then (if rest.all I8=true then W.tup (.str w::rest.map fun f=> .int (Q7 f)) else .non) else .non)= .tup xs∧(W.tup xs).sm 6=true:=fun a b hb=> by
        by_cases l:a≤(rest.length:Int)∧(rest.length:Int)≤b
        · rw [if_pos l]
          by_cases f:rest.all I8=true
          · rw [if_pos f]
            refine .inr ⟨_,rfl,A9P (by rw [List.length_cons,List.length_map];omega) fun x hx=> ?_⟩
            rcases List.mem_cons.mp hx with rfl | hx
            · rfl
            · obtain ⟨y,_,rfl⟩:=List.mem_map.mp hx
              rfl
          · exact .inl (if_neg f)
        · exact .inl (if_neg l)
      rcases A7t w with ⟨e,_⟩ | ⟨e,_⟩ | ⟨e,_⟩
      · rw [e]
        exact go 3 7 (by decide)
      · rw [e]
        exact go 2 2 (by decide)
      · rw [e]
        exact .inl rfl
theorem B4U {x:W} {k:Bool→MC} (h:x= .non∨∃xs,x= .tup xs) (z:x≠ .non):(C7 (L1 false) (.val x) (.val .non) fun x=> W0 x k)=k false:=by
  rcases h with h | ⟨xs,rfl⟩
  · exact absurd h z
  · simp only [↓I0,↓A83]
theorem B2K {y:Str} (hl:y.length≤1000):A0c [.str y]=if Y8 (Txt.split y blank)= .non then w9 B0T else ret (.val (Y8 (Txt.split y blank))):=by
  show A10 _=_
  unfold A10
  simp only [↓E5,↓G2,↓I5,↓F9,↓I9,↓K2,↓M6,↓S8,↓O1,↓D8,↓A1J,↓B4F,A7y hl]
  by_cases z:Y8 (Txt.split y blank)= .non
  · rw [if_pos z,z]
    simp only [↓I0,↓A5b,if_true]
    rfl
  · rw [if_neg z,B4U ((A7W _).imp id fun ⟨xs,e,_⟩=> ⟨xs,e⟩) z]
    rfl
def Tx (r:RR):Prop:=∃y:Str,r= .val (.str y)∧y.length≤1000
theorem B3P {xs:List W} {j:Nat} {k1:SV→W→MC} (hj:j < xs.length) (hl:xs.length≤1000):lm d3 (.own (.seq xs)) [.int (j:Int)] k1=k1 (.own (.seq (xs.eraseIdx j))) xs[j]:=by
  have e:seqIndex? (j:Int) xs.length=some j:=by
    unfold seqIndex?
    simp
    omega
  funext h Q E
  refine propext ⟨fun ⟨a,b,i,y,z1,z2,z3⟩=> ?_,fun z=> ⟨by omega,by omega,j,xs[j],e,List.getElem?_eq_getElem hj,z⟩⟩
  rw [e] at z1
  cases z1
  rw [List.getElem?_eq_getElem hj] at z2
  cases z2
  exact z3
theorem B5M {x:W} {ws:List W} (g:SGood x ws):Dr 20 (fun p=> A0d [.ref p,.str (Y9 ws)]) Tx:=by
  intro p n h Q E b hn q
  show A1z (.ref p) _ h Q E
  unfold A1z
  have bl:(blank.length==0)=false:=by decide+kernel
  have tl:=g.tlen
  have c1:(Str.length (Str.ofString " ")==0)=false∧(Y9 ws).length+2≤sizeLine:=⟨bl,by rw [F8];omega⟩
  conv=> fun;fun;fun;simp only [↓A54,↓A2W,↓A6m,↓A5Y,↓E5,↓G2,↓I5,↓F9,↓I9,↓K2,↓s4,↓s8,↓A4U,↓A3p,↓A4g,↓K7,↓K6,↓K8,↓M6,↓S8,↓O1,↓B5p,↓A1Q,↓B5L,↓D8,↓Y7,↓B5P,↓B6j,↓U3,↓e9,↓A5k,↓A03,List.length_map,List.length_cons,List.length_nil,F8,Nat.zero_add,Nat.reduceAdd,Nat.reduceLeDiff,↓c1,and_self,U3]
  have es:=g.split
  unfold blank at es
  rw [es]
  have hn1:1≤(ws.map R0).length:=by
    rw [List.length_map]
    exact List.length_pos_iff.mpr g.ne
  have hn8:(ws.map R0).length≤8:=by rw [List.length_map];exact g.ten
  have hs:∀y∈ws.map R0,y.length≤30:=fun y hy=> by
    obtain ⟨w,hw,rfl⟩:=List.mem_map.mp hy
    exact g.short w hw
  revert hn1 hn8 hs
  generalize ws.map R0=ys
  intro hn1 hn8 hs
  have nn:∀ys:List Str,(ys.map W.str).length=ys.length:=fun ys=> by simp
  refine (U2 (s:=(ys.length:Int)) (by omega) (by omega)).call b (by omega) fun r h1 hr b1 t1=> ?_
  obtain ⟨at_,rfl,a0,a1⟩:=hr
  obtain ⟨at_,rfl⟩:∃j:Nat,at_=j:=⟨at_.toNat,by omega⟩
  refine (U2 (s:=(ys.length:Int)) (by omega) (by omega)).call b1 (by omega) fun r h2 hr b2 t2=> ?_
  obtain ⟨to,rfl,c0,c1'⟩:=hr
  obtain ⟨to,rfl⟩:∃j:Nat,to=j:=⟨to.toNat,by omega⟩
  refine ⟨by omega,?_⟩
  refine (U2 (s:=((Y9 ws).length:Int)+1) (by omega) (by omega)).call b2 (by omega) fun r h3 hr b3 t3=> ?_
  obtain ⟨sp,rfl,d0,d1⟩:=hr
  refine (U2 (s:=7) (by omega) (by omega)).call b3 (by omega) fun r h4 hr b4 t4=> ?_
  obtain ⟨how,rfl,e0,e1⟩:=hr
  have t04:=t1.trans (t2.trans (t3.trans t4))
  have sl:∀lo hi,(Txt.slice (Y9 ws) lo hi).length≤300:=fun lo hi=> by
    have z:=Txt.slice_le (Y9 ws) lo hi
    have z2:=g.tlen8
    omega
  have hat:at_ < ys.length:=by omega
  have hto:to < ys.length:=by omega
  conv=> fun;fun;fun;simp only [↓D8,↓P9,↓W2,↓I0,↓e9,↓A52,↓A4O,↓x7,decide_eq_true_eq,F8,A98]
  by_cases w0:how=0
  · rw [if_pos w0]
    refine ⟨by omega,?_⟩
    refine (A0C (.inl rfl) (by simp) (by simp)).call b4 (by omega) fun r h5 hr b5 t5=> ?_
    obtain ⟨w,rfl,hw⟩:=hr
    obtain ⟨y,rfl,ly⟩:∃y:Str,w= .str y∧y.length≤1:=by
      simp only [List.mem_cons,List.not_mem_nil,or_false] at hw
      rcases hw with rfl | rfl | rfl | rfl | rfl | rfl <;> exact ⟨_,rfl,by decide+kernel⟩
    conv=> fun;fun;fun;simp only [↓P9,↓A52,F8,A98]
    have s1:=sl none (some sp)
    have s2:=sl (some sp) none
    refine ⟨by omega,by omega,by rw [Str.length_append];omega,?_⟩
    exact q _ _ ⟨_,rfl,by rw [Str.length_append,Str.length_append];omega⟩ (b5.le (by omega)) (t04.trans t5)
  rw [if_neg w0]
  by_cases w1:how=1
  · rw [if_pos w1]
    have s1:=sl none (some sp)
    have s2:=sl (some (sp+1)) none
    refine ⟨by omega,by omega,by omega,?_⟩
    exact q _ _ ⟨_,rfl,by rw [Str.length_append];omega⟩ (b4.le (by omega)) t04
  rw [if_neg w1]
  refine A1M (fun s h'=> ∃zs:List Str,s= .own (.seq (zs.map W.str))∧zs.length=ys.length∧(∀z∈zs,z.length≤31)∧h'=h4) (fun s h5 ⟨zs,hz,lz,sz,eh⟩=> ?_) ?_
  · subst hz eh
    refine A1M (fun s h'=> ∃zs:List Str,s= .own (.seq (zs.map W.str))∧zs.length≤9∧at_ < zs.length∧(∀z∈zs,z.length≤31)∧Bag (n+10) h' p∧Bt p h h') (fun s h5 ⟨zs,hz,lz,az,sz,b5,t5⟩=> ?_) ?_
    · subst hz
      refine A1M (fun s h'=> ∃zs:List Str,s= .own (.seq (zs.map W.str))∧zs.length≤9∧(how≠4→at_ < zs.length)∧(∀z∈zs,z.length≤31)∧Bag (n+10) h' p∧Bt p h h') (fun s h6 ⟨zs,hz,lz,az,sz,b6,t6⟩=> ?_) ?_
      · subst hz
        refine A1M (fun s h'=> ∃zs:List Str,s= .own (.seq (zs.map W.str))∧zs.length≤9∧(∀z∈zs,z.length≤31)∧Bag (n+15) h' p∧Bt p h h') (fun s h7 ⟨zs,hz,lz,sz,b7,t7⟩=> ?_) ?_
        · subst hz
          have s1:=A5P sz
          have el:(Str.ofString " ").length=1:=by decide+kernel
          rw [A8I]
          refine ⟨by rw [el];omega,?_⟩
          refine q _ _ ⟨_,rfl,?_⟩ (b7.le (by omega)) t7
          rw [A9x]
          have z:=A5K sz
          unfold blank at z
          omega
        · intro kk hk
          by_cases w5:how=5
          · rw [if_pos w5,A5c]
            refine ⟨⟨by decide,by decide,by decide+kernel⟩,?_⟩
            refine (A0C (.inl rfl) (by simp) (by simp)).call b6 (by omega) fun r h8 hr b8 t8=> ?_
            obtain ⟨w,rfl,hw⟩:=hr
            obtain ⟨y,rfl,ly⟩:∃y:Str,w= .str y∧y.length≤31:=by
              simp only [List.mem_cons,List.not_mem_nil,or_false] at hw
              rcases hw with rfl | rfl | rfl | rfl | rfl | rfl | rfl | rfl <;> exact ⟨_,rfl,by decide+kernel⟩
            have az:=az (by omega)
            show X7 _ _ _ _ h8 Q E
            rw [show (SV.val (W.int (at_:Int)))=SV.val (.int (at_:Int)) from rfl,A5W (by rw [nn];exact az)]
            refine hk _ _ ⟨zs.set at_ y,by rw [List.map_set];rfl,by rw [List.length_set];exact lz,fun z hz=> ?_,b8.le (by omega),t6.trans t8⟩
            rcases List.mem_or_eq_of_mem_set hz with hz | rfl
            · exact sz z hz
            · exact ly
          · rw [if_neg w5]
            exact hk _ _ ⟨zs,rfl,lz,sz,b6.le (by omega),t6⟩
      · intro kk hk
        by_cases w4:how=4
        · rw [if_pos w4]
          conv=> fun;fun;fun;simp only [↓E5,↓F9,↓I9,↓K2,↓D8,↓A9X]
          rw [B3P (by rw [nn];exact az) (by rw [nn];omega),←A8F]
          refine hk _ _ ⟨zs.eraseIdx at_,rfl,?_,fun z=> absurd w4 z,fun z hz=> sz z (List.mem_of_mem_eraseIdx hz),b5,t5⟩
          have:=List.length_eraseIdx_le zs at_
          omega
        · rw [if_neg w4]
          exact hk _ _ ⟨zs,rfl,lz,fun _=> az,sz,b5,t5⟩
    · intro kk hk
      by_cases w3:how=3
      · rw [if_pos w3,A5c]
        refine ⟨⟨by decide,by decide,by decide+kernel⟩,?_⟩
        rw [A5c]
        refine ⟨⟨by decide,by decide,by decide+kernel⟩,?_⟩
        rw [A52]
        refine ⟨by decide+kernel,?_⟩
        conv=> fun;fun;fun;simp only [↓B2f,↓E5,↓F9,↓I9,↓K2,↓S8,↓D8,↓A9X,Int.toNat_natCast,List.length_map,F8]
        refine (A0C (.inl rfl) (by simp) (by simp)).call b4 (by omega) fun r h8 hr b8 t8=> ?_
        obtain ⟨w,rfl,hw⟩:=hr
        obtain ⟨y,rfl,ly⟩:∃y:Str,w= .str y∧y.length≤31:=by
          simp only [List.mem_cons,List.not_mem_nil,or_false] at hw
          rcases hw with rfl | rfl | rfl | rfl | rfl | rfl | rfl | rfl | rfl <;> exact ⟨_,rfl,by decide+kernel⟩
        refine ⟨⟨by omega,by omega,by omega⟩,?_⟩
        refine hk _ _ ⟨zs.take at_++[y]++zs.drop at_,by rw [List.map_append,List.map_append,List.map_take,List.map_drop];rfl,by simp;omega,by simp;omega,fun z hz=> ?_,b8.le (by omega),t04.trans t8⟩
        simp only [List.mem_append,List.mem_singleton] at hz
        rcases hz with (hz | rfl) | hz
        · exact sz z (List.mem_of_mem_take hz)
        · exact ly
        · exact sz z (List.mem_of_mem_drop hz)
      · rw [if_neg w3]
        exact hk _ _ ⟨zs,rfl,by omega,by omega,sz,b4.le (by omega),t04⟩
  · intro kk hk
    have gz:∀{j:Nat} {k:SV→MC} (hj:j < ys.length),C7 oIx (.own (.seq (ys.map W.str))) (.val (.int (j:Int))) k=k (.val (.str ys[j])):=fun {j k} hj=> by
      rw [A4O]
      exact v5 (List.getElem?_eq_getElem hj)
    by_cases w2:how=2
    · rw [if_pos w2]
      rw [v5 (w:=ys[to]) (List.getElem?_eq_getElem hto),v5 (w:=ys[at_]) (List.getElem?_eq_getElem hat)]
      show X7 _ (.val (.int (at_:Int))) (.str ys[to]) _ h4 Q E
      rw [A5W (by rw [nn];exact hat)]
      show X7 _ (.val (.int (to:Int))) (.str ys[at_]) _ h4 Q E
      rw [A5W (by rw [List.length_set,nn];exact hto)]
      refine hk _ _ ⟨(ys.set at_ ys[to]).set to ys[at_],by rw [List.map_set,List.map_set],by rw [List.length_set,List.length_set],fun z hz=> ?_,rfl⟩
      rcases List.mem_or_eq_of_mem_set hz with hz | rfl
      · rcases List.mem_or_eq_of_mem_set hz with hz | rfl
        · have:=hs z hz;omega
        · have:=hs _ (List.getElem_mem hto);omega
      · have:=hs _ (List.getElem_mem hat);omega
    · rw [if_neg w2]
      exact hk _ _ ⟨ys,rfl,rfl,fun z hz=> by have:=hs z hz;omega,rfl⟩
theorem B6L {ns:List Int} (hn:ns.length≤63) (h:AH) (Q:RR→AH→Prop) (E:AExc→AH→Prop) (q:∀h',Q (.val (.bl true)) h'):m_law [.lst (ns.map .int)] h Q E:=by
  show A2j _ h Q E
  unfold A2j
  conv=> fun;fun;fun;simp only [↓A54,↓A2W,↓E5,↓G2,↓I5,↓F9,↓I9,↓K2,↓s4,↓s8,↓K7,↓K6,↓K8,↓P8,↓M6,↓A1S,↓B0b,↓S8,↓A1K,↓W1,↓O1,↓O9,↓P3,↓A9m,↓D8,↓Y7,↓A0A,↓U3,↓A1J,if_true,List.length_cons,List.length_nil,F8,Nat.zero_add,Nat.reduceAdd,Nat.reduceLeDiff,↓B40 hn]
  intro p hp
  show E8 _ (A0S _ _ _ _) _ _ _
  refine ⟨by decide,?_⟩
  refine A9h (fun ws _ h'=> ws.length≤10∧Bag ((10 - ws.length)*1000000) h' p) (fun s h' _=> q _) (fun w ws s h' kn ⟨l,b⟩ hk=> ?_) _ _ _ ⟨by rw [A3f];decide,bag_new.le (by omega)⟩
  rw [List.length_cons] at l b
  generalize hm:(10 - (ws.length+1))*1000000=m at b
  have hm2:m+1000000=(10 - ws.length)*1000000:=by omega
  refine any_sizes_dr.call b (by omega) fun r h1 hr b1 _=> ?_
  obtain ⟨ss,rfl,sz⟩:=hr
  have l6:=sz.2.1
  conv=> fun;fun;fun;simp only [↓D8,↓P9]
  refine number_dr.call b1 (by omega) fun r h4 hr b4 _=> ?_
  obtain ⟨i,rfl,i0,i1⟩:=hr
  conv=> fun;fun;fun;simp only [↓D8,↓P9]
  refine (B45 sz i0 i1).call b4 (by omega) fun r h5 hr b5 _=> ?_
  obtain ⟨d,rfl,dk,_⟩:=hr
  conv=> fun;fun;fun;simp only [↓D8,↓P9]
  refine A1M (fun x h'=> Bag (m+1000) h' p∧∃ws,SGood x ws) (fun x h7 ⟨b7,zs,g⟩=> ?_) ?_
  · have e:=g.eq
    rw [e]
    show M7 _ _ _ _ _ _ _
    rw [A70 g.th g.len]
    refine (B5M g).call b7 (by omega) fun r h8 hr b8 _=> ?_
    obtain ⟨y,rfl,yl⟩:=hr
    have fin:=hk () h8 ⟨by omega,by exact b8.le (by omega)⟩
    have sh:=A7W (Txt.split y blank)
    have eb:(RR.val (W.str y)).sv.fz= .str y:=rfl
    rw [eb,B15 yl,A1J]
    have rd:=B2K yl
    revert sh rd
    generalize Y8 (Txt.split y blank)=z
    intro sh rd
    rcases sh with rfl | ⟨xs,rfl,sx⟩
    · rw [if_pos rfl] at rd
      conv=> fun;fun;fun;simp only [↓D8,↓I0,↓B3z,if_false,Bool.false_eq_true,join]
      rw [B3K (x:=B0T) fun kk=> by rw [rd];rfl]
      refine ⟨by decide+kernel,?_⟩
      rw [if_pos (by decide+kernel)]
      refine ⟨.int 0,rfl,?_⟩
      show call (m__law_same 8 [.lst [.non,.int 0],.lst [.non,.int 0]]) _ h8 Q E
      rw [A80 7 _ (A9Y (by simp) fun w hw=> by
        simp only [List.mem_cons,List.not_mem_nil,or_false] at hw
        rcases hw with rfl | rfl <;> rfl)]
      exact fin
    · rw [if_neg (by simp)] at rd
      conv=> fun;fun;fun;simp only [↓D8,↓I0,↓B4Q,if_true,join]
      rw [B3Z (w:= .tup xs) fun kk=> by rw [rd];rfl]
      conv=> fun;fun;fun;simp only []
      rw [A80 7 _ (A9Y (by simp) fun w hw=> by
        simp only [List.mem_cons,List.not_mem_nil,or_false] at hw
        rcases hw with rfl | rfl
        · exact sx
        · rfl)]
      exact fin
  · intro kk hk
    refine (U2 (s:=4) (by omega) (by omega)).call b5 (by omega) fun r h6 hr b6 _=> ?_
    obtain ⟨t,rfl,t0,t1⟩:=hr
    conv=> fun;fun;fun;simp only [↓P9,↓I0,↓x7,decide_eq_true_eq]
    by_cases z:t=0
    · rw [if_pos z]
      refine (A0C (.inl rfl) (by simp) (by simp)).call b6 (by omega) fun r h9 hr b9 _=> ?_
      obtain ⟨w,rfl,hw⟩:=hr
      obtain ⟨y,rfl,yn⟩:∃y:Str,w= .str y∧S9 y=true:=by
        simp only [List.mem_cons,List.not_mem_nil,or_false] at hw
        rcases hw with rfl | rfl | rfl | rfl <;> exact ⟨_,rfl,by decide+kernel⟩
      conv=> fun;fun;fun;simp only [↓D8,↓P9]
      refine number_dr.call b9 (by omega) fun r h8 hr b8 _=> ?_
      obtain ⟨j,rfl,j0,j1⟩:=hr
      exact hk _ _ ⟨b8.le (by omega),_,B3M yn j0 j1⟩
    · rw [if_neg z]
      exact hk _ _ ⟨b6.le (by omega),_,B46 sz dk⟩
theorem law_says:∀ns:List Int,ns.length≤63→upc m_law [W.lst (ns.map .int)] (fun _=> none) (fun r _=> r= .val (.bl true)) fun _ _=> False:=fun ns h=> ⟨_,_,fun _ _ z=> z,fun _ _ z=> z,B6L h _ _ _ fun _=> rfl⟩
end Ab
namespace Ab
open PySem PySem.Spec PyProof.Rows L2 RZ
def A3e (E:AExc→A1→AH→Prop):C4:=
  (G1 (u0 (aChn (fun i j=> decide (i≤j)) (fun i j=> decide (i≤j)) (aC (.int 1)) (aCB B4 (C3 (aVar 0) D6)) (aC (.int 8))) (aCB Q8 (C3 (P6 [1] (A1g (aVar 0)) (G8 1) U5 (aFz (aOp2 (oInS false) (aVar 1) (aC (.str ("abcdefghijklmnopqrstuvwxyz":Str)))))) D6))))
def A3M (E:AExc→A1→AH→Prop):C4:=
  (aSeq (L4 (aOrT (aNotT (aTst (aChn (fun i j=> decide (i≤j)) (fun i j=> decide (i≤j)) (aC (.int 1)) (aCB B4 (C3 (aVar 0) D6)) (aC (.int 30))))) (aNotT (aTst (aCB Q8 (C3 (P6 [1] (A1g (aVar 0)) (G8 1) U5 (aFz (aOp2 (oInS false) (aVar 1) (aC (.str ("0123456789":Str)))))) D6))))) (G1 (aC (.bl false))) L7) (G1 (A4j (aOp2 (B5 false) (aCB B4 (C3 (aVar 0) D6)) (aC (.int 1))) (aOp2 (B5 true) (aOp2 oIx (aVar 0) (aC (.int 0))) (aC (.str ("0":Str)))))))
def A3a (E:AExc→A1→AH→Prop):C4:=
  (aSeq (L4 (aOrT (aTst (aOp2 (B5 true) (aCB B4 (C3 (aVar 0) D6)) (aC (.int 3)))) (aOrT (aNotT (aTst (aCall E (upc A0o) (aCons (aFz (aOp2 oIx (aVar 0) (aC (.int 1)))) aNil)))) (aNotT (aTst (aCall E (upc Y4) (aCons (aFz (aOp2 oIx (aVar 0) (aC (.int 2)))) aNil)))))) (G1 (aC .non)) L7) (G1 (aTup (aCons (aFz (aC (.str ("call":Str)))) (aCons (aFz (aOp2 oIx (aVar 0) (aC (.int 1)))) (aCons (aFz (aCB T2 (C3 (aOp2 oIx (aVar 0) (aC (.int 2))) D6))) aNil))))))
def A3c (E:AExc→A1→AH→Prop):C4:=
  (aSeq (aStar 1 2 (aFz (aM1 X6 (aVar 0) (aC (.str (" ":Str)))))) (aSeq (L4 (aTst (aOp2 (B5 false) (aVar 1) (aC (.str ("call":Str))))) (G1 (aCall E (upc z9) (aCons (aFz (aOp2 oAdd (aLst (aCons (aFz (aVar 1)) aNil)) (aVar 2))) aNil))) L7) (aSeq (L4 (aOrT (aTst (aInKD true ([(("over":Str),3),(("down":Str),3),(("swap":Str),2),(("tap":Str),2),(("drain":Str),2)]:List (Str×Int)) (aFz (aVar 1)))) (aNotT (aTst (aChn (fun i j=> decide (i≤j)) (fun i j=> decide (i≤j)) (aIxKD ([(("over":Str),3),(("down":Str),3),(("swap":Str),2),(("tap":Str),2),(("drain":Str),2)]:List (Str×Int)) (aFz (aVar 1))) (aCB B4 (C3 (aVar 2) D6)) (aIxKD ([(("over":Str),7),(("down":Str),7),(("swap":Str),2),(("tap":Str),2),(("drain":Str),2)]:List (Str×Int)) (aFz (aVar 1))))))) (G1 (aC .non)) L7) (aSeq (aFrz 2 (L4 (aNotT (aTst (aCB Q8 (C3 (P6 [3] (iSq (aFz (aVar 2))) (G8 3) U5 (aFz (aCall E0 (upc Y4) (aCons (aFz (aVar 3)) aNil)))) D6)))) (G1 (aC .non)) L7)) (G1 (aOp2 oAdd (aTup (aCons (aFz (aVar 1)) aNil)) (aCB O8 (C3 (P6 [3] (iSq (aFz (aVar 2))) (G8 3) U5 (aFz (aCB T2 (C3 (aVar 3) D6)))) D6))))))))
def A3K (E:AExc→A1→AH→Prop):C4:=
  (aSeq (J9 (aFz (aCall E (upc z8) (aCons (aFz (aVar 0)) aNil))) (G8 1)) (aSeq (L4 (aTst (aOp2 (L1 false) (aVar 1) (aC .non))) (A5n E "BadText" "bad text" ["row"] (aCons (aFz (aC (.int 0))) aNil)) L7) (G1 (aVar 1))))
def A3X (E:AExc→A1→AH→Prop):C4:=
  (G1 (aLst (aCons (aFz (aCB T3 (C3 (i4 (aVar 0) c8 (f8 (aC (.int 63)))) D6))) (aCons (aFz (aC (.int 0))) (aCons (aFz (aC (.int 0))) (aCons (aFz (aC (.int 9465))) (aCons (aFz (aC (.int 0))) aNil)))))))
def A3R (E:AExc→A1→AH→Prop):C4:=
  (aSeq (L4 (aAndT (aTst (aOp2 y8 (aOp2 oIx (aVar 0) (aC (.int 2))) (aVar 1))) (aTst (aOp2 y8 (aOp2 oIx (aVar 0) (aC (.int 1))) (aCB B4 (C3 (aOp2 oIx (aVar 0) (aC (.int 0))) D6))))) (aSeq (J9 (aFz (aOp2 oIx (aOp2 oIx (aVar 0) (aC (.int 0))) (aOp2 oIx (aVar 0) (aC (.int 1))))) (G8 2)) (aSeq (J9 (aFz (aOp2 oAdd (aOp2 oIx (aVar 0) (aC (.int 1))) (aC (.int 1)))) (V9 (aVar 0) (aC (.int 1)))) (aSeq (J9 (aFz (aC (.int 0))) (V9 (aVar 0) (aC (.int 2)))) (L4 (aTst (aOp2 oGe (aVar 2) (aOp2 A0P (aC (.int 10)) (aC (.int 18))))) (J9 (aFz (aVar 2)) (V9 (aVar 0) (aC (.int 2)))) (J9 (aFz (aOp2 P0 (aOp2 oAdd (aOp2 oAdd (aOp2 oMulT (aOp2 oIx (aVar 0) (aC (.int 3))) (aC (.int 48271))) (aOp2 oMulT (aOp2 P0 (aVar 2) (aC (.int 2147483629))) (aC (.int 69621)))) (aC (.int 12345))) (aC (.int 2147483647)))) (V9 (aVar 0) (aC (.int 3)))))))) L7) (aSeq (L4 (aTst (aOp2 oGe (aOp2 oIx (aVar 0) (aC (.int 2))) (aVar 1))) (aSeq (J9 (aFz (aOp2 P0 (aOp2 oIx (aVar 0) (aC (.int 2))) (aVar 1))) (G8 3)) (aSeq (J9 (aFz (aOp2 Y1 (aOp2 oIx (aVar 0) (aC (.int 2))) (aVar 1))) (V9 (aVar 0) (aC (.int 2)))) (G1 (aVar 3)))) L7) (aSeq (J9 (aFz (aOp2 oAdd (aOp2 oIx (aVar 0) (aC (.int 4))) (aC (.int 1)))) (V9 (aVar 0) (aC (.int 4)))) (aSeq (J9 (aFz (aOp2 oIx (aVar 0) (aC (.int 3)))) (G8 4)) (aSeq (J9 (aFz (aOp2 P0 (aOp2 oAdd (aOp2 oAdd (aOp2 oAdd (aOp2 oMulT (aOp2 P0 (aOp2 oMulT (aVar 4) (aVar 4)) (aC (.int 2147483629))) (aC (.int 5))) (aOp2 oMulT (aVar 4) (aC (.int 16811)))) (aOp2 oMulT (aC (.int 7919)) (aOp2 oIx (aVar 0) (aC (.int 4))))) (aC (.int 2531011))) (aC (.int 2147483647)))) (V9 (aVar 0) (aC (.int 3)))) (G1 (aOp2 P0 (aOp2 oAdd (aOp2 Y1 (aOp2 oIx (aVar 0) (aC (.int 3))) (aC (.int 61))) (aOp2 oMulT (aOp2 P0 (aOp2 oIx (aVar 0) (aC (.int 3))) (aC (.int 8191))) (aC (.int 31)))) (aVar 1))))))))
def A3T (E:AExc→A1→AH→Prop):C4:=
  (G1 (aOp2 oIx (aVar 1) (aCall E (upc D2) (aCons (aFz (aVar 0)) (aCons (aFz (aCB B4 (C3 (aVar 1) D6))) aNil)))))
def A3W (d:Nat) (E:AExc→A1→AH→Prop):C4:=
  (aSeq (L4 (aTst (aOp2 (L1 false) (aVar 1) (aC .non))) (G1 (aOp2 (L1 false) (aVar 0) (aC .non))) L7) (aSeq (L4 (aTst (aCB D9 (C3 (aVar 1) (C3 (aC (.ty "bool")) D6)))) (G1 (u0 (aCB D9 (C3 (aVar 0) (C3 (aC (.ty "bool")) D6))) (aOp2 (B5 false) (aVar 0) (aVar 1)))) L7) (aSeq (L4 (aTst (aCB D9 (C3 (aVar 1) (C3 (aC (.ty "int")) D6)))) (G1 (u0 (aCB D9 (C3 (aVar 0) (C3 (aC (.ty "int")) D6))) (u0 (A6L (aCB D9 (C3 (aVar 0) (C3 (aC (.ty "bool")) D6)))) (aOp2 (B5 false) (aVar 0) (aVar 1))))) L7) (aSeq (L4 (aTst (aCB D9 (C3 (aVar 1) (C3 (aC (.ty "str")) D6)))) (G1 (u0 (aCB D9 (C3 (aVar 0) (C3 (aC (.ty "str")) D6))) (aOp2 (B5 false) (aVar 0) (aVar 1)))) L7) (aSeq (L4 (aOrT (aTst (aOp2 (B5 true) (aCB D9 (C3 (aVar 1) (C3 (aC (.ty "tuple")) D6))) (aCB D9 (C3 (aVar 0) (C3 (aC (.ty "tuple")) D6))))) (aTst (aOp2 (B5 true) (aCB D9 (C3 (aVar 1) (C3 (aC (.ty "list")) D6))) (aCB D9 (C3 (aVar 0) (C3 (aC (.ty "list")) D6)))))) (G1 (aC (.bl false))) L7) (aSeq (L4 (aTst (aOp2 (B5 true) (aCB B4 (C3 (aVar 0) D6)) (aCB B4 (C3 (aVar 1) D6)))) (G1 (aC (.bl false))) L7) (G1 (aCB Q8 (C3 (P6 [2] (A1B (C3 (aCB B4 (C3 (aVar 1) D6)) D6)) (G8 2) U5 (aFz (aCall E0 (upc (m__law_same d)) (aCons (aFz (aOp2 oIx (aVar 0) (aVar 2))) (aCons (aFz (aOp2 oIx (aVar 1) (aVar 2))) aNil))))) D6)))))))))
def A3P (E:AExc→A1→AH→Prop):C4:=
  (G1 (aCB O8 (C3 (P6 [3] (A1B (C3 (aOp2 oAdd (aC (.int 1)) (aCall E (upc D2) (aCons (aFz (aVar 0)) (aCons (aFz (aVar 1)) aNil)))) D6)) (G8 3) U5 (aFz (aOp2 oAdd (aC (.int 1)) (aCall E0 (upc D2) (aCons (aFz (aVar 0)) (aCons (aFz (aVar 2)) aNil)))))) D6)))
def A3E (E:AExc→A1→AH→Prop):C4:=
  (G1 (aCall E (upc A0h) (aCons (aFz (aVar 0)) (aCons (aFz (aC (.int 6))) (aCons (aFz (aCall E (upc L5) (aCons (aFz (aVar 0)) (aCons (aFz (aLst (aCons (aFz (aC (.int 40))) (aCons (aFz (aC (.int 9))) (aCons (aFz (aC (.int 4))) (aCons (aFz (aC (.int 2))) aNil)))))) aNil)))) aNil)))))
def A3L (E:AExc→A1→AH→Prop):C4:=
  (aSeq (J9 (aFz (aLst (aCons (aFz (aC (.int 0))) (aCons (aFz (aC (.int 1))) (aCons (aFz (aC (.int 2))) (aCons (aFz (aC (.int 3))) (aCons (aFz (aOp2 oAdd (aC (.int 1)) (aCall E (upc D2) (aCons (aFz (aVar 0)) (aCons (aFz (aC (.int 9))) aNil))))) (aCons (aFz (aCall E (upc D2) (aCons (aFz (aVar 0)) (aCons (aFz (aC (.int 45))) aNil)))) (aCons (aFz (aOp2 y0 (aOp2 A0P (aC (.int 10)) (aC (.int 30))) (aC (.int 1)))) (aCons (aFz (aCall E (upc D2) (aCons (aFz (aVar 0)) (aCons (aFz (aOp2 A0P (aC (.int 10)) (aC (.int 30)))) aNil)))) aNil)))))))))) (G8 1)) (G1 (aCall E (upc L5) (aCons (aFz (aVar 0)) (aCons (aFz (aVar 1)) aNil)))))
def A3G (E:AExc→A1→AH→Prop):C4:=
  (aSeq (A1j 2 (aCB T3 (C3 (aVar 1) D6))) (G1 (P6 [3] (iSq (aFz (aVar 1))) (G8 3) U5 (aFz (aLm d3 (aVar 2) (aCons (aFz (aCall E0 (upc D2) (aCons (aFz (aVar 0)) (aCons (aFz (aCB B4 (C3 (aVar 2) D6))) aNil)))) aNil))))))
def A3D (E:AExc→A1→AH→Prop):C4:=
  (G1 (aCB O8 (C3 (i4 (aCall E (upc A0a) (aCons (aFz (aVar 0)) (aCons (aFz (A6Z (aVar 1))) aNil))) c8 (f8 (aVar 2))) D6)))
def A3Q (E:AExc→A1→AH→Prop):C4:=
  (aSeq (A1j 1 (aLst aNil)) (aSeq (A4l (A1B (C3 (aCB B4 (C3 (aVar 0) D6)) D6)) (G8 2) (aSeq (A5i 3 (P6 [4] (A1B (C3 (aCB B4 (C3 (aVar 0) D6)) D6)) (G8 4) (aAndT (aTst (aOp2 (B5 true) (aVar 4) (aVar 2))) (aTst (aOp2 (B5 false) (aOp2 oIx (aVar 0) (aVar 4)) (aOp2 oIx (aVar 0) (aVar 2))))) (aFz (aVar 4)))) (aFrz 3 (A1c (aExt (aVar 1) (P6 [4] (iSq (aFz (aVar 3))) (G8 4) U5 (aFz (aTup (aCons (aFz (aVar 2)) (aCons (aFz (aVar 4)) aNil)))))))))) (G1 (aVar 1))))
def A3S (E:AExc→A1→AH→Prop):C4:=
  (aSeq (J9 (aFz (aCall E (upc D2) (aCons (aFz (aVar 0)) (aCons (aFz (aC (.int 12))) aNil)))) (G8 4)) (aSeq (J9 (aFz (aCall E (upc A0g) (aCons (aFz (aVar 1)) aNil))) (G8 5)) (aSeq (L4 (aAndT (aTst (aOp2 (B5 false) (aVar 4) (aC (.int 0)))) (aTst (aOp2 (B5 true) (aVar 5) (aLst aNil)))) (G1 (aOp2 oAdd (aTup (aCons (aFz (aC (.str ("swap":Str)))) aNil)) (aCall E (upc L5) (aCons (aFz (aVar 0)) (aCons (aFz (aVar 5)) aNil))))) L7) (aSeq (L4 (aAndT (aTst (aOp2 y8 (aVar 4) (aC (.int 3)))) (aTst (aVar 3))) (G1 (aTup (aCons (aFz (aC (.str ("tap":Str)))) (aCons (aFz (aCall E (upc L5) (aCons (aFz (aVar 0)) (aCons (aFz (aLst (aCons (aFz (aC (.int 1))) (aCons (aFz (aC (.int 1))) (aCons (aFz (aC (.int 2))) (aCons (aFz (aC (.int 3))) (aCons (aFz (aVar 2)) aNil))))))) aNil)))) (aCons (aFz (aCall E (upc D2) (aCons (aFz (aVar 0)) (aCons (aFz (aCB B4 (C3 (aVar 1) D6))) aNil)))) aNil))))) L7) (aSeq (L4 (aOrT (aTst (aOp2 (B5 false) (aVar 4) (aC (.int 3)))) (aTst (aOp2 (B5 false) (aCB B4 (C3 (aVar 1) D6)) (aC (.int 1))))) (G1 (aTup (aCons (aFz (aC (.str ("drain":Str)))) (aCons (aFz (aVar 2)) (aCons (aFz (aCall E (upc D2) (aCons (aFz (aVar 0)) (aCons (aFz (aCB B4 (C3 (aVar 1) D6))) aNil)))) aNil))))) L7) (aSeq (J9 (aFz (aOp2 oAdd (aC (.int 2)) (aCall E (upc D2) (aCons (aFz (aVar 0)) (aCons (aFz (aOp2 y0 (aCB B4 (C3 (aVar 1) D6)) (aC (.int 1)))) aNil))))) (G8 6)) (aSeq (J9 (aFz (aOp2 oIx (aLst (aCons (aFz (aC (.str ("over":Str)))) (aCons (aFz (aC (.str ("down":Str)))) aNil))) (aOp2 Y1 (aCall E (upc D2) (aCons (aFz (aVar 0)) (aCons (aFz (aC (.int 3))) aNil))) (aC (.int 2))))) (G8 7)) (G1 (aOp2 oAdd (aTup (aCons (aFz (aVar 7)) (aCons (aFz (aVar 2)) aNil))) (aCall E (upc i5) (aCons (aFz (aVar 0)) (aCons (aFz (aCB B4 (C3 (aVar 1) D6))) (aCons (aFz (aVar 6)) aNil)))))))))))))
def A3C (E:AExc→A1→AH→Prop):C4:=
  (aSeq (L4 (aOrT (aNotT (aTst (aChn (fun i j=> decide (i≤j)) (fun i j=> decide (i≤j)) (aC (.int 1)) (aCB B4 (C3 (aVar 0) D6)) (aC (.int 30))))) (aNotT (aTst (aCB Q8 (C3 (P6 [1] (A1g (aVar 0)) (G8 1) U5 (aFz (aOp2 (oInS false) (aVar 1) (aC (.str ("0123456789":Str)))))) D6))))) (G1 (aC (.bl false))) L7) (G1 (A4j (aOp2 (B5 false) (aVar 0) (aC (.str ("0":Str)))) (aOp2 (B5 true) (aOp2 oIx (aVar 0) (aC (.int 0))) (aC (.str ("0":Str)))))))
def A3J (E:AExc→A1→AH→Prop):C4:=
  (G1 (u0 (aChn (fun i j=> decide (i≤j)) (fun i j=> decide (i≤j)) (aC (.int 1)) (aCB B4 (C3 (aVar 0) D6)) (aC (.int 8))) (aCB Q8 (C3 (P6 [1] (A1g (aVar 0)) (G8 1) U5 (aFz (aOp2 (oInS false) (aVar 1) (aC (.str ("abcdefghijklmnopqrstuvwxyz":Str)))))) D6))))
def A3U (E:AExc→A1→AH→Prop):C4:=
  (aSeq (J9 (aFz (aM1 X6 (aVar 0) (aC (.str (" ":Str))))) (G8 1)) (aSeq (L4 (aTst (aOp2 (B5 false) (aOp2 oIx (aVar 1) (aC (.int 0))) (aC (.str ("call":Str))))) (aSeq (J9 (aFz (u0 (aOp2 (B5 false) (aCB B4 (C3 (aVar 1) D6)) (aC (.int 3))) (u0 (aCall E (upc A0b) (aCons (aFz (aOp2 oIx (aVar 1) (aC (.int 1)))) aNil)) (aCall E (upc a9) (aCons (aFz (aOp2 oIx (aVar 1) (aC (.int 2)))) aNil))))) (G8 2)) (G1 (aIfE (aTst (aVar 2)) (aTup (aCons (aFz (aC (.str ("call":Str)))) (aCons (aFz (aOp2 oIx (aVar 1) (aC (.int 1)))) (aCons (aFz (aCB T2 (C3 (aOp2 oIx (aVar 1) (aC (.int 2))) D6))) aNil)))) (aC .non)))) L7) (aSeq (J9 (aFz (aGetMD (A6b (aCons (aFz (aC (.str ("over":Str)))) (aCons (aFz (aC (.int 8))) (aCons (aFz (aC (.str ("down":Str)))) (aCons (aFz (aC (.int 8))) (aCons (aFz (aC (.str ("swap":Str)))) (aCons (aFz (aC (.int 3))) (aCons (aFz (aC (.str ("tap":Str)))) (aCons (aFz (aC (.int 3))) (aCons (aFz (aC (.str ("drain":Str)))) (aCons (aFz (aC (.int 3))) aNil))))))))))) (aFz (aOp2 oIx (aVar 1) (aC (.int 0)))) (aFz (aC (.int 0))))) (G8 3)) (aSeq (L4 (aOrT (aNotT (aTst (aChn (fun i j=> decide (i≤j)) (fun i j=> decide (i≤j)) (aIfE (aTst (aOp2 (B5 false) (aVar 3) (aC (.int 3)))) (aC (.int 3)) (aC (.int 4))) (aCB B4 (C3 (aVar 1) D6)) (aVar 3)))) (aNotT (aTst (aCB Q8 (C3 (P6 [4] (iSq (aFz (i4 (aVar 1) (f8 (aC (.int 1))) c8))) (G8 4) U5 (aFz (aCall E0 (upc a9) (aCons (aFz (aVar 4)) aNil)))) D6))))) (G1 (aC .non)) L7) (G1 (aCB O8 (C3 (aOp2 oAdd (i4 (aVar 1) c8 (f8 (aC (.int 1)))) (P6 [4] (iSq (aFz (i4 (aVar 1) (f8 (aC (.int 1))) c8))) (G8 4) U5 (aFz (aCB T2 (C3 (aVar 4) D6))))) D6)))))))
def A3H (E:AExc→A1→AH→Prop):C4:=
  (aSeq (A1j 2 (aM1 X6 (aVar 1) (aC (.str (" ":Str))))) (aSeq (A6n 3 4 (aCons (aFz (aCall E (upc D2) (aCons (aFz (aVar 0)) (aCons (aFz (aCB B4 (C3 (aVar 2) D6))) aNil)))) (aCons (aFz (aCall E (upc D2) (aCons (aFz (aVar 0)) (aCons (aFz (aCB B4 (C3 (aVar 2) D6))) aNil)))) aNil))) (aSeq (J9 (aFz (aCall E (upc D2) (aCons (aFz (aVar 0)) (aCons (aFz (aOp2 oAdd (aCB B4 (C3 (aVar 1) D6)) (aC (.int 1)))) aNil)))) (G8 5)) (aSeq (J9 (aFz (aCall E (upc D2) (aCons (aFz (aVar 0)) (aCons (aFz (aC (.int 7))) aNil)))) (G8 6)) (aSeq (L4 (aTst (aOp2 (B5 false) (aVar 6) (aC (.int 0)))) (G1 (aOp2 oAdd (aOp2 oAdd (i4 (aVar 1) c8 (f8 (aVar 5))) (aCall E (upc L5) (aCons (aFz (aVar 0)) (aCons (aFz (aLst (aCons (aFz (aC (.str ("0":Str)))) (aCons (aFz (aC (.str ("-":Str)))) (aCons (aFz (aC (.str (" ":Str)))) (aCons (aFz (aC (.str ("a":Str)))) (aCons (aFz (aC (.str ("7":Str)))) (aCons (aFz (aC (.str ("+":Str)))) aNil)))))))) aNil)))) (i4 (aVar 1) (f8 (aVar 5)) c8))) L7) (aSeq (L4 (aTst (aOp2 (B5 false) (aVar 6) (aC (.int 1)))) (G1 (aOp2 oAdd (i4 (aVar 1) c8 (f8 (aVar 5))) (i4 (aVar 1) (f8 (aOp2 oAdd (aVar 5) (aC (.int 1)))) c8))) L7) (aSeq (L4 (aTst (aOp2 (B5 false) (aVar 6) (aC (.int 2)))) (J9 (aFz (aTup (aCons (aFz (aOp2 oIx (aVar 2) (aVar 4))) (aCons (aFz (aOp2 oIx (aVar 2) (aVar 3))) aNil)))) (gTp 2 (A2h (V9 (aVar 2) (aVar 3)) (A2h (V9 (aVar 2) (aVar 4)) A6M)))) L7) (aSeq (L4 (aTst (aOp2 (B5 false) (aVar 6) (aC (.int 3)))) (aSeq (J9 (aFz (aLst (aCons (aFz (aC (.str ("over":Str)))) (aCons (aFz (aC (.str ("call":Str)))) (aCons (aFz (aC (.str ("1":Str)))) (aCons (aFz (aC (.str ("00":Str)))) (aCons (aFz (aOp2 oMulX (aC (.str ("9":Str))) (aC (.int 30)))) (aCons (aFz (aOp2 oAdd (aC (.str ("1":Str))) (aOp2 oMulX (aC (.str ("0":Str))) (aC (.int 30))))) (aCons (aFz (aC (.str ("swap":Str)))) (aCons (aFz (aC (.str ("Tap":Str)))) (aCons (aFz (aC (.str ("abcdefghi":Str)))) aNil))))))))))) (G8 7)) (A1c (aLm A0D (aVar 2) (aCons (aFz (aVar 3)) (aCons (aFz (aCall E (upc L5) (aCons (aFz (aVar 0)) (aCons (aFz (aVar 7)) aNil)))) aNil))))) L7) (aSeq (L4 (aTst (aOp2 (B5 false) (aVar 6) (aC (.int 4)))) (A1c (aLm d3 (aVar 2) (aCons (aFz (aVar 3)) aNil))) L7) (aSeq (L4 (aTst (aOp2 (B5 false) (aVar 6) (aC (.int 5)))) (J9 (aFz (aCall E (upc L5) (aCons (aFz (aVar 0)) (aCons (aFz (aLst (aCons (aFz (aC (.str ("down":Str)))) (aCons (aFz (aC (.str ("drain":Str)))) (aCons (aFz (aC (.str ("0":Str)))) (aCons (aFz (aC (.str ("01":Str)))) (aCons (aFz (aOp2 oMulX (aC (.str ("9":Str))) (aC (.int 31)))) (aCons (aFz (aC (.str ("a":Str)))) (aCons (aFz (aC (.str ("abcdefgh":Str)))) (aCons (aFz (aC (.str ("-1":Str)))) aNil)))))))))) aNil)))) (V9 (aVar 2) (aVar 3))) L7) (G1 (aJoin (aC (.str (" ":Str))) (aVar 2)))))))))))))
def A4T (E:AExc→A1→AH→Prop):C4:=
  (aSeq (A1j 1 (aCall E (upc A0k) (aCons (aFz (aVar 0)) aNil))) (aSeq (A1X 1 (A4l (A1B (C3 (aC (.int 10)) D6)) (G8 2) (aSeq (J9 (aFz (aCall E (upc A0Z) (aCons (aFz (aVar 1)) aNil))) (G8 3)) (aSeq (J9 (aFz (aCall E (upc A0j) (aCons (aFz (aVar 1)) (aCons (aFz (aVar 3)) (aCons (aFz (aCall E (upc u4) (aCons (aFz (aVar 1)) aNil))) (aCons (aFz (aC (.bl true))) aNil)))))) (G8 4)) (aSeq (L4 (aTst (aOp2 (B5 false) (aCall E (upc D2) (aCons (aFz (aVar 1)) (aCons (aFz (aC (.int 4))) aNil))) (aC (.int 0)))) (J9 (aFz (aTup (aCons (aFz (aC (.str ("call":Str)))) (aCons (aFz (aCall E (upc L5) (aCons (aFz (aVar 1)) (aCons (aFz (aLst (aCons (aFz (aC (.str ("a":Str)))) (aCons (aFz (aC (.str ("ab":Str)))) (aCons (aFz (aC (.str ("abcdefgh":Str)))) (aCons (aFz (aC (.str ("over":Str)))) aNil)))))) aNil)))) (aCons (aFz (aCall E (upc u4) (aCons (aFz (aVar 1)) aNil))) aNil))))) (G8 4)) L7) (aSeq (J9 (aFz (aCall E (upc A0d) (aCons (aFz (aVar 1)) (aCons (aFz (aJoin (aC (.str (" ":Str))) (P6 [6] (iSq (aFz (aVar 4))) (G8 6) U5 (aFz (aCB Y0 (C3 (aVar 6) D6)))))) aNil)))) (G8 5)) (aSeq (J9 (aFz (aCall E (upc A0l) (aCons (aFz (aVar 5)) aNil))) (G8 7)) (aSeq (J9 (aFz (aC (.str ("none":Str)))) (G8 8)) (aSeq (J9 (aFz (aC .non)) (G8 9)) (aSeq (A6j ["BadText"] [("BadText",10,8,(A2x "row"))] E (fun E=> (J9 (aFz (aCall E (upc A0c) (aCons (aFz (aVar 5)) aNil))) (G8 9)))) (L4 (aNotT (aTst (aCall E (upc (m__law_same 8)) (aCons (aFz (aLst (aCons (aFz (aVar 9)) (aCons (aFz (aVar 8)) aNil)))) (aCons (aFz (aLst (aCons (aFz (aVar 7)) (aCons (aFz (aIfE (aTst (aOp2 (L1 true) (aVar 7) (aC .non))) (aC (.str ("none":Str))) (aC (.int 0)))) aNil)))) aNil))))) (G1 (aC (.bl false))) L7))))))))))) (G1 (aC (.bl true)))))
theorem B3H {Q:RR→AH→Prop} {E:AExc→AH→Prop} {Q':RR→AH→Prop} {E':AExc→AH→Prop} (hQ:∀r h,Q r h→Q' r h) (hE:∀x h,E x h→E' x h) (x_text:W):∀h,A2N x_text h Q E→A3e (F4 E') (C9 Q') [some (.val x_text),none] h:=by
  have hr_:=O6 hQ
  generalize C9 Q'=D0 at hr_ ⊢
  obtain ⟨nx0,rt0,bk0,ct0⟩:=D0
  have hr_:∀r s env h,Rl env r s→Q s.rr h→rt0 r env h:=hr_
  have he:=O7 hE
  unfold A2N A3e
  exact (G9 hr_ (SN.se (A0L (SN.se (A1U (SN.se A6) (SN.se (F3 N1 (C6 (SN.se (A7 rfl)) E3))) (SN.se A6))) (F3 A05 (C6 (SN.se (Z1 (A3i (SN.se (A7 rfl))) (fun x_sign h kk K1 K0 h1 h0 z=> by exact X4 (e1:=[some (.val x_text),some (.val x_sign)]) U4 Y6 (A5 (B1 A4D (SN.se (A7 rfl)) (SN.se A6))) rfl h1 h0 z))) E3)))))
theorem B3V (ws:List W) (h:AH) (Qa:RR→AH→Prop) (Ea:AExc→AH→Prop) (hl:ws.length=1) (z:upc A0o ws h Qa Ea):A3e (F4 Ea) (C9 Qa) (L0 2 ws) h:=by
  obtain ⟨Q0,E0,hQ,hE,z⟩:=z
  match ws,hl with
  | [x_text],_=> exact B3H hQ hE x_text h z
theorem B1o {Q:RR→AH→Prop} {E:AExc→AH→Prop} {Q':RR→AH→Prop} {E':AExc→AH→Prop} (hQ:∀r h,Q r h→Q' r h) (hE:∀x h,E x h→E' x h) (x_text:W):∀h,A14 x_text h Q E→A3M (F4 E') (C9 Q') [some (.val x_text),none] h:=by
  have hr_:=O6 hQ
  generalize C9 Q'=D0 at hr_ ⊢
  obtain ⟨nx0,rt0,bk0,ct0⟩:=D0
  have hr_:∀r s env h,Rl env r s→Q s.rr h→rt0 r env h:=hr_
  have he:=O7 hE
  unfold A14 A3M
  exact (E6 (M0 (A0M (d5 (G0 (SN.se (A1U (SN.se A6) (SN.se (F3 N1 (C6 (SN.se (A7 rfl)) E3))) (SN.se A6))))) (d5 (G0 (SN.se (F3 A05 (C6 (SN.se (Z1 (A3i (SN.se (A7 rfl))) (fun x_sign h kk K1 K0 h1 h0 z=> by exact X4 (e1:=[some (.val x_text),some (.val x_sign)]) U4 Y6 (A5 (B1 A4D (SN.se (A7 rfl)) (SN.se A6))) rfl h1 h0 z))) E3)))))) (G9 hr_ (SN.se A6)) (M3 (E7 (G9 hr_ (SN.se (B0L (SN.se (B1 M4 (SN.se (F3 N1 (C6 (SN.se (A7 rfl)) E3))) (SN.se A6))) (B1 M4 (SN.se (B1 J8 (SN.se (A7 rfl)) (SN.se A6))) (SN.se A6)))))))))
theorem B1l (ws:List W) (h:AH) (Qa:RR→AH→Prop) (Ea:AExc→AH→Prop) (hl:ws.length=1) (z:upc Y4 ws h Qa Ea):A3M (F4 Ea) (C9 Qa) (L0 2 ws) h:=by
  obtain ⟨Q0,E0,hQ,hE,z⟩:=z
  match ws,hl with
  | [x_text],_=> exact B1o hQ hE x_text h z
theorem B3R {Q:RR→AH→Prop} {E:AExc→AH→Prop} {Q':RR→AH→Prop} {E':AExc→AH→Prop} (hQ:∀r h,Q r h→Q' r h) (hE:∀x h,E x h→E' x h) (x_words:W):∀h,A2M x_words h Q E→A3a (F4 E') (C9 Q') [some (.val x_words)] h:=by
  have hr_:=O6 hQ
  generalize C9 Q'=D0 at hr_ ⊢
  obtain ⟨nx0,rt0,bk0,ct0⟩:=D0
  have hr_:∀r s env h,Rl env r s→Q s.rr h→rt0 r env h:=hr_
  have he:=O7 hE
  unfold A2M A3a
  exact (E6 (M0 (A0M (G0 (SN.se (B1 M4 (SN.se (F3 N1 (C6 (SN.se (A7 rfl)) E3))) (SN.se A6)))) (A0M (d5 (G0 (SN.se (G6 (he _) (A9 (A5 (B1 J8 (SN.se (A7 rfl)) (SN.se A6))) C1))))) (d5 (G0 (SN.se (G6 (he _) (A9 (A5 (B1 J8 (SN.se (A7 rfl)) (SN.se A6))) C1))))))) (G9 hr_ (SN.se A6)) (M3 (E7 (G9 hr_ (SN.se (r4 (A9 (A5 A6) (A9 (A5 (B1 J8 (SN.se (A7 rfl)) (SN.se A6))) (A9 (A5 (F3 A3z (C6 (SN.se (B1 J8 (SN.se (A7 rfl)) (SN.se A6))) E3))) C1))))))))))
theorem B3G (ws:List W) (h:AH) (Qa:RR→AH→Prop) (Ea:AExc→AH→Prop) (hl:ws.length=1) (z:upc z9 ws h Qa Ea):A3a (F4 Ea) (C9 Qa) (L0 1 ws) h:=by
  obtain ⟨Q0,E0,hQ,hE,z⟩:=z
  match ws,hl with
  | [x_words],_=> exact B3R hQ hE x_words h z
theorem B3N {Q:RR→AH→Prop} {E:AExc→AH→Prop} {Q':RR→AH→Prop} {E':AExc→AH→Prop} (hQ:∀r h,Q r h→Q' r h) (hE:∀x h,E x h→E' x h) (x_text:W):∀h,A2O x_text h Q E→A3c (F4 E') (C9 Q') [some (.val x_text),none,none,none] h:=by
  have hr_:=O6 hQ
  generalize C9 Q'=D0 at hr_ ⊢
  obtain ⟨nx0,rt0,bk0,ct0⟩:=D0
  have hr_:∀r s env h,Rl env r s→Q s.rr h→rt0 r env h:=hr_
  have he:=O7 hE
  unfold A2O A3c
  exact (E6 (B5S (fun x_word x_rest=> [some (.val x_text),some (.val x_word),some x_rest,none]) (fun _ _=> rfl) (A5 (A6G A5J (SN.se (A7 rfl)) (SN.se A6))) (fun x_word x_rest=> (E7 (E6 (M0 (G0 (SN.se (B1 M4 (SN.se (A7 rfl)) (SN.se A6)))) (G9 hr_ (SN.se (G6 (he _) (A9 (A5 (B1 N7 (SN.se (W4 (A9 (A5 (A7 rfl)) C1))) (Q6 rfl))) C1)))) (M3 (E7 (E6 (M0 (A0M (G0 (SN.se (B4k (A5 (A7 rfl))))) (d5 (G0 (SN.se (A1U (SN.se (A8l (A5 (A7 rfl)))) (SN.se (F3 N1 (C6 (Q6 rfl) E3))) (SN.se (A8l (A5 (A7 rfl))))))))) (G9 hr_ (SN.se A6)) (M3 (E7 (E6 (A9U [some (.val x_text),some (.val x_word),some (.val (SV.fz x_rest)),none] rfl rfl (M0 (d5 (G0 (SN.se (F3 A05 (C6 (SN.se (Z1 (A0q (A5 (A7 rfl))) (fun x_one h kk K1 K0 h1 h0 z=> by exact X4 (e1:=[some (.val x_text),some (.val x_word),some (.val (SV.fz x_rest)),some (.val x_one)]) U4 Y6 (A5 (A2Y (A9 (A5 (A7 rfl)) C1))) rfl h1 h0 z))) E3))))) (G9 hr_ (SN.se A6)) (M3 (E7 (G9 hr_ (SN.se (B1 N7 (SN.se (r4 (A9 (A5 (A7 rfl)) C1))) (SN.se (F3 A3y (C6 (SN.se (Z1 (A0q (A5 (A7 rfl))) (fun x_one h kk K1 K0 h1 h0 z=> by exact X4 (e1:=[some (.val x_text),some (.val x_word),some (.val (SV.fz x_rest)),some (.val x_one)]) U4 Y6 (A5 (F3 A3z (C6 (SN.se (A7 rfl)) E3))) rfl h1 h0 z))) E3)))))))))))))))))))))))
theorem B28 (ws:List W) (h:AH) (Qa:RR→AH→Prop) (Ea:AExc→AH→Prop) (hl:ws.length=1) (z:upc z8 ws h Qa Ea):A3c (F4 Ea) (C9 Qa) (L0 4 ws) h:=by
  obtain ⟨Q0,E0,hQ,hE,z⟩:=z
  match ws,hl with
  | [x_text],_=> exact B3N hQ hE x_text h z
theorem B1U {Q:RR→AH→Prop} {E:AExc→AH→Prop} {Q':RR→AH→Prop} {E':AExc→AH→Prop} (hQ:∀r h,Q r h→Q' r h) (hE:∀x h,E x h→E' x h) (x_text:W):∀h,A10 x_text h Q E→A3K (F4 E') (C9 Q') [some (.val x_text),none] h:=by
  have hr_:=O6 hQ
  generalize C9 Q'=D0 at hr_ ⊢
  obtain ⟨nx0,rt0,bk0,ct0⟩:=D0
  have hr_:∀r s env h,Rl env r s→Q s.rr h→rt0 r env h:=hr_
  have he:=O7 hE
  unfold A10 A3K
  exact (E6 (N9 (fun x_step=> [some (.val x_text),some (.val x_step)]) (fun _=> rfl) (A5 (G6 (he _) (A9 (A5 (A7 rfl)) C1))) (fun x_step=> (E7 (E6 (M0 (G0 (SN.se (B1 A4J (SN.se (A7 rfl)) (SN.se A6)))) (B36 (he _) (A9 (A5 A6) C1)) (M3 (E7 (G9 hr_ (SN.se (A7 rfl)))))))))))
theorem B1b (ws:List W) (h:AH) (Qa:RR→AH→Prop) (Ea:AExc→AH→Prop) (hl:ws.length=1) (z:upc A0c ws h Qa Ea):A3K (F4 Ea) (C9 Qa) (L0 2 ws) h:=by
  obtain ⟨Q0,E0,hQ,hE,z⟩:=z
  match ws,hl with
  | [x_text],_=> exact B1U hQ hE x_text h z
theorem B2a {Q:RR→AH→Prop} {E:AExc→AH→Prop} {Q':RR→AH→Prop} {E':AExc→AH→Prop} (hQ:∀r h,Q r h→Q' r h) (hE:∀x h,E x h→E' x h) (x_script:W):∀h,A2A x_script h Q E→A3X (F4 E') (C9 Q') [some (.val x_script)] h:=by
  have hr_:=O6 hQ
  generalize C9 Q'=D0 at hr_ ⊢
  obtain ⟨nx0,rt0,bk0,ct0⟩:=D0
  have hr_:∀r s env h,Rl env r s→Q s.rr h→rt0 r env h:=hr_
  have he:=O7 hE
  unfold A2A A3X
  exact (G9 hr_ (SN.se (W4 (A9 (A5 (F3 A9B (C6 (SN.se (w7 (SN.se (A7 rfl)) w8 (u8 (SN.se A6)))) E3))) (A9 (A5 A6) (A9 (A5 A6) (A9 (A5 A6) (A9 (A5 A6) C1))))))))
theorem B2H (ws:List W) (h:AH) (Qa:RR→AH→Prop) (Ea:AExc→AH→Prop) (hl:ws.length=1) (z:upc A0k ws h Qa Ea):A3X (F4 Ea) (C9 Qa) (L0 1 ws) h:=by
  obtain ⟨Q0,E0,hQ,hE,z⟩:=z
  match ws,hl with
  | [x_script],_=> exact B2a hQ hE x_script h z
theorem B2F {Q:RR→AH→Prop} {E:AExc→AH→Prop} {Q':RR→AH→Prop} {E':AExc→AH→Prop} (hQ:∀r h,Q r h→Q' r h) (hE:∀x h,E x h→E' x h) (x_bag x_sides:W):∀h,A17 x_bag x_sides h Q E→A3R (F4 E') (C9 Q') [some (.val x_bag),some (.val x_sides),none,none,none] h:=by
  have hr_:=O6 hQ
  generalize C9 Q'=D0 at hr_ ⊢
  obtain ⟨nx0,rt0,bk0,ct0⟩:=D0
  have hr_:∀r s env h,Rl env r s→Q s.rr h→rt0 r env h:=hr_
  have he:=O7 hE
  unfold A17 A3R
  exact (A0s (fun (s5:SV) (j6:Option SV)=> [some s5,some (.val x_sides),j6,none,none]) (fun s5 j6=> (E6 (M0 (G0 (SN.se (B1 B0K (SN.se (B1 J8 (Q6 rfl) (SN.se A6))) (SN.se (A7 rfl))))) (E6 (N9 (fun x_side=> [some s5,some (.val x_sides),j6,some (.val x_side),none]) (fun _=> rfl) (A5 (B1 A0w (SN.se (B1 J8 (Q6 rfl) (SN.se A6))) (SN.se (A7 rfl)))) (fun x_side=> (E7 (E6 (u6 (fun x_bag=> [some x_bag,some (.val x_sides),j6,some (.val x_side),none]) (fun _=> rfl) (A5 (B1 A5T (SN.se (B1 J8 (Q6 rfl) (SN.se A6))) (SN.se (A7 rfl)))) rfl (SN.se A6) (fun x_bag=> (E7 (G9 hr_ (SN.se (A7 rfl))))))))))) (M3 (E7 (E6 (u6 (fun x_bag=> [some x_bag,some (.val x_sides),j6,none,none]) (fun _=> rfl) (A5 (B1 N7 (SN.se (B1 J8 (Q6 rfl) (SN.se A6))) (SN.se A6))) rfl (SN.se A6) (fun x_bag=> (E7 (E6 (N9 (fun x_mix=> [some x_bag,some (.val x_sides),j6,none,some (.val x_mix)]) (fun _=> rfl) (A5 (B1 J8 (Q6 rfl) (SN.se A6))) (fun x_mix=> (E7 (E6 (u6 (fun x_bag=> [some x_bag,some (.val x_sides),j6,none,some (.val x_mix)]) (fun _=> rfl) (A5 (B1 A0w (SN.se (B1 N7 (SN.se (B1 N7 (SN.se (B1 N7 (SN.se (B1 A0r (SN.se (B1 A0w (SN.se (B1 A0r (SN.se (A7 rfl)) (SN.se (A7 rfl)))) (SN.se A6))) (SN.se A6))) (SN.se (B1 A0r (SN.se (A7 rfl)) (SN.se A6))))) (SN.se (B1 A0r (SN.se A6) (SN.se (B1 J8 (Q6 rfl) (SN.se A6))))))) (SN.se A6))) (SN.se A6))) rfl (SN.se A6) (fun x_bag=> (E7 (G9 hr_ (SN.se (B1 A0w (SN.se (B1 N7 (SN.se (B1 A5T (SN.se (B1 J8 (Q6 rfl) (SN.se A6))) (SN.se A6))) (SN.se (B1 A0r (SN.se (B1 A0w (SN.se (B1 J8 (Q6 rfl) (SN.se A6))) (SN.se A6))) (SN.se A6))))) (SN.se (A7 rfl)))))))))))))))))))))) (fun N8=> (M0 (A31 (G0 (SN.se (B1 A6F (SN.se (B1 J8 (SN.se (A7 rfl)) (SN.se A6))) (SN.se (A7 rfl))))) (G0 (SN.se (B1 A6F (SN.se (B1 J8 (SN.se (A7 rfl)) (SN.se A6))) (SN.se (F3 N1 (C6 (SN.se (B1 J8 (SN.se (A7 rfl)) (SN.se A6))) E3))))))) (E6 (N9 (fun x_cell=> [some (.val x_bag),some (.val x_sides),some (.val x_cell),none,none]) (fun _=> rfl) (A5 (B1 J8 (SN.se (B1 J8 (SN.se (A7 rfl)) (SN.se A6))) (SN.se (B1 J8 (SN.se (A7 rfl)) (SN.se A6))))) (fun x_cell=> (E7 (E6 (u6 (fun x_bag=> [some x_bag,some (.val x_sides),some (.val x_cell),none,none]) (fun _=> rfl) (A5 (B1 N7 (SN.se (B1 J8 (SN.se (A7 rfl)) (SN.se A6))) (SN.se A6))) rfl (SN.se A6) (fun x_bag=> (E7 (E6 (u6 (fun x_bag=> [some x_bag,some (.val x_sides),some (.val x_cell),none,none]) (fun _=> rfl) (A5 A6) rfl (SN.se A6) (fun x_bag=> (E7 (M0 (G0 (SN.se (B1 B0K (SN.se (A7 rfl)) (SN.se (B1 A5f (SN.se A6) (SN.se A6)))))) (u6 (fun x_bag=> [some x_bag,some (.val x_sides),some (.val x_cell),none,none]) (fun _=> rfl) (A5 (A7 rfl)) rfl (SN.se A6) (fun x_bag=> (fun h z=> N8 x_bag (some (.val x_cell)) h z))) (u6 (fun x_bag=> [some x_bag,some (.val x_sides),some (.val x_cell),none,none]) (fun _=> rfl) (A5 (B1 A0w (SN.se (B1 N7 (SN.se (B1 N7 (SN.se (B1 A0r (SN.se (B1 J8 (Q6 rfl) (SN.se A6))) (SN.se A6))) (SN.se (B1 A0r (SN.se (B1 A0w (SN.se (A7 rfl)) (SN.se A6))) (SN.se A6))))) (SN.se A6))) (SN.se A6))) rfl (SN.se A6) (fun x_bag=> (fun h z=> N8 x_bag (some (.val x_cell)) h z)))))))))))))))) (M3 (fun h z=> N8 (.val x_bag) (none) h z)))))
theorem B2J (ws:List W) (h:AH) (Qa:RR→AH→Prop) (Ea:AExc→AH→Prop) (hl:ws.length=2) (z:upc D2 ws h Qa Ea):A3R (F4 Ea) (C9 Qa) (L0 5 ws) h:=by
  obtain ⟨Q0,E0,hQ,hE,z⟩:=z
  match ws,hl with
  | [x_bag,x_sides],_=> exact B2F hQ hE x_bag x_sides h z
theorem B2L {Q:RR→AH→Prop} {E:AExc→AH→Prop} {Q':RR→AH→Prop} {E':AExc→AH→Prop} (hQ:∀r h,Q r h→Q' r h) (hE:∀x h,E x h→E' x h) (x_bag x_row:W):∀h,A2D x_bag x_row h Q E→A3T (F4 E') (C9 Q') [some (.val x_bag),some (.val x_row)] h:=by
  have hr_:=O6 hQ
  generalize C9 Q'=D0 at hr_ ⊢
  obtain ⟨nx0,rt0,bk0,ct0⟩:=D0
  have hr_:∀r s env h,Rl env r s→Q s.rr h→rt0 r env h:=hr_
  have he:=O7 hE
  unfold A2D A3T
  exact (G9 hr_ (SN.se (B1 J8 (SN.se (A7 rfl)) (SN.se (G6 (he _) (A9 (A5 (A7 rfl)) (A9 (A5 (F3 N1 (C6 (SN.se (A7 rfl)) E3))) C1)))))))
theorem B2Y (ws:List W) (h:AH) (Qa:RR→AH→Prop) (Ea:AExc→AH→Prop) (hl:ws.length=2) (z:upc L5 ws h Qa Ea):A3T (F4 Ea) (C9 Qa) (L0 2 ws) h:=by
  obtain ⟨Q0,E0,hQ,hE,z⟩:=z
  match ws,hl with
  | [x_bag,x_row],_=> exact B2L hQ hE x_bag x_row h z
theorem B16 (d:Nat) {Q:RR→AH→Prop} {E:AExc→AH→Prop} {Q':RR→AH→Prop} {E':AExc→AH→Prop} (hQ:∀r h,Q r h→Q' r h) (hE:∀x h,E x h→E' x h) (x_found x_due:W):∀h,A0f (m__law_same d) x_found x_due h Q E→A3W d (F4 E') (C9 Q') [some (.val x_found),some (.val x_due),none] h:=by
  have hr_:=O6 hQ
  generalize C9 Q'=D0 at hr_ ⊢
  obtain ⟨nx0,rt0,bk0,ct0⟩:=D0
  have hr_:∀r s env h,Rl env r s→Q s.rr h→rt0 r env h:=hr_
  have he:=O7 hE
  unfold A0f A3W
  exact (E6 (M0 (G0 (SN.se (B1 A4J (SN.se (A7 rfl)) (SN.se A6)))) (G9 hr_ (SN.se (B1 A4J (SN.se (A7 rfl)) (SN.se A6)))) (M3 (E7 (E6 (M0 (G0 (SN.se (F3 d4 (C6 (SN.se (A7 rfl)) (C6 (SN.se A6) E3))))) (G9 hr_ (SN.se (A0L (SN.se (F3 d4 (C6 (SN.se (A7 rfl)) (C6 (SN.se A6) E3)))) (B1 M4 (SN.se (A7 rfl)) (SN.se (A7 rfl)))))) (M3 (E7 (E6 (M0 (G0 (SN.se (F3 d4 (C6 (SN.se (A7 rfl)) (C6 (SN.se A6) E3))))) (G9 hr_ (SN.se (A0L (SN.se (F3 d4 (C6 (SN.se (A7 rfl)) (C6 (SN.se A6) E3)))) (A0L (SN.se (B6H (SN.se (F3 d4 (C6 (SN.se (A7 rfl)) (C6 (SN.se A6) E3)))))) (B1 M4 (SN.se (A7 rfl)) (SN.se (A7 rfl))))))) (M3 (E7 (E6 (M0 (G0 (SN.se (F3 d4 (C6 (SN.se (A7 rfl)) (C6 (SN.se A6) E3))))) (G9 hr_ (SN.se (A0L (SN.se (F3 d4 (C6 (SN.se (A7 rfl)) (C6 (SN.se A6) E3)))) (B1 M4 (SN.se (A7 rfl)) (SN.se (A7 rfl)))))) (M3 (E7 (E6 (M0 (A0M (G0 (SN.se (B1 M4 (SN.se (F3 d4 (C6 (SN.se (A7 rfl)) (C6 (SN.se A6) E3)))) (SN.se (F3 d4 (C6 (SN.se (A7 rfl)) (C6 (SN.se A6) E3))))))) (G0 (SN.se (B1 M4 (SN.se (F3 d4 (C6 (SN.se (A7 rfl)) (C6 (SN.se A6) E3)))) (SN.se (F3 d4 (C6 (SN.se (A7 rfl)) (C6 (SN.se A6) E3)))))))) (G9 hr_ (SN.se A6)) (M3 (E7 (E6 (M0 (G0 (SN.se (B1 M4 (SN.se (F3 N1 (C6 (SN.se (A7 rfl)) E3))) (SN.se (F3 N1 (C6 (SN.se (A7 rfl)) E3)))))) (G9 hr_ (SN.se A6)) (M3 (E7 (G9 hr_ (SN.se (F3 A05 (C6 (SN.se (Z1 (A2a (C6 (SN.se (F3 N1 (C6 (SN.se (A7 rfl)) E3))) E3)) (fun x_at h kk K1 K0 h1 h0 z=> by exact X4 (e1:=[some (.val x_found),some (.val x_due),some (.val x_at)]) U4 Y6 (A5 (A2Y (A9 (A5 (B1 J8 (SN.se (A7 rfl)) (SN.se (A7 rfl)))) (A9 (A5 (B1 J8 (SN.se (A7 rfl)) (SN.se (A7 rfl)))) C1)))) rfl h1 h0 z))) E3))))))))))))))))))))))))))))
theorem B11 (d:Nat) (ws:List W) (h:AH) (Qa:RR→AH→Prop) (Ea:AExc→AH→Prop) (hl:ws.length=2) (z:upc (m__law_same (d+1)) ws h Qa Ea):A3W d (F4 Ea) (C9 Qa) (L0 3 ws) h:=by
  obtain ⟨Q0,E0,hQ,hE,z⟩:=z
  match ws,hl with
  | [x_found,x_due],_=> exact B16 d hQ hE x_found x_due h z
theorem B1s {Q:RR→AH→Prop} {E:AExc→AH→Prop} {Q':RR→AH→Prop} {E':AExc→AH→Prop} (hQ:∀r h,Q r h→Q' r h) (hE:∀x h,E x h→E' x h) (x_bag x_mcasks x_most:W):∀h,A16 x_bag x_mcasks x_most h Q E→A3P (F4 E') (C9 Q') [some (.val x_bag),some (.val x_mcasks),some (.val x_most),none] h:=by
  have hr_:=O6 hQ
  generalize C9 Q'=D0 at hr_ ⊢
  obtain ⟨nx0,rt0,bk0,ct0⟩:=D0
  have hr_:∀r s env h,Rl env r s→Q s.rr h→rt0 r env h:=hr_
  have he:=O7 hE
  unfold A16 A3P
  exact (G9 hr_ (SN.se (F3 A3y (C6 (SN.se (Z1 (A2a (C6 (SN.se (B1 N7 (SN.se A6) (SN.se (G6 (he _) (A9 (A5 (A7 rfl)) (A9 (A5 (A7 rfl)) C1)))))) E3)) (fun x_mcask h kk K1 K0 h1 h0 z=> by exact X4 (e1:=[some (.val x_bag),some (.val x_mcasks),some (.val x_most),some (.val x_mcask)]) U4 Y6 (A5 (B1 N7 (SN.se A6) (SN.se (A2Y (A9 (A5 (A7 rfl)) (A9 (A5 (A7 rfl)) C1)))))) rfl h1 h0 z))) E3))))
theorem B1z (ws:List W) (h:AH) (Qa:RR→AH→Prop) (Ea:AExc→AH→Prop) (hl:ws.length=3) (z:upc A0h ws h Qa Ea):A3P (F4 Ea) (C9 Qa) (L0 4 ws) h:=by
  obtain ⟨Q0,E0,hQ,hE,z⟩:=z
  match ws,hl with
  | [x_bag,x_mcasks,x_most],_=> exact B1s hQ hE x_bag x_mcasks x_most h z
theorem B1L {Q:RR→AH→Prop} {E:AExc→AH→Prop} {Q':RR→AH→Prop} {E':AExc→AH→Prop} (hQ:∀r h,Q r h→Q' r h) (hE:∀x h,E x h→E' x h) (x_bag:W):∀h,A1t x_bag h Q E→A3E (F4 E') (C9 Q') [some (.val x_bag)] h:=by
  have hr_:=O6 hQ
  generalize C9 Q'=D0 at hr_ ⊢
  obtain ⟨nx0,rt0,bk0,ct0⟩:=D0
  have hr_:∀r s env h,Rl env r s→Q s.rr h→rt0 r env h:=hr_
  have he:=O7 hE
  unfold A1t A3E
  exact (G9 hr_ (SN.se (G6 (he _) (A9 (A5 (A7 rfl)) (A9 (A5 A6) (A9 (A5 (G6 (he _) (A9 (A5 (A7 rfl)) (A9 (A5 (W4 (A9 (A5 A6) (A9 (A5 A6) (A9 (A5 A6) (A9 (A5 A6) C1)))))) C1)))) C1))))))
theorem B1M (ws:List W) (h:AH) (Qa:RR→AH→Prop) (Ea:AExc→AH→Prop) (hl:ws.length=1) (z:upc A0Z ws h Qa Ea):A3E (F4 Ea) (C9 Qa) (L0 1 ws) h:=by
  obtain ⟨Q0,E0,hQ,hE,z⟩:=z
  match ws,hl with
  | [x_bag],_=> exact B1L hQ hE x_bag h z
theorem B1h {Q:RR→AH→Prop} {E:AExc→AH→Prop} {Q':RR→AH→Prop} {E':AExc→AH→Prop} (hQ:∀r h,Q r h→Q' r h) (hE:∀x h,E x h→E' x h) (x_bag:W):∀h,A12 x_bag h Q E→A3L (F4 E') (C9 Q') [some (.val x_bag),none] h:=by
  have hr_:=O6 hQ
  generalize C9 Q'=D0 at hr_ ⊢
  obtain ⟨nx0,rt0,bk0,ct0⟩:=D0
  have hr_:∀r s env h,Rl env r s→Q s.rr h→rt0 r env h:=hr_
  have he:=O7 hE
  unfold A12 A3L
  exact (E6 (N9 (fun x_some=> [some (.val x_bag),some (.val x_some)]) (fun _=> rfl) (A5 (W4 (A9 (A5 A6) (A9 (A5 A6) (A9 (A5 A6) (A9 (A5 A6) (A9 (A5 (B1 N7 (SN.se A6) (SN.se (G6 (he _) (A9 (A5 (A7 rfl)) (A9 (A5 A6) C1)))))) (A9 (A5 (G6 (he _) (A9 (A5 (A7 rfl)) (A9 (A5 A6) C1)))) (A9 (A5 (B1 A9g (SN.se (B1 A5f (SN.se A6) (SN.se A6))) (SN.se A6))) (A9 (A5 (G6 (he _) (A9 (A5 (A7 rfl)) (A9 (A5 (B1 A5f (SN.se A6) (SN.se A6))) C1)))) C1)))))))))) (fun x_some=> (E7 (G9 hr_ (SN.se (G6 (he _) (A9 (A5 (A7 rfl)) (A9 (A5 (A7 rfl)) C1)))))))))
theorem B1d (ws:List W) (h:AH) (Qa:RR→AH→Prop) (Ea:AExc→AH→Prop) (hl:ws.length=1) (z:upc u4 ws h Qa Ea):A3L (F4 Ea) (C9 Qa) (L0 2 ws) h:=by
  obtain ⟨Q0,E0,hQ,hE,z⟩:=z
  match ws,hl with
  | [x_bag],_=> exact B1h hQ hE x_bag h z
theorem A5u {Q:RR→AH→Prop} {E:AExc→AH→Prop} {envOf:SV→A1} {vs:List Nat} {g:H8} {tb:G3} {tv:B9} {body:W→SV→(SV→Option W→MC)→MC} {k:SV→List W→MC} {K:List W→A1→AH→Prop} (hk:∀s acc h',k s acc h' Q E→K acc (envOf s) h')
    (b:∀w s h (kk:SV→Option W→MC) (K1:W→A1→AH→Prop) (K0:A1→AH→Prop),(∀s y h',kk s (some y) h' Q E→K1 y (envOf s) h')→(∀s h',kk s none h' Q E→K0 (envOf s) h')→body w s kk h Q E→
      g w (T1 (envOf s) vs) h fun e1 h1=> tb e1 h1 fun b e2 h2=> if b=true then tv e2 h2 fun y e3 h3=> K1 y (mend (envOf s) e3 vs) h3 else K0 (mend (envOf s) e2 vs) h2):
    ∀(ws:List W) (s:SV) (acc:List W) (h:AH),A21 body k ws s acc h Q E→lcLoop vs g tb tv K ws acc (envOf s) h
  | [],s,acc,h,z=> hk s acc h z
  | w::ws,s,acc,h,z=> b w s h _ (fun y e3 h3=> acc.length < sizeLine∧lcLoop vs g tb tv K ws (acc++[y]) e3 h3) (fun e2 h2=> lcLoop vs g tb tv K ws acc e2 h2)
      (fun s y h' z=> ⟨z.1,A5u hk b ws s (acc++[y]) h' z.2⟩) (fun s h' z=> A5u hk b ws s acc h' z) z
theorem B1P {Q:RR→AH→Prop} {E:AExc→AH→Prop} {Q':RR→AH→Prop} {E':AExc→AH→Prop} (hQ:∀r h,Q r h→Q' r h) (hE:∀x h,E x h→E' x h) (x_bag x_row:W):∀h,A1w x_bag x_row h Q E→A3G (F4 E') (C9 Q') [some (.val x_bag),some (.val x_row),none,none] h:=by
  have hr_:=O6 hQ
  have he:=O7 hE
  unfold A1w A3G
  refine E6 (A33 (fun x=> [some (.val x_bag),some (.val x_row),some x,none]) (fun _=> rfl) (F3 A9B (C6 (SN.se (A7 rfl)) E3)) fun x_left=> E7 (B4t fun h z=> ?_))
  refine A0q (env:=[some (.val x_bag),some (.val x_row),some x_left,none]) (A5 (A7 (i:=1) rfl)) h _ _ (fun ws h1 z=> ?_) z
  refine A5u (envOf:=fun s=> [some (.val x_bag),some (.val x_row),some s,none]) (fun s acc h' z=> hr_ (.own (.seq acc)) (.own (.seq acc)) _ _ rfl z) (fun v s h kk K1 K0 h1 h0 z=> ?_) ws x_left [] h1 z
  refine U4 (i:=3) (env:=[some (.val x_bag),some (.val x_row),some s,none]) h _ ?_
  refine B55 ?_
  exact A9n (i:=2) (env:=[some (.val x_bag),some (.val x_row),some s,some (.val v)]) (K:=fun r env' h'=> match r with
    | .val w=> K1 w (mend [some (.val x_bag),some (.val x_row),some s,none] env' [3]) h'
    | .own c=> K1 c.fz (mend [some (.val x_bag),some (.val x_row),some s,none] env' [3]) h'
    | .slot i=> match env'[i]? with
      | some (some (.val w))=> K1 w (mend [some (.val x_bag),some (.val x_row),some s,none] env' [3]) h'
      | some (some (.own c))=> K1 c.fz (mend [some (.val x_bag),some (.val x_row),some s,none] (env'.set i (some (.val c.fz))) [3]) h'
      | _=> False) A8B rfl (A9 (A5 (A2Y (A9 (A5 (A7 rfl)) (A9 (A5 (F3 N1 (C6 (Q6 rfl) E3))) C1)))) C1) (fun x' w h z=> h1 x' w h z) h z
theorem B1Q (ws:List W) (h:AH) (Qa:RR→AH→Prop) (Ea:AExc→AH→Prop) (hl:ws.length=2) (z:upc A0a ws h Qa Ea):A3G (F4 Ea) (C9 Qa) (L0 4 ws) h:=by
  obtain ⟨Q0,E0,hQ,hE,z⟩:=z
  match ws,hl with
  | [x_bag,x_row],_=> exact B1P hQ hE x_bag x_row h z
theorem B1H {Q:RR→AH→Prop} {E:AExc→AH→Prop} {Q':RR→AH→Prop} {E':AExc→AH→Prop} (hQ:∀r h,Q r h→Q' r h) (hE:∀x h,E x h→E' x h) (x_bag x_mcasks x_mmany:W):∀h,A1q x_bag x_mcasks x_mmany h Q E→A3D (F4 E') (C9 Q') [some (.val x_bag),some (.val x_mcasks),some (.val x_mmany)] h:=by
  have hr_:=O6 hQ
  generalize C9 Q'=D0 at hr_ ⊢
  obtain ⟨nx0,rt0,bk0,ct0⟩:=D0
  have hr_:∀r s env h,Rl env r s→Q s.rr h→rt0 r env h:=hr_
  have he:=O7 hE
  unfold A1q A3D
  exact (G9 hr_ (SN.se (F3 A3y (C6 (SN.se (w7 (SN.se (G6 (he _) (A9 (A5 (A7 rfl)) (A9 (A5 (B4r (SN.se (A7 rfl)))) C1)))) w8 (u8 (SN.se (A7 rfl))))) E3))))
theorem B1E (ws:List W) (h:AH) (Qa:RR→AH→Prop) (Ea:AExc→AH→Prop) (hl:ws.length=3) (z:upc i5 ws h Qa Ea):A3D (F4 Ea) (C9 Qa) (L0 3 ws) h:=by
  obtain ⟨Q0,E0,hQ,hE,z⟩:=z
  match ws,hl with
  | [x_bag,x_mcasks,x_mmany],_=> exact B1H hQ hE x_bag x_mcasks x_mmany h z
theorem B1i {Q:RR→AH→Prop} {E:AExc→AH→Prop} {Q':RR→AH→Prop} {E':AExc→AH→Prop} (hQ:∀r h,Q r h→Q' r h) (hE:∀x h,E x h→E' x h) (x_msizes:W):∀h,A15 x_msizes h Q E→A3Q (F4 E') (C9 Q') [some (.val x_msizes),none,none,none,none] h:=by
  have hr_:=O6 hQ
  generalize C9 Q'=D0 at hr_ ⊢
  obtain ⟨nx0,rt0,bk0,ct0⟩:=D0
  have hr_:∀r s env h,Rl env r s→Q s.rr h→rt0 r env h:=hr_
  have he:=O7 hE
  unfold A15 A3Q
  exact (E6 (A33 (fun x_found=> [some (.val x_msizes),some x_found,none,none,none]) (fun _=> rfl) (W4 C1) (fun x_found=> (E7 (E6 (A9L (fun (s7:SV) (j8:Option SV×Option SV)=> [some (.val x_msizes),some s7,j8.1,j8.2,none]) x_found (none,none) rfl (A2a (C6 (SN.se (F3 N1 (C6 (SN.se (A7 rfl)) E3))) E3)) (fun s7 j8=> (E7 (G9 hr_ (Q6 rfl)))) (fun R12 x_mone s7 j8 kn9 _ N11 h z=> by refine A9O [some (.val x_msizes),some s7,some (.val x_mone),j8.2,none] U4 rfl h _ ?_;exact B0J h z (E6 (B4L (fun x_near=> [some (.val x_msizes),some s7,some (.val x_mone),some x_near,none]) (fun _=> rfl) (A2a (C6 (SN.se (F3 N1 (C6 (SN.se (A7 rfl)) E3))) E3)) (fun x_at h kk K1 K0 h1 h0 z=> by exact X4 (e1:=[some (.val x_msizes),some s7,some (.val x_mone),j8.2,some (.val x_at)]) U4 (A31 (G0 (SN.se (B1 M4 (SN.se (A7 rfl)) (SN.se (A7 rfl))))) (G0 (SN.se (B1 M4 (SN.se (B1 J8 (SN.se (A7 rfl)) (SN.se (A7 rfl)))) (SN.se (B1 J8 (SN.se (A7 rfl)) (SN.se (A7 rfl)))))))) (A5 (A7 rfl)) rfl h1 h0 z) (fun x_near=> (E7 (A9U [some (.val x_msizes),some s7,some (.val x_mone),some (.val (SV.fz x_near)),none] rfl rfl (B5X (fun x_found=> [some (.val x_msizes),some x_found,some (.val x_mone),some (.val (SV.fz x_near)),none]) (fun _=> rfl) rfl (SN.se (Z1 (A0q (A5 (A7 rfl))) (fun x_at h kk K1 K0 h1 h0 z=> by exact X4 (e1:=[some (.val x_msizes),some s7,some (.val x_mone),some (.val (SV.fz x_near)),some (.val x_at)]) U4 Y6 (A5 (r4 (A9 (A5 (A7 rfl)) (A9 (A5 (A7 rfl)) C1)))) rfl h1 h0 z))) (fun x_found=> (fun h z=> N11 x_found (some (.val x_mone),some (.val (SV.fz x_near))) h z)))))))))))))))
theorem B1q (ws:List W) (h:AH) (Qa:RR→AH→Prop) (Ea:AExc→AH→Prop) (hl:ws.length=1) (z:upc A0g ws h Qa Ea):A3Q (F4 Ea) (C9 Qa) (L0 5 ws) h:=by
  obtain ⟨Q0,E0,hQ,hE,z⟩:=z
  match ws,hl with
  | [x_msizes],_=> exact B1i hQ hE x_msizes h z
theorem B2I {Q:RR→AH→Prop} {E:AExc→AH→Prop} {Q':RR→AH→Prop} {E':AExc→AH→Prop} (hQ:∀r h,Q r h→Q' r h) (hE:∀x h,E x h→E' x h) (x_bag x_msizes x_number_here x_taps:W):∀h,A19 x_bag x_msizes x_number_here x_taps h Q E→A3S (F4 E') (C9 Q') [some (.val x_bag),some (.val x_msizes),some (.val x_number_here),some (.val x_taps),none,none,none,none] h:=by
  have hr_:=O6 hQ
  generalize C9 Q'=D0 at hr_ ⊢
  obtain ⟨nx0,rt0,bk0,ct0⟩:=D0
  have hr_:∀r s env h,Rl env r s→Q s.rr h→rt0 r env h:=hr_
  have he:=O7 hE
  unfold A19 A3S
  exact (E6 (N9 (fun x_how=> [some (.val x_bag),some (.val x_msizes),some (.val x_number_here),some (.val x_taps),some (.val x_how),none,none,none]) (fun _=> rfl) (A5 (G6 (he _) (A9 (A5 (A7 rfl)) (A9 (A5 A6) C1)))) (fun x_how=> (E7 (E6 (N9 (fun x_pairs=> [some (.val x_bag),some (.val x_msizes),some (.val x_number_here),some (.val x_taps),some (.val x_how),some (.val x_pairs),none,none]) (fun _=> rfl) (A5 (G6 (he _) (A9 (A5 (A7 rfl)) C1))) (fun x_pairs=> (E7 (E6 (M0 (A31 (G0 (SN.se (B1 M4 (SN.se (A7 rfl)) (SN.se A6)))) (G0 (SN.se (B1 M4 (SN.se (A7 rfl)) (SN.se (W4 C1)))))) (G9 hr_ (SN.se (B1 N7 (SN.se (r4 (A9 (A5 A6) C1))) (SN.se (G6 (he _) (A9 (A5 (A7 rfl)) (A9 (A5 (A7 rfl)) C1))))))) (M3 (E7 (E6 (M0 (A31 (G0 (SN.se (B1 A6F (SN.se (A7 rfl)) (SN.se A6)))) (G0 (SN.se (A7 rfl)))) (G9 hr_ (SN.se (r4 (A9 (A5 A6) (A9 (A5 (G6 (he _) (A9 (A5 (A7 rfl)) (A9 (A5 (W4 (A9 (A5 A6) (A9 (A5 A6) (A9 (A5 A6) (A9 (A5 A6) (A9 (A5 (A7 rfl)) C1))))))) C1)))) (A9 (A5 (G6 (he _) (A9 (A5 (A7 rfl)) (A9 (A5 (F3 N1 (C6 (SN.se (A7 rfl)) E3))) C1)))) C1)))))) (M3 (E7 (E6 (M0 (A0M (G0 (SN.se (B1 M4 (SN.se (A7 rfl)) (SN.se A6)))) (G0 (SN.se (B1 M4 (SN.se (F3 N1 (C6 (SN.se (A7 rfl)) E3))) (SN.se A6))))) (G9 hr_ (SN.se (r4 (A9 (A5 A6) (A9 (A5 (A7 rfl)) (A9 (A5 (G6 (he _) (A9 (A5 (A7 rfl)) (A9 (A5 (F3 N1 (C6 (SN.se (A7 rfl)) E3))) C1)))) C1)))))) (M3 (E7 (E6 (N9 (fun x_mmany=> [some (.val x_bag),some (.val x_msizes),some (.val x_number_here),some (.val x_taps),some (.val x_how),some (.val x_pairs),some (.val x_mmany),none]) (fun _=> rfl) (A5 (B1 N7 (SN.se A6) (SN.se (G6 (he _) (A9 (A5 (A7 rfl)) (A9 (A5 (B1 A9g (SN.se (F3 N1 (C6 (SN.se (A7 rfl)) E3))) (SN.se A6))) C1)))))) (fun x_mmany=> (E7 (E6 (N9 (fun x_word=> [some (.val x_bag),some (.val x_msizes),some (.val x_number_here),some (.val x_taps),some (.val x_how),some (.val x_pairs),some (.val x_mmany),some (.val x_word)]) (fun _=> rfl) (A5 (B1 J8 (SN.se (W4 (A9 (A5 A6) (A9 (A5 A6) C1)))) (SN.se (B1 A5T (SN.se (G6 (he _) (A9 (A5 (A7 rfl)) (A9 (A5 A6) C1)))) (SN.se A6))))) (fun x_word=> (E7 (G9 hr_ (SN.se (B1 N7 (SN.se (r4 (A9 (A5 (A7 rfl)) (A9 (A5 (A7 rfl)) C1)))) (SN.se (G6 (he _) (A9 (A5 (A7 rfl)) (A9 (A5 (F3 N1 (C6 (SN.se (A7 rfl)) E3))) (A9 (A5 (A7 rfl)) C1))))))))))))))))))))))))))))))))))))
theorem B2P (ws:List W) (h:AH) (Qa:RR→AH→Prop) (Ea:AExc→AH→Prop) (hl:ws.length=4) (z:upc A0j ws h Qa Ea):A3S (F4 Ea) (C9 Qa) (L0 8 ws) h:=by
  obtain ⟨Q0,E0,hQ,hE,z⟩:=z
  match ws,hl with
  | [x_bag,x_msizes,x_number_here,x_taps],_=> exact B2I hQ hE x_bag x_msizes x_number_here x_taps h z
theorem B09 {Q:RR→AH→Prop} {E:AExc→AH→Prop} {Q':RR→AH→Prop} {E':AExc→AH→Prop} (hQ:∀r h,Q r h→Q' r h) (hE:∀x h,E x h→E' x h) (x_word:W):∀h,A1r x_word h Q E→A3C (F4 E') (C9 Q') [some (.val x_word),none] h:=by
  have hr_:=O6 hQ
  generalize C9 Q'=D0 at hr_ ⊢
  obtain ⟨nx0,rt0,bk0,ct0⟩:=D0
  have hr_:∀r s env h,Rl env r s→Q s.rr h→rt0 r env h:=hr_
  have he:=O7 hE
  unfold A1r A3C
  exact (E6 (M0 (A0M (d5 (G0 (SN.se (A1U (SN.se A6) (SN.se (F3 N1 (C6 (SN.se (A7 rfl)) E3))) (SN.se A6))))) (d5 (G0 (SN.se (F3 A05 (C6 (SN.se (Z1 (A3i (SN.se (A7 rfl))) (fun x_sign h kk K1 K0 h1 h0 z=> by exact X4 (e1:=[some (.val x_word),some (.val x_sign)]) U4 Y6 (A5 (B1 A4D (SN.se (A7 rfl)) (SN.se A6))) rfl h1 h0 z))) E3)))))) (G9 hr_ (SN.se A6)) (M3 (E7 (G9 hr_ (SN.se (B0L (SN.se (B1 M4 (SN.se (A7 rfl)) (SN.se A6))) (B1 M4 (SN.se (B1 J8 (SN.se (A7 rfl)) (SN.se A6))) (SN.se A6)))))))))
theorem B1D (ws:List W) (h:AH) (Qa:RR→AH→Prop) (Ea:AExc→AH→Prop) (hl:ws.length=1) (z:upc a9 ws h Qa Ea):A3C (F4 Ea) (C9 Qa) (L0 2 ws) h:=by
  obtain ⟨Q0,E0,hQ,hE,z⟩:=z
  match ws,hl with
  | [x_word],_=> exact B09 hQ hE x_word h z
theorem B1Z {Q:RR→AH→Prop} {E:AExc→AH→Prop} {Q':RR→AH→Prop} {E':AExc→AH→Prop} (hQ:∀r h,Q r h→Q' r h) (hE:∀x h,E x h→E' x h) (x_word:W):∀h,A1y x_word h Q E→A3J (F4 E') (C9 Q') [some (.val x_word),none] h:=by
  have hr_:=O6 hQ
  generalize C9 Q'=D0 at hr_ ⊢
  obtain ⟨nx0,rt0,bk0,ct0⟩:=D0
  have hr_:∀r s env h,Rl env r s→Q s.rr h→rt0 r env h:=hr_
  have he:=O7 hE
  unfold A1y A3J
  exact (G9 hr_ (SN.se (A0L (SN.se (A1U (SN.se A6) (SN.se (F3 N1 (C6 (SN.se (A7 rfl)) E3))) (SN.se A6))) (F3 A05 (C6 (SN.se (Z1 (A3i (SN.se (A7 rfl))) (fun x_sign h kk K1 K0 h1 h0 z=> by exact X4 (e1:=[some (.val x_word),some (.val x_sign)]) U4 Y6 (A5 (B1 A4D (SN.se (A7 rfl)) (SN.se A6))) rfl h1 h0 z))) E3)))))
theorem B1X (ws:List W) (h:AH) (Qa:RR→AH→Prop) (Ea:AExc→AH→Prop) (hl:ws.length=1) (z:upc A0b ws h Qa Ea):A3J (F4 Ea) (C9 Qa) (L0 2 ws) h:=by
  obtain ⟨Q0,E0,hQ,hE,z⟩:=z
  match ws,hl with
  | [x_word],_=> exact B1Z hQ hE x_word h z
theorem B2M {Q:RR→AH→Prop} {E:AExc→AH→Prop} {Q':RR→AH→Prop} {E':AExc→AH→Prop} (hQ:∀r h,Q r h→Q' r h) (hE:∀x h,E x h→E' x h) (x_mtext:W):∀h,A2B x_mtext h Q E→A3U (F4 E') (C9 Q') [some (.val x_mtext),none,none,none,none] h:=by
  have hr_:=O6 hQ
  generalize C9 Q'=D0 at hr_ ⊢
  obtain ⟨nx0,rt0,bk0,ct0⟩:=D0
  have hr_:∀r s env h,Rl env r s→Q s.rr h→rt0 r env h:=hr_
  have he:=O7 hE
  unfold A2B A3U
  exact (E6 (N9 (fun x_words=> [some (.val x_mtext),some (.val x_words),none,none,none]) (fun _=> rfl) (A5 (A6G A5J (SN.se (A7 rfl)) (SN.se A6))) (fun x_words=> (E7 (E6 (M0 (G0 (SN.se (B1 M4 (SN.se (B1 J8 (SN.se (A7 rfl)) (SN.se A6))) (SN.se A6)))) (E6 (N9 (fun x_good=> [some (.val x_mtext),some (.val x_words),some (.val x_good),none,none]) (fun _=> rfl) (A5 (A0L (SN.se (B1 M4 (SN.se (F3 N1 (C6 (SN.se (A7 rfl)) E3))) (SN.se A6))) (A0L (SN.se (G6 (he _) (A9 (A5 (B1 J8 (SN.se (A7 rfl)) (SN.se A6))) C1))) (G6 (he _) (A9 (A5 (B1 J8 (SN.se (A7 rfl)) (SN.se A6))) C1))))) (fun x_good=> (E7 (G9 hr_ (SN.se (A58 (G0 (SN.se (A7 rfl))) (r4 (A9 (A5 A6) (A9 (A5 (B1 J8 (SN.se (A7 rfl)) (SN.se A6))) (A9 (A5 (F3 A3z (C6 (SN.se (B1 J8 (SN.se (A7 rfl)) (SN.se A6))) E3))) C1)))) A6))))))) (M3 (E7 (E6 (N9 (fun x_most=> [some (.val x_mtext),some (.val x_words),none,some (.val x_most),none]) (fun _=> rfl) (A5 (B3s (SN.se (B4X (A9 (A5 A6) (A9 (A5 A6) (A9 (A5 A6) (A9 (A5 A6) (A9 (A5 A6) (A9 (A5 A6) (A9 (A5 A6) (A9 (A5 A6) (A9 (A5 A6) (A9 (A5 A6) C1)))))))))))) (A5 (B1 J8 (SN.se (A7 rfl)) (SN.se A6))) (A5 A6))) (fun x_most=> (E7 (E6 (M0 (A0M (d5 (G0 (SN.se (A1U (SN.se (A58 (G0 (SN.se (B1 M4 (SN.se (A7 rfl)) (SN.se A6)))) A6 A6)) (SN.se (F3 N1 (C6 (SN.se (A7 rfl)) E3))) (SN.se (A7 rfl)))))) (d5 (G0 (SN.se (F3 A05 (C6 (SN.se (Z1 (A0q (A5 (w7 (SN.se (A7 rfl)) (u8 (SN.se A6)) w8))) (fun x_word h kk K1 K0 h1 h0 z=> by exact X4 (e1:=[some (.val x_mtext),some (.val x_words),none,some (.val x_most),some (.val x_word)]) U4 Y6 (A5 (A2Y (A9 (A5 (A7 rfl)) C1))) rfl h1 h0 z))) E3)))))) (G9 hr_ (SN.se A6)) (M3 (E7 (G9 hr_ (SN.se (F3 A3y (C6 (SN.se (B1 N7 (SN.se (w7 (SN.se (A7 rfl)) w8 (u8 (SN.se A6)))) (SN.se (Z1 (A0q (A5 (w7 (SN.se (A7 rfl)) (u8 (SN.se A6)) w8))) (fun x_word h kk K1 K0 h1 h0 z=> by exact X4 (e1:=[some (.val x_mtext),some (.val x_words),none,some (.val x_most),some (.val x_word)]) U4 Y6 (A5 (F3 A3z (C6 (SN.se (A7 rfl)) E3))) rfl h1 h0 z))))) E3))))))))))))))))))))
theorem B19 (ws:List W) (h:AH) (Qa:RR→AH→Prop) (Ea:AExc→AH→Prop) (hl:ws.length=1) (z:upc A0l ws h Qa Ea):A3U (F4 Ea) (C9 Qa) (L0 5 ws) h:=by
  obtain ⟨Q0,E0,hQ,hE,z⟩:=z
  match ws,hl with
  | [x_mtext],_=> exact B2M hQ hE x_mtext h z
theorem B1T {Q:RR→AH→Prop} {E:AExc→AH→Prop} {Q':RR→AH→Prop} {E':AExc→AH→Prop} (hQ:∀r h,Q r h→Q' r h) (hE:∀x h,E x h→E' x h) (x_bag x_mtext:W):∀h,A1z x_bag x_mtext h Q E→A3H (F4 E') (C9 Q') [some (.val x_bag),some (.val x_mtext),none,none,none,none,none,none] h:=by
  have hr_:=O6 hQ
  generalize C9 Q'=D0 at hr_ ⊢
  obtain ⟨nx0,rt0,bk0,ct0⟩:=D0
  have hr_:∀r s env h,Rl env r s→Q s.rr h→rt0 r env h:=hr_
  have he:=O7 hE
  unfold A1z A3H
  exact (E6 (A33 (fun x_words=> [some (.val x_bag),some (.val x_mtext),some x_words,none,none,none,none,none]) (fun _=> rfl) (A6G A5J (SN.se (A7 rfl)) (SN.se A6)) (fun x_words=> (E7 (E6 (B5z (fun x_at x_to=> [some (.val x_bag),some (.val x_mtext),some x_words,some (.val x_at),some (.val x_to),none,none,none]) (fun _ _=> rfl) (A9 (A5 (G6 (he _) (A9 (A5 (A7 rfl)) (A9 (A5 (F3 N1 (C6 (Q6 rfl) E3))) C1)))) (A9 (A5 (G6 (he _) (A9 (A5 (A7 rfl)) (A9 (A5 (F3 N1 (C6 (Q6 rfl) E3))) C1)))) C1)) (fun x_at x_to=> (E7 (E6 (N9 (fun x_spot=> [some (.val x_bag),some (.val x_mtext),some x_words,some (.val x_at),some (.val x_to),some (.val x_spot),none,none]) (fun _=> rfl) (A5 (G6 (he _) (A9 (A5 (A7 rfl)) (A9 (A5 (B1 N7 (SN.se (F3 N1 (C6 (SN.se (A7 rfl)) E3))) (SN.se A6))) C1)))) (fun x_spot=> (E7 (E6 (N9 (fun x_how=> [some (.val x_bag),some (.val x_mtext),some x_words,some (.val x_at),some (.val x_to),some (.val x_spot),some (.val x_how),none]) (fun _=> rfl) (A5 (G6 (he _) (A9 (A5 (A7 rfl)) (A9 (A5 A6) C1)))) (fun x_how=> (E7 (E6 (M0 (G0 (SN.se (B1 M4 (SN.se (A7 rfl)) (SN.se A6)))) (G9 hr_ (SN.se (B1 N7 (SN.se (B1 N7 (SN.se (w7 (SN.se (A7 rfl)) w8 (u8 (SN.se (A7 rfl))))) (SN.se (G6 (he _) (A9 (A5 (A7 rfl)) (A9 (A5 (W4 (A9 (A5 A6) (A9 (A5 A6) (A9 (A5 A6) (A9 (A5 A6) (A9 (A5 A6) (A9 (A5 A6) C1)))))))) C1)))))) (SN.se (w7 (SN.se (A7 rfl)) (u8 (SN.se (A7 rfl))) w8))))) (M3 (E7 (E6 (M0 (G0 (SN.se (B1 M4 (SN.se (A7 rfl)) (SN.se A6)))) (G9 hr_ (SN.se (B1 N7 (SN.se (w7 (SN.se (A7 rfl)) w8 (u8 (SN.se (A7 rfl))))) (SN.se (w7 (SN.se (A7 rfl)) (u8 (SN.se (B1 N7 (SN.se (A7 rfl)) (SN.se A6)))) w8))))) (M3 (E7 (A0s (fun (s35:SV) (j36:Unit)=> [some (.val x_bag),some (.val x_mtext),some s35,some (.val x_at),some (.val x_to),some (.val x_spot),some (.val x_how),none]) (fun s35 j36=> (A0s (fun (s37:SV) (j38:Option SV)=> [some (.val x_bag),some (.val x_mtext),some s37,some (.val x_at),some (.val x_to),some (.val x_spot),some (.val x_how),j38]) (fun s37 j38=> (A0s (fun (s39:SV) (j40:Unit)=> [some (.val x_bag),some (.val x_mtext),some s39,some (.val x_at),some (.val x_to),some (.val x_spot),some (.val x_how),j38]) (fun s39 j40=> (A0s (fun (s41:SV) (j42:Unit)=> [some (.val x_bag),some (.val x_mtext),some s41,some (.val x_at),some (.val x_to),some (.val x_spot),some (.val x_how),j38]) (fun s41 j42=> (G9 hr_ (SN.se (A8n (SN.se A6) (Q6 rfl))))) (fun N44=> (M0 (G0 (SN.se (B1 M4 (SN.se (A7 rfl)) (SN.se A6)))) (u6 (fun x_words=> [some (.val x_bag),some (.val x_mtext),some x_words,some (.val x_at),some (.val x_to),some (.val x_spot),some (.val x_how),j38]) (fun _=> rfl) (A5 (G6 (he _) (A9 (A5 (A7 rfl)) (A9 (A5 (W4 (A9 (A5 A6) (A9 (A5 A6) (A9 (A5 A6) (A9 (A5 A6) (A9 (A5 (B1 A5S (SN.se A6) (SN.se A6))) (A9 (A5 A6) (A9 (A5 A6) (A9 (A5 A6) C1)))))))))) C1)))) rfl (SN.se (A7 rfl)) (fun x_words=> (fun h z=> N44 x_words () h z))) (M3 (fun h z=> N44 s39 () h z)))))) (fun N46=> (M0 (G0 (SN.se (B1 M4 (SN.se (A7 rfl)) (SN.se A6)))) (B0D (fun x_words=> [some (.val x_bag),some (.val x_mtext),some x_words,some (.val x_at),some (.val x_to),some (.val x_spot),some (.val x_how),j38]) (fun _=> rfl) A8B rfl (A9 (A5 (A7 rfl)) C1) (fun x_words _=> (fun h z=> N46 x_words () h z))) (M3 (fun h z=> N46 s37 () h z)))))) (fun N48=> (M0 (G0 (SN.se (B1 M4 (SN.se (A7 rfl)) (SN.se A6)))) (E6 (N9 (fun x_odd=> [some (.val x_bag),some (.val x_mtext),some s35,some (.val x_at),some (.val x_to),some (.val x_spot),some (.val x_how),some (.val x_odd)]) (fun _=> rfl) (A5 (W4 (A9 (A5 A6) (A9 (A5 A6) (A9 (A5 A6) (A9 (A5 A6) (A9 (A5 (B1 A5S (SN.se A6) (SN.se A6))) (A9 (A5 (B1 N7 (SN.se A6) (SN.se (B1 A5S (SN.se A6) (SN.se A6))))) (A9 (A5 A6) (A9 (A5 A6) (A9 (A5 A6) C1))))))))))) (fun x_odd=> (E7 (B0D (fun x_words=> [some (.val x_bag),some (.val x_mtext),some x_words,some (.val x_at),some (.val x_to),some (.val x_spot),some (.val x_how),some (.val x_odd)]) (fun _=> rfl) B2e rfl (A9 (A5 (A7 rfl)) (A9 (A5 (G6 (he _) (A9 (A5 (A7 rfl)) (A9 (A5 (A7 rfl)) C1)))) C1)) (fun x_words _=> (fun h z=> N48 x_words (some (.val x_odd)) h z))))))) (M3 (fun h z=> N48 s35 (none) h z)))))) (fun N50=> (M0 (G0 (SN.se (B1 M4 (SN.se (A7 rfl)) (SN.se A6)))) (B3C (fun x_words=> [some (.val x_bag),some (.val x_mtext),some x_words,some (.val x_at),some (.val x_to),some (.val x_spot),some (.val x_how),none]) (fun _=> rfl) (A5 (r4 (A9 (A5 (B1 J8 (Q6 rfl) (SN.se (A7 rfl)))) (A9 (A5 (B1 J8 (Q6 rfl) (SN.se (A7 rfl)))) C1)))) rfl (SN.se (A7 rfl)) (fun y51=> (SN.se (A7 rfl))) (fun x_words=> (fun h z=> N50 x_words () h z))) (M3 (fun h z=> N50 x_words () h z)))))))))))))))))))))))))))))
theorem B1Y (ws:List W) (h:AH) (Qa:RR→AH→Prop) (Ea:AExc→AH→Prop) (hl:ws.length=2) (z:upc A0d ws h Qa Ea):A3H (F4 Ea) (C9 Qa) (L0 8 ws) h:=by
  obtain ⟨Q0,E0,hQ,hE,z⟩:=z
  match ws,hl with
  | [x_bag,x_mtext],_=> exact B1T hQ hE x_bag x_mtext h z
theorem B7Q {Q:RR→AH→Prop} {E:AExc→AH→Prop} {Q':RR→AH→Prop} {E':AExc→AH→Prop} (hQ:∀r h,Q r h→Q' r h) (hE:∀x h,E x h→E' x h) (x_script:W):∀h,A2j x_script h Q E→A4T (F4 E') (C9 Q') [some (.val x_script),none,none,none,none,none,none,none,none,none,none] h:=by
  have hr_:=O6 hQ
  generalize C9 Q'=D0 at hr_ ⊢
  obtain ⟨nx0,rt0,bk0,ct0⟩:=D0
  have hr_:∀r s env h,Rl env r s→Q s.rr h→rt0 r env h:=hr_
  have he:=O7 hE
  unfold A2j A4T
  exact (E6 (A33 (fun x_bag=> [some (.val x_script),some x_bag,none,none,none,none,none,none,none,none,none]) (fun _=> rfl) (G6 (he _) (A9 (A5 (A7 rfl)) C1)) (fun x_bag=> (E7 (E6 (B5T (fun x_bag=> [some (.val x_script),some (.val x_bag),none,none,none,none,none,none,none,none,none]) (fun _=> rfl) rfl (fun x_bag=> (A9L (fun (s83:Unit) (j84:Option W×Option W×Option W×Option W×Option W×Option W×Option W×Option W)=> [some (.val x_script),some (.val x_bag),(Option.map SV.val j84.1),(Option.map SV.val j84.2.1),(Option.map SV.val j84.2.2.1),(Option.map SV.val j84.2.2.2.1),none,(Option.map SV.val j84.2.2.2.2.1),(Option.map SV.val j84.2.2.2.2.2.1),(Option.map SV.val j84.2.2.2.2.2.2.1),(Option.map SV.val j84.2.2.2.2.2.2.2)]) () (none,none,none,none,none,none,none,none) rfl (A2a (C6 (SN.se A6) E3)) (fun s83 j84=> (E7 (G9 hr_ (SN.se A6)))) (fun R88 x_turn s83 j84 kn85 _ N87 h z=> by refine A9O [some (.val x_script),some (.val x_bag),some (.val x_turn),(Option.map SV.val j84.2.1),(Option.map SV.val j84.2.2.1),(Option.map SV.val j84.2.2.2.1),none,(Option.map SV.val j84.2.2.2.2.1),(Option.map SV.val j84.2.2.2.2.2.1),(Option.map SV.val j84.2.2.2.2.2.2.1),(Option.map SV.val j84.2.2.2.2.2.2.2)] U4 rfl h _ ?_;exact B0J h z (E6 (N9 (fun x_msizes=> [some (.val x_script),some (.val x_bag),some (.val x_turn),some (.val x_msizes),(Option.map SV.val j84.2.2.1),(Option.map SV.val j84.2.2.2.1),none,(Option.map SV.val j84.2.2.2.2.1),(Option.map SV.val j84.2.2.2.2.2.1),(Option.map SV.val j84.2.2.2.2.2.2.1),(Option.map SV.val j84.2.2.2.2.2.2.2)]) (fun _=> rfl) (A5 (G6 (he _) (A9 (A5 (A7 rfl)) C1))) (fun x_msizes=> (E7 (E6 (N9 (fun x_mstep=> [some (.val x_script),some (.val x_bag),some (.val x_turn),some (.val x_msizes),some (.val x_mstep),(Option.map SV.val j84.2.2.2.1),none,(Option.map SV.val j84.2.2.2.2.1),(Option.map SV.val j84.2.2.2.2.2.1),(Option.map SV.val j84.2.2.2.2.2.2.1),(Option.map SV.val j84.2.2.2.2.2.2.2)]) (fun _=> rfl) (A5 (G6 (he _) (A9 (A5 (A7 rfl)) (A9 (A5 (A7 rfl)) (A9 (A5 (G6 (he _) (A9 (A5 (A7 rfl)) C1))) (A9 (A5 A6) C1)))))) (fun x_mstep=> (E7 (A0s (fun (s89:W) (j90:Unit)=> [some (.val x_script),some (.val x_bag),some (.val x_turn),some (.val x_msizes),some (.val s89),(Option.map SV.val j84.2.2.2.1),none,(Option.map SV.val j84.2.2.2.2.1),(Option.map SV.val j84.2.2.2.2.2.1),(Option.map SV.val j84.2.2.2.2.2.2.1),(Option.map SV.val j84.2.2.2.2.2.2.2)]) (fun s89 j90=> (E6 (N9 (fun x_mtext=> [some (.val x_script),some (.val x_bag),some (.val x_turn),some (.val x_msizes),some (.val s89),some (.val x_mtext),none,(Option.map SV.val j84.2.2.2.2.1),(Option.map SV.val j84.2.2.2.2.2.1),(Option.map SV.val j84.2.2.2.2.2.2.1),(Option.map SV.val j84.2.2.2.2.2.2.2)]) (fun _=> rfl) (A5 (G6 (he _) (A9 (A5 (A7 rfl)) (A9 (A5 (A8n (SN.se A6) (SN.se (Z1 (A0q (A5 (A7 rfl))) (fun x_thing h kk K1 K0 h1 h0 z=> by exact X4 (e1:=[some (.val x_script),some (.val x_bag),some (.val x_turn),some (.val x_msizes),some (.val s89),(Option.map SV.val j84.2.2.2.1),some (.val x_thing),(Option.map SV.val j84.2.2.2.2.1),(Option.map SV.val j84.2.2.2.2.2.1),(Option.map SV.val j84.2.2.2.2.2.2.1),(Option.map SV.val j84.2.2.2.2.2.2.2)]) U4 Y6 (A5 (F3 B5J (C6 (SN.se (A7 rfl)) E3))) rfl h1 h0 z))))) C1)))) (fun x_mtext=> (E7 (E6 (N9 (fun x_due=> [some (.val x_script),some (.val x_bag),some (.val x_turn),some (.val x_msizes),some (.val s89),some (.val x_mtext),none,some (.val x_due),(Option.map SV.val j84.2.2.2.2.2.1),(Option.map SV.val j84.2.2.2.2.2.2.1),(Option.map SV.val j84.2.2.2.2.2.2.2)]) (fun _=> rfl) (A5 (G6 (he _) (A9 (A5 (A7 rfl)) C1))) (fun x_due=> (E7 (E6 (N9 (fun x_row=> [some (.val x_script),some (.val x_bag),some (.val x_turn),some (.val x_msizes),some (.val s89),some (.val x_mtext),none,some (.val x_due),some (.val x_row),(Option.map SV.val j84.2.2.2.2.2.2.1),(Option.map SV.val j84.2.2.2.2.2.2.2)]) (fun _=> rfl) (A5 A6) (fun x_row=> (E7 (E6 (N9 (fun x_found=> [some (.val x_script),some (.val x_bag),some (.val x_turn),some (.val x_msizes),some (.val s89),some (.val x_mtext),none,some (.val x_due),some (.val x_row),some (.val x_found),(Option.map SV.val j84.2.2.2.2.2.2.2)]) (fun _=> rfl) (A5 A6) (fun x_found=> (E7 (A0s (fun (s91:W×W) (j92:Option W)=> [some (.val x_script),some (.val x_bag),some (.val x_turn),some (.val x_msizes),some (.val s89),some (.val x_mtext),none,some (.val x_due),some (.val s91.1),some (.val s91.2),(Option.map SV.val j92)]) (fun s91 j92=> (M0 (d5 (G0 (SN.se (G6 (he _) (A9 (A5 (W4 (A9 (A5 (A7 rfl)) (A9 (A5 (A7 rfl)) C1)))) (A9 (A5 (W4 (A9 (A5 (A7 rfl)) (A9 (A5 (A58 (G0 (SN.se (B1 A4J (SN.se (A7 rfl)) (SN.se A6)))) A6 A6)) C1)))) C1)))))) (G9 hr_ (SN.se A6)) (M3 (fun h z=> N87 () (some x_turn,some x_msizes,some s89,some x_mtext,some x_due,some s91.1,some s91.2,j92) h z)))) (fun N94=> (B4a (ks:=["BadText"]) (i:=10) (env:=[some (.val x_script),some (.val x_bag),some (.val x_turn),some (.val x_msizes),some (.val s89),some (.val x_mtext),none,some (.val x_due),some (.val x_row),some (.val x_found),(Option.map SV.val j84.2.2.2.2.2.2.2)]) (j:=8) (l:=[("BadText",(A2x "row"))]) (envB:=fun s95=> [some (.val x_script),some (.val x_bag),some (.val x_turn),some (.val x_msizes),some (.val s89),some (.val x_mtext),none,some (.val x_due),some (.val x_row),some (.val s95),(Option.map SV.val j84.2.2.2.2.2.2.2)]) (by simp only [B7I,B7E,B7D,B5A]) (Nat.le_of_ble_eq_true rfl) (.cons B6K .nil) (he _) (fun s95=> (fun h z=> N94 (x_row,s95) (j84.2.2.2.2.2.2.2) h z)) (fun s95=> (fun h z=> N94 (s95,x_found) (none) h z)) (fun E2 Ein hz kk96 N97=> (N9 (fun x_found=> [some (.val x_script),some (.val x_bag),some (.val x_turn),some (.val x_msizes),some (.val s89),some (.val x_mtext),none,some (.val x_due),some (.val x_row),some (.val x_found),(Option.map SV.val j84.2.2.2.2.2.2.2)]) (fun _=> rfl) (A5 (G6 hz (A9 (A5 (A7 rfl)) C1))) (fun x_found=> (fun h z=> N97 x_found h z)))))))))))))))))))))))) (fun N99=> (M0 (G0 (SN.se (B1 M4 (SN.se (G6 (he _) (A9 (A5 (A7 rfl)) (A9 (A5 A6) C1)))) (SN.se A6)))) (N9 (fun x_mstep=> [some (.val x_script),some (.val x_bag),some (.val x_turn),some (.val x_msizes),some (.val x_mstep),(Option.map SV.val j84.2.2.2.1),none,(Option.map SV.val j84.2.2.2.2.1),(Option.map SV.val j84.2.2.2.2.2.1),(Option.map SV.val j84.2.2.2.2.2.2.1),(Option.map SV.val j84.2.2.2.2.2.2.2)]) (fun _=> rfl) (A5 (r4 (A9 (A5 A6) (A9 (A5 (G6 (he _) (A9 (A5 (A7 rfl)) (A9 (A5 (W4 (A9 (A5 A6) (A9 (A5 A6) (A9 (A5 A6) (A9 (A5 A6) C1)))))) C1)))) (A9 (A5 (G6 (he _) (A9 (A5 (A7 rfl)) C1))) C1))))) (fun x_mstep=> (fun h z=> N99 x_mstep () h z))) (M3 (fun h z=> N99 x_mstep () h z))))))))))))))))))))))
theorem B6p (ws:List W) (h:AH) (Qa:RR→AH→Prop) (Ea:AExc→AH→Prop) (hl:ws.length=1) (z:upc m_law ws h Qa Ea):A4T (F4 Ea) (C9 Qa) (L0 11 ws) h:=by
  obtain ⟨Q0,E0,hQ,hE,z⟩:=z
  match ws,hl with
  | [x_script],_=> exact B7Q hQ hE x_script h z
end Ab
namespace Ab
open PySem PySem.Spec PyProof.Rows L2 RZ
abbrev A3d:List Str:=["text","sign"]
abbrev A2U:List Str:=["text"]
theorem A8C:FnScope A3d A2U (defScope U0):=⟨rfl,rfl,rfl,by decide+kernel,rfl,by decide+kernel,by decide+kernel⟩
theorem B3L:O3 "is_name" U0 A2U:=fun _ _ _ _ _ _ us hl=> match us,hl with | [_],_=> rfl
abbrev A3O:List Str:=["text","sign"]
abbrev A0e:List Str:=["text"]
theorem A7U:FnScope A3O A0e (defScope Q5):=⟨rfl,rfl,rfl,by decide+kernel,rfl,by decide+kernel,by decide+kernel⟩
theorem A7X:O3 "is_figures" Q5 A0e:=fun _ _ _ _ _ _ us hl=> match us,hl with | [_],_=> rfl
abbrev A5F:List Str:=["words"]
abbrev A2R:List Str:=["words"]
theorem A78:FnScope A5F A2R (defScope V5):=⟨rfl,rfl,rfl,by decide+kernel,rfl,by decide+kernel,by decide+kernel⟩
theorem B3Q:O3 "call_in" V5 A2R:=fun _ _ _ _ _ _ us hl=> match us,hl with | [_],_=> rfl
abbrev A2P:List Str:=["text","word","rest","one"]
abbrev A2T:List Str:=["text"]
theorem A76:FnScope A2P A2T (defScope R9):=⟨rfl,rfl,rfl,by decide+kernel,rfl,by decide+kernel,by decide+kernel⟩
theorem B22:O3 "step_in" R9 A2T:=fun _ _ _ _ _ _ us hl=> match us,hl with | [_],_=> rfl
abbrev A5B:List Str:=["text","step"]
abbrev A2L:List Str:=["text"]
theorem A7v:FnScope A5B A2L (defScope V2):=⟨rfl,rfl,rfl,by decide+kernel,rfl,by decide+kernel,by decide+kernel⟩
theorem B2X:O3 "read_step" V2 A2L:=fun _ _ _ _ _ _ us hl=> match us,hl with | [_],_=> rfl
abbrev A49:List Str:=["_law_script"]
abbrev A2F:List Str:=["_law_script"]
theorem A7r:FnScope A49 A2F (defScope V3):=⟨rfl,rfl,rfl,by decide+kernel,rfl,by decide+kernel,by decide+kernel⟩
theorem B14:O3 "_law_open" V3 A2F:=fun _ _ _ _ _ _ us hl=> match us,hl with | [_],_=> rfl
abbrev A46:List Str:=["_law_bag","_law_sides","_law_cell","_law_side","_law_mix"]
abbrev R5:List Str:=["_law_bag","_law_sides"]
theorem A7f:FnScope A46 R5 (defScope M5):=⟨rfl,rfl,rfl,by decide+kernel,rfl,by decide+kernel,by decide+kernel⟩
theorem R7:O3 "_law_take" M5 R5:=fun _ _ _ _ _ _ us hl=> match us,hl with | [_,_],_=> rfl
abbrev A48:List Str:=["_law_bag","_law_row"]
abbrev X2:List Str:=["_law_bag","_law_row"]
theorem A7m:FnScope A48 X2 (defScope N5):=⟨rfl,rfl,rfl,by decide+kernel,rfl,by decide+kernel,by decide+kernel⟩
theorem y9:O3 "_law_pick" N5 X2:=fun _ _ _ _ _ _ us hl=> match us,hl with | [_,_],_=> rfl
abbrev A3V:List Str:=["_law_found","_law_due","_law_at"]
abbrev A0i:List Str:=["_law_found","_law_due"]
theorem A7c:FnScope A3V A0i (defScope R6):=⟨rfl,rfl,rfl,by decide+kernel,rfl,by decide+kernel,by decide+kernel⟩
theorem A7p:O3 "_law_same" R6 A0i:=fun _ _ _ _ _ _ us hl=> match us,hl with | [_,_],_=> rfl
abbrev A3N:List Str:=["_law_bag","_law_mcasks","_law_most","_law_mcask"]
abbrev A2C:List Str:=["_law_bag","_law_mcasks","_law_most"]
theorem A7Z:FnScope A3N A2C (defScope T9):=⟨rfl,rfl,rfl,by decide+kernel,rfl,by decide+kernel,by decide+kernel⟩
theorem B1p:O3 "_law_sizes" T9 A2C:=fun _ _ _ _ _ _ us hl=> match us,hl with | [_,_,_],_=> rfl
abbrev A43:List Str:=["_law_bag"]
abbrev A1v:List Str:=["_law_bag"]
theorem A7I:FnScope A43 A1v (defScope U9):=⟨rfl,rfl,rfl,by decide+kernel,rfl,by decide+kernel,by decide+kernel⟩
theorem B1I:O3 "_law_any_sizes" U9 A1v:=fun _ _ _ _ _ _ us hl=> match us,hl with | [_],_=> rfl
abbrev A44:List Str:=["_law_bag","_law_some"]
abbrev A13:List Str:=["_law_bag"]
theorem A7S:FnScope A44 A13 (defScope V0):=⟨rfl,rfl,rfl,by decide+kernel,rfl,by decide+kernel,by decide+kernel⟩
theorem A7P:O3 "_law_number" V0 A13:=fun _ _ _ _ _ _ us hl=> match us,hl with | [_],_=> rfl
abbrev A3F:List Str:=["_law_bag","_law_row","_law_left","_law_thing"]
abbrev A1x:List Str:=["_law_bag","_law_row"]
theorem A7L:FnScope A3F A1x (defScope T7):=⟨rfl,rfl,rfl,by decide+kernel,rfl,by decide+kernel,by decide+kernel⟩
theorem B1O:O3 "_law_shuffled" T7 A1x:=fun _ _ _ _ _ _ us hl=> match us,hl with | [_,_],_=> rfl
abbrev A42:List Str:=["_law_bag","_law_mcasks","_law_mmany"]
abbrev A1u:List Str:=["_law_bag","_law_mcasks","_law_mmany"]
theorem A7F:FnScope A42 A1u (defScope U8):=⟨rfl,rfl,rfl,by decide+kernel,rfl,by decide+kernel,by decide+kernel⟩
theorem B1A:O3 "_law_some_casks" U8 A1u:=fun _ _ _ _ _ _ us hl=> match us,hl with | [_,_,_],_=> rfl
abbrev A18:List Str:=["_law_msizes","_law_found","_law_mone","_law_near","_law_at"]
abbrev A2E:List Str:=["_law_msizes"]
theorem A7Y:FnScope A18 A2E (defScope R4):=⟨rfl,rfl,rfl,by decide+kernel,rfl,by decide+kernel,by decide+kernel⟩
theorem B1v:O3 "_law_alike" R4 A2E:=fun _ _ _ _ _ _ us hl=> match us,hl with | [_],_=> rfl
abbrev A5D:List Str:=["_law_bag","_law_msizes","_law_number_here","_law_taps","_law_how","_law_pairs","_law_mmany","_law_word"]
abbrev A2I:List Str:=["_law_bag","_law_msizes","_law_number_here","_law_taps"]
theorem A7g:FnScope A5D A2I (defScope V4):=⟨rfl,rfl,rfl,by decide+kernel,rfl,by decide+kernel,by decide+kernel⟩
theorem B2O:O3 "_law_deed" V4 A2I:=fun _ _ _ _ _ _ us hl=> match us,hl with | [_,_,_,_],_=> rfl
abbrev A3B:List Str:=["_law_word","_law_sign"]
abbrev A1s:List Str:=["_law_word"]
theorem A7G:FnScope A3B A1s (defScope T6):=⟨rfl,rfl,rfl,by decide+kernel,rfl,by decide+kernel,by decide+kernel⟩
theorem A7E:O3 "_law_is_figures" T6 A1s:=fun _ _ _ _ _ _ us hl=> match us,hl with | [_],_=> rfl
abbrev A3I:List Str:=["_law_word","_law_sign"]
abbrev A11:List Str:=["_law_word"]
theorem A7M:FnScope A3I A11 (defScope T8):=⟨rfl,rfl,rfl,by decide+kernel,rfl,by decide+kernel,by decide+kernel⟩
theorem B1W:O3 "_law_is_name" T8 A11:=fun _ _ _ _ _ _ us hl=> match us,hl with | [_],_=> rfl
abbrev A2H:List Str:=["_law_mtext","_law_words","_law_good","_law_most","_law_word"]
abbrev A2G:List Str:=["_law_mtext"]
theorem A7q:FnScope A2H A2G (defScope R8):=⟨rfl,rfl,rfl,by decide+kernel,rfl,by decide+kernel,by decide+kernel⟩
theorem B2C:O3 "_law_read" R8 A2G:=fun _ _ _ _ _ _ us hl=> match us,hl with | [_],_=> rfl
abbrev A47:List Str:=["_law_bag","_law_mtext","_law_words","_law_at","_law_to","_law_spot","_law_how","_law_odd"]
abbrev A2J:List Str:=["_law_bag","_law_mtext"]
theorem A7h:FnScope A47 A2J (defScope V1):=⟨rfl,rfl,rfl,by decide+kernel,rfl,by decide+kernel,by decide+kernel⟩
theorem B2T:O3 "_law_bent" V1 A2J:=fun _ _ _ _ _ _ us hl=> match us,hl with | [_,_],_=> rfl
abbrev A4K:List Str:=["_law_script","_law_bag","_law_turn","_law_msizes","_law_mstep","_law_mtext","_law_thing","_law_due","_law_row","_law_found","e"]
abbrev A4M:List Str:=["_law_script"]
theorem A9v:FnScope A4K A4M (defScope X8):=⟨rfl,rfl,rfl,by decide+kernel,rfl,by decide+kernel,by decide+kernel⟩
theorem B2g:FnScope ["self","row"] ["self","row"] (defScope A3Y):=⟨rfl,rfl,rfl,by decide+kernel,rfl,by decide+kernel,by decide+kernel⟩
end Ab
namespace Ab
open PySem PySem.Spec PyProof.Rows L2 RZ
structure Blt (K:PySem.W.Frag) (w:World) (mg:Str→Option Value):Prop where
  n_all:mg "all"=none
  n_bool:mg "bool"=none
  n_int:mg "int"=none
  n_isinstance:mg "isinstance"=none
  n_len:mg "len"=none
  n_list:mg "list"=none
  n_range:mg "range"=none
  n_str:mg "str"=none
  n_tuple:mg "tuple"=none
  c_FIGURES:∃t,mg "FIGURES"=some (.str ("0123456789":Str) t)
  c_LEAST_THINGS:DcG K w mg "LEAST_THINGS" ([(("over":Str),3),(("down":Str),3),(("swap":Str),2),(("tap":Str),2),(("drain":Str),2)]:List (Str×Int))
  c_LETTERS:∃t,mg "LETTERS"=some (.str ("abcdefghijklmnopqrstuvwxyz":Str) t)
  c_LONGEST:∃t,mg "LONGEST"=some (.int 8 t)
  c_MOST_FIGURES:∃t,mg "MOST_FIGURES"=some (.int 30 t)
  c_MOST_THINGS:DcG K w mg "MOST_THINGS" ([(("over":Str),7),(("down":Str),7),(("swap":Str),2),(("tap":Str),2),(("drain":Str),2)]:List (Str×Int))
  h_BadText:mg "BadText"=some (.ref (He.ga K "BadText"))
  x_BadText:∀k∈(["BadText"]:List Str),PySem.W.exmOne K (.ref (He.ga K k)) (.ref (He.ga K "BadText"))=some (A0T k "BadText")
  f_row:∀c∈(["BadText"]:List Str),XfC K (He.ga K c)∧PySem.W.findIn K (.ref (He.ga K c)) "row"=some none
theorem B2x {P:Program} {w:World} {K:PySem.W.Frag} {mg:Str→Option Value} {base:Heap} {f:Addr} {cdv:Value} {A:Around} {outer:List Env} {s:Shared} {H:Hp} {EX:XK} {G:Gx} {E:AExc→A1→AH→Prop} (Z:Blt K w mg) (hr:Room 0 (A.deeper (envOfC "is_name" (defScope U0) s.heap.objs.size f cdv))) (gk:G.K=K) (tk:Takes (bx P w K mg base A3d "is_name" (defScope U0) f cdv A outer s H EX) (cW G E)):
    ASs (bx P w K mg base A3d "is_name" (defScope U0) f cdv A outer s H EX) G (defBody U0) (A3e E):=by
  subst gk
  have gk:G.K=G.K:=rfl
  have sc:=A8C
  have hu:=hr.units
  exact (F0 (G7 (A0J (A9R op_le op_le ae_int (G4 call_len M8 rfl Z.n_len M9 (C5 (A3 (pv 0)) D7)) (A8x rfl Z.c_LONGEST)) (A1N (G4 (cr_all rfl) A01 rfl Z.n_all A0x (C5 (X5 (own:=[("sign",1)]) rfl sc.nd (A4A (A3 (pv 0))) (blkOk_by (by first | (show blkC A3d (defScope U0) _ _=true;decide+kernel) | rfl)) (by decide) (fun _ _ _ _ _=> (H9 (i:=1) sc.nd rfl (by first | exact .inl rfl | exact .inr rfl))) (fun _ _ _ _ _=> X3) (fun _ _ _ _ _=> (A4 (A32 (A3 (pv 1)) (A89 rfl Z.c_LETTERS))))) D7))))))
theorem B1r {P:Program} {w:World} {K:PySem.W.Frag} {mg:Str→Option Value} {base:Heap} {f:Addr} {cdv:Value} {A:Around} {outer:List Env} {s:Shared} {H:Hp} {EX:XK} {G:Gx} {E:AExc→A1→AH→Prop} (Z:Blt K w mg) (hr:Room 0 (A.deeper (envOfC "is_figures" (defScope Q5) s.heap.objs.size f cdv))) (gk:G.K=K) (tk:Takes (bx P w K mg base A3O "is_figures" (defScope Q5) f cdv A outer s H EX) (cW G E)):
    ASs (bx P w K mg base A3O "is_figures" (defScope Q5) f cdv A outer s H EX) G (defBody Q5) (A3M E):=by
  subst gk
  have gk:G.K=G.K:=rfl
  have sc:=A7U
  have hu:=hr.units
  exact (D4 (L9 (AW.ap (A0O (c9 (A35 op_le op_le ae_int (G4 call_len M8 rfl Z.n_len M9 (C5 (A3 (pv 0)) D7)) (A8x rfl Z.c_MOST_FIGURES))) (A04 (c9 (Z5 (G4 (cr_all rfl) A01 rfl Z.n_all A0x (C5 (X5 (own:=[("sign",1)]) rfl sc.nd (A4A (A3 (pv 0))) (blkOk_by (by first | (show blkC A3O (defScope Q5) _ _=true;decide+kernel) | rfl)) (by decide) (fun _ _ _ _ _=> (H9 (i:=1) sc.nd rfl (by first | exact .inl rfl | exact .inr rfl))) (fun _ _ _ _ _=> X3) (fun _ _ _ _ _=> (A4 (A32 (A3 (pv 1)) (A89 rfl Z.c_FIGURES))))) D7))))))) (F0 (G7 A09)) M1)
    (F0 (G7 (B0G (A1e gk hu (G4 call_len M8 rfl Z.n_len M9 (C5 (A3 (pv 0)) D7)) ae_int) (A9V (A9w gk hu (J0 gk (A3 (pv 0)) ae_int (fun _ _=> rfl)) E9))))))
theorem B3J {P:Program} {w:World} {K:PySem.W.Frag} {mg:Str→Option Value} {base:Heap} {f:Addr} {cdv:Value} {A:Around} {outer:List Env} {s:Shared} {H:Hp} {EX:XK} {G:Gx} {E:AExc→A1→AH→Prop} (Z:Blt K w mg) (O_is_name:Ok P w K mg base "is_name" U0 1 1 A2U (upc A0o)) (O_is_figures:Ok P w K mg base "is_figures" Q5 1 1 A0e (upc Y4)) (hr:Room 1 (A.deeper (envOfC "call_in" (defScope V5) s.heap.objs.size f cdv))) (gk:G.K=K) (tk:Takes (bx P w K mg base A5F "call_in" (defScope V5) f cdv A outer s H EX) (cW G E)):
    ASs (bx P w K mg base A5F "call_in" (defScope V5) f cdv A outer s H EX) G (defBody V5) (A3a E):=by
  subst gk
  have gk:G.K=G.K:=rfl
  have sc:=A78
  have hu:=hr.units
  exact (D4 (L9 (AW.ap (A0O (A1b gk hu (G4 call_len M8 rfl Z.n_len M9 (C5 (A3 (pv 0)) D7)) ae_int) (A0O (c9 (Z5 (F7 gk O_is_name B3L hr (by decide) rfl tk (B7 (A4 (J0 gk (A3 (pv 0)) ae_int (fun _ _=> rfl))) F6)))) (A04 (c9 (Z5 (F7 gk O_is_figures A7X hr (by decide) rfl tk (B7 (A4 (J0 gk (A3 (pv 0)) ae_int (fun _ _=> rfl))) F6)))))))) (F0 (G7 p9)) M1)
    (F0 (G7 (p8 (B6 (A4 E9) (B6 (A4 (J0 gk (A3 (pv 0)) ae_int (fun _ _=> rfl))) (B6 (A4 (c6 call_int_str A3r rfl Z.n_int A1R (C5 (J0 gk (A3 (pv 0)) ae_int (fun _ _=> rfl)) D7))) L8)))))))
theorem B3D {P:Program} {w:World} {K:PySem.W.Frag} {mg:Str→Option Value} {base:Heap} {f:Addr} {cdv:Value} {A:Around} {outer:List Env} {s:Shared} {H:Hp} {EX:XK} {G:Gx} {E:AExc→A1→AH→Prop} (Z:Blt K w mg) (O_call_in:Ok P w K mg base "call_in" V5 2 1 A2R (upc z9)) (O_is_figures:Ok P w K mg base "is_figures" Q5 1 1 A0e (upc Y4)) (hr:Room 2 (A.deeper (envOfC "step_in" (defScope R9) s.heap.objs.size f cdv))) (gk:G.K=K) (tk:Takes (bx P w K mg base A2P "step_in" (defScope R9) f cdv A outer s H EX) (cW G E)):
    ASs (bx P w K mg base A2P "step_in" (defScope R9) f cdv A outer s H EX) G (defBody R9) (A3c E):=by
  subst gk
  have gk:G.K=G.K:=rfl
  have sc:=A76
  have hu:=hr.units
  exact (D4 (B5I (i:=1) (j:=2) gk rfl sc.nd rfl rfl (by first | exact .inl rfl | exact .inr rfl) (by first | exact .inl rfl | exact .inr rfl) (A4 (A5M (A3 (pv 0)) E9)))
    (D4 (L9 (W7 gk hu (A3 (pv 1)) E9) (F0 (G7 (F7 gk O_call_in B3Q hr (by decide) rfl tk (B7 (A4 (N6 gk (W5 (B6 (A4 (A3 (pv 1))) L8)) (A3 (pv 2)))) F6)))) M1)
    (D4 (L9 (AW.ap (A0O (B4P gk rfl Z.c_LEAST_THINGS (A4 (A3 (pv 1)))) (A04 (c9 (A35 op_le op_le (A8u gk rfl Z.c_LEAST_THINGS (A4 (A3 (pv 1)))) (G4 call_len M8 rfl Z.n_len M9 (C5 (A3 (pv 2)) D7)) (A8u gk rfl Z.c_MOST_THINGS (A4 (A3 (pv 1))))))))) (F0 (G7 p9)) M1)
    (D4 (A9I 2 (L9 (c9 (Z5 (G4 (cr_all rfl) A01 rfl Z.n_all A0x (C5 (X5 (own:=[("one",3)]) rfl sc.nd (A06 gk (A4 (A3 (pv 2)))) (blkOk_by (by first | (show blkC A2P (defScope R9) _ _=true;decide+kernel) | rfl)) (by decide) (fun _ _ _ _ _=> (H9 (i:=3) sc.nd rfl (by first | exact .inl rfl | exact .inr rfl))) (fun _ _ _ _ _=> X3) (fun _ _ _ _ _=> (A4 (F7 gk O_is_figures A7X hr (by decide) rfl A2Z (B7 (A4 (A3 (pv 3))) F6))))) D7)))) (F0 (G7 p9)) M1))
    (F0 (G7 (N6 gk (p8 (B6 (A4 (A3 (pv 1))) L8)) (c6 call_tuple_of A34 rfl Z.n_tuple A1H (C5 (X5 (own:=[("one",3)]) rfl sc.nd (A06 gk (A4 (A3 (pv 2)))) (blkOk_by (by first | (show blkC A2P (defScope R9) _ _=true;decide+kernel) | rfl)) (by decide) (fun _ _ _ _ _=> (H9 (i:=3) sc.nd rfl (by first | exact .inl rfl | exact .inr rfl))) (fun _ _ _ _ _=> X3) (fun _ _ _ _ _=> (A4 (c6 call_int_str A3r rfl Z.n_int A1R (C5 (A3 (pv 3)) D7))))) D7)))))))))
theorem B2E {P:Program} {w:World} {K:PySem.W.Frag} {mg:Str→Option Value} {base:Heap} {f:Addr} {cdv:Value} {A:Around} {outer:List Env} {s:Shared} {H:Hp} {EX:XK} {G:Gx} {E:AExc→A1→AH→Prop} (Z:Blt K w mg) (O_step_in:Ok P w K mg base "step_in" R9 3 1 A2T (upc z8)) (R_BadText:XkOk P w K mg base "BadText" "bad text" ["row"]) (hr:Room 3 (A.deeper (envOfC "read_step" (defScope V2) s.heap.objs.size f cdv))) (gk:G.K=K) (tk:Takes (bx P w K mg base A5B "read_step" (defScope V2) f cdv A outer s H EX) (cW G E)):
    ASs (bx P w K mg base A5B "read_step" (defScope V2) f cdv A outer s H EX) G (defBody V2) (A3K E):=by
  subst gk
  have gk:G.K=G.K:=rfl
  have sc:=A7v
  have hu:=hr.units
  exact (D4 (K9 (A4 (F7 gk O_step_in B22 hr (by decide) rfl tk (B7 (A4 (A3 (pv 0))) F6))) (H9 (i:=1) sc.nd rfl (by first | exact .inl rfl | exact .inr rfl)))
    (D4 (L9 (A9F (A3 (pv 1)) p9) (F0 (B4K R_BadText gk rfl tk hr (by decide) rfl (B7 (A4 ae_int) F6))) M1)
    (F0 (G7 (A3 (pv 1))))))
theorem B2R {P:Program} {w:World} {K:PySem.W.Frag} {mg:Str→Option Value} {base:Heap} {f:Addr} {cdv:Value} {A:Around} {outer:List Env} {s:Shared} {H:Hp} {EX:XK} {G:Gx} {E:AExc→A1→AH→Prop} (Z:Blt K w mg) (hr:Room 0 (A.deeper (envOfC "_law_open" (defScope V3) s.heap.objs.size f cdv))) (gk:G.K=K) (tk:Takes (bx P w K mg base A49 "_law_open" (defScope V3) f cdv A outer s H EX) (cW G E)):
    ASs (bx P w K mg base A49 "_law_open" (defScope V3) f cdv A outer s H EX) G (defBody V3) (A3X E):=by
  subst gk
  have gk:G.K=G.K:=rfl
  have sc:=A7r
  have hu:=hr.units
  exact (F0 (G7 (W5 (B6 (A4 (c6 call_list_of A9f rfl Z.n_list A3u (C5 (u7 gk (A3 (pv 0)) v4 (v3 ae_int)) D7))) (B6 (A4 ae_int) (B6 (A4 ae_int) (B6 (A4 ae_int) (B6 (A4 ae_int) L8))))))))
theorem B2Q {P:Program} {w:World} {K:PySem.W.Frag} {mg:Str→Option Value} {base:Heap} {f:Addr} {cdv:Value} {A:Around} {outer:List Env} {s:Shared} {H:Hp} {EX:XK} {G:Gx} {E:AExc→A1→AH→Prop} (Z:Blt K w mg) (hr:Room 0 (A.deeper (envOfC "_law_take" (defScope M5) s.heap.objs.size f cdv))) (gk:G.K=K) (tk:Takes (bx P w K mg base A46 "_law_take" (defScope M5) f cdv A outer s H EX) (cW G E)):
    ASs (bx P w K mg base A46 "_law_take" (defScope M5) f cdv A outer s H EX) G (defBody M5) (A3R E):=by
  subst gk
  have gk:G.K=G.K:=rfl
  have sc:=A7f
  have hu:=hr.units
  exact (D4 (L9 (AW.ap (A36 (A6R (J0 gk (A3 (pv 0)) ae_int (fun _ _=> rfl)) (A3 (pv 1))) (A3s (A6R (J0 gk (A3 (pv 0)) ae_int (fun _ _=> rfl)) (G4 call_len M8 rfl Z.n_len M9 (C5 (J0 gk (A3 (pv 0)) ae_int (fun _ _=> rfl)) D7)))))) (D4 (K9 (A4 (J0 gk (J0 gk (A3 (pv 0)) ae_int (fun _ _=> rfl)) (J0 gk (A3 (pv 0)) ae_int (fun _ _=> rfl)) (fun _ _=> rfl))) (H9 (i:=2) sc.nd rfl (by first | exact .inl rfl | exact .inr rfl)))
    (D4 (K9 (A4 (N6 gk (J0 gk (A3 (pv 0)) ae_int (fun _ _=> rfl)) ae_int)) (r9 (A3 (pv 0)) ae_int (pg_sub (A3 (pv 0)).pe ae_int.pe set_list)))
    (D4 (K9 (A4 ae_int) (r9 (A3 (pv 0)) ae_int (pg_sub (A3 (pv 0)).pe ae_int.pe set_list)))
    (F0 (L9 (A9p (A3 (pv 2)) (A5r ae_int ae_int)) (F0 (K9 (A4 (A3 (pv 2))) (r9 (A3 (pv 0)) ae_int (pg_sub (A3 (pv 0)).pe ae_int.pe set_list)))) (F0 (K9 (A4 (A0z (N6 gk (N6 gk (A0v gk (J0 gk (A3 (pv 0)) ae_int (fun _ _=> rfl)) ae_int) (A0v gk (A0z (A3 (pv 2)) ae_int) ae_int)) ae_int) ae_int)) (r9 (A3 (pv 0)) ae_int (pg_sub (A3 (pv 0)).pe ae_int.pe set_list))))))))) M1)
    (D4 (L9 (A9p (J0 gk (A3 (pv 0)) ae_int (fun _ _=> rfl)) (A3 (pv 1))) (D4 (K9 (A4 (A0z (J0 gk (A3 (pv 0)) ae_int (fun _ _=> rfl)) (A3 (pv 1)))) (H9 (i:=3) sc.nd rfl (by first | exact .inl rfl | exact .inr rfl)))
    (D4 (K9 (A4 (A5a (J0 gk (A3 (pv 0)) ae_int (fun _ _=> rfl)) (A3 (pv 1)))) (r9 (A3 (pv 0)) ae_int (pg_sub (A3 (pv 0)).pe ae_int.pe set_list)))
    (F0 (G7 (A3 (pv 3)))))) M1)
    (D4 (K9 (A4 (N6 gk (J0 gk (A3 (pv 0)) ae_int (fun _ _=> rfl)) ae_int)) (r9 (A3 (pv 0)) ae_int (pg_sub (A3 (pv 0)).pe ae_int.pe set_list)))
    (D4 (K9 (A4 (J0 gk (A3 (pv 0)) ae_int (fun _ _=> rfl))) (H9 (i:=4) sc.nd rfl (by first | exact .inl rfl | exact .inr rfl)))
    (D4 (K9 (A4 (A0z (N6 gk (N6 gk (N6 gk (A0v gk (A0z (A0v gk (A3 (pv 4)) (A3 (pv 4))) ae_int) ae_int) (A0v gk (A3 (pv 4)) ae_int)) (A0v gk ae_int (J0 gk (A3 (pv 0)) ae_int (fun _ _=> rfl)))) ae_int) ae_int)) (r9 (A3 (pv 0)) ae_int (pg_sub (A3 (pv 0)).pe ae_int.pe set_list)))
    (F0 (G7 (A0z (N6 gk (A5a (J0 gk (A3 (pv 0)) ae_int (fun _ _=> rfl)) ae_int) (A0v gk (A0z (J0 gk (A3 (pv 0)) ae_int (fun _ _=> rfl)) ae_int) ae_int)) (A3 (pv 1))))))))))
theorem B2S {P:Program} {w:World} {K:PySem.W.Frag} {mg:Str→Option Value} {base:Heap} {f:Addr} {cdv:Value} {A:Around} {outer:List Env} {s:Shared} {H:Hp} {EX:XK} {G:Gx} {E:AExc→A1→AH→Prop} (Z:Blt K w mg) (O__law_take:Ok P w K mg base "_law_take" M5 1 2 R5 (upc D2)) (hr:Room 1 (A.deeper (envOfC "_law_pick" (defScope N5) s.heap.objs.size f cdv))) (gk:G.K=K) (tk:Takes (bx P w K mg base A48 "_law_pick" (defScope N5) f cdv A outer s H EX) (cW G E)):
    ASs (bx P w K mg base A48 "_law_pick" (defScope N5) f cdv A outer s H EX) G (defBody N5) (A3T E):=by
  subst gk
  have gk:G.K=G.K:=rfl
  have sc:=A7m
  have hu:=hr.units
  exact (F0 (G7 (J0 gk (A3 (pv 1)) (F7 gk O__law_take R7 hr (by decide) rfl tk (B7 (A4 (A3 (pv 0))) (B7 (A4 (G4 call_len M8 rfl Z.n_len M9 (C5 (A3 (pv 1)) D7))) F6))) (fun _ _=> rfl))))
theorem B18 {P:Program} {w:World} {K:PySem.W.Frag} {mg:Str→Option Value} {base:Heap} {f:Addr} {cdv:Value} {A:Around} {outer:List Env} {s:Shared} {H:Hp} {EX:XK} {G:Gx} {E:AExc→A1→AH→Prop} {d j:Nat} (Z:Blt K w mg) (O__law_same:Ok P w K mg base "_law_same" R6 j 2 A0i (upc (m__law_same d))) (hr:Room (max j 0) (A.deeper (envOfC "_law_same" (defScope R6) s.heap.objs.size f cdv))) (gk:G.K=K) (tk:Takes (bx P w K mg base A3V "_law_same" (defScope R6) f cdv A outer s H EX) (cW G E)):
    ASs (bx P w K mg base A3V "_law_same" (defScope R6) f cdv A outer s H EX) G (defBody R6) (A3W d E):=by
  subst gk
  have gk:G.K=G.K:=rfl
  have sc:=A7c
  have hu:=hr.units
  exact (D4 (L9 (A9F (A3 (pv 1)) p9) (F0 (G7 (B58 (A3 (pv 0)) p9))) M1)
    (D4 (L9 (Z5 (G4 call_isi d7 rfl Z.n_isinstance c5 (C5 (A3 (pv 1)) (C5 (f5 rfl Z.n_bool A5Z) D7)))) (F0 (G7 (A0J (G4 call_isi d7 rfl Z.n_isinstance c5 (C5 (A3 (pv 0)) (C5 (f5 rfl Z.n_bool A5Z) D7))) (A1N (A1e gk hu (A3 (pv 0)) (A3 (pv 1))))))) M1)
    (D4 (L9 (Z5 (G4 call_isi d7 rfl Z.n_isinstance c5 (C5 (A3 (pv 1)) (C5 (f5 rfl Z.n_int A1R) D7)))) (F0 (G7 (A0J (G4 call_isi d7 rfl Z.n_isinstance c5 (C5 (A3 (pv 0)) (C5 (f5 rfl Z.n_int A1R) D7))) (A0J (B52 (G4 call_isi d7 rfl Z.n_isinstance c5 (C5 (A3 (pv 0)) (C5 (f5 rfl Z.n_bool A5Z) D7)))) (A1N (A1e gk hu (A3 (pv 0)) (A3 (pv 1)))))))) M1)
    (D4 (L9 (Z5 (G4 call_isi d7 rfl Z.n_isinstance c5 (C5 (A3 (pv 1)) (C5 (f5 rfl Z.n_str A5s) D7)))) (F0 (G7 (A0J (G4 call_isi d7 rfl Z.n_isinstance c5 (C5 (A3 (pv 0)) (C5 (f5 rfl Z.n_str A5s) D7))) (A1N (A1e gk hu (A3 (pv 0)) (A3 (pv 1))))))) M1)
    (D4 (L9 (AW.ap (A0O (A1b gk hu (G4 call_isi d7 rfl Z.n_isinstance c5 (C5 (A3 (pv 1)) (C5 (f5 rfl Z.n_tuple A1H) D7))) (G4 call_isi d7 rfl Z.n_isinstance c5 (C5 (A3 (pv 0)) (C5 (f5 rfl Z.n_tuple A1H) D7)))) (A04 (A1b gk hu (G4 call_isi d7 rfl Z.n_isinstance c5 (C5 (A3 (pv 1)) (C5 (f5 rfl Z.n_list A3u) D7))) (G4 call_isi d7 rfl Z.n_isinstance c5 (C5 (A3 (pv 0)) (C5 (f5 rfl Z.n_list A3u) D7))))))) (F0 (G7 A09)) M1)
    (D4 (L9 (A1b gk hu (G4 call_len M8 rfl Z.n_len M9 (C5 (A3 (pv 0)) D7)) (G4 call_len M8 rfl Z.n_len M9 (C5 (A3 (pv 1)) D7))) (F0 (G7 A09)) M1)
    (F0 (G7 (G4 (cr_all rfl) A01 rfl Z.n_all A0x (C5 (X5 (own:=[("_law_at",2)]) rfl sc.nd (A2Q rfl Z.n_range (C5 (G4 call_len M8 rfl Z.n_len M9 (C5 (A3 (pv 1)) D7)) D7)) (blkOk_by (by first | (show blkC A3V (defScope R6) _ _=true;decide+kernel) | rfl)) (by decide) (fun _ _ _ _ _=> (H9 (i:=2) sc.nd rfl (by first | exact .inl rfl | exact .inr rfl))) (fun _ _ _ _ _=> X3) (fun _ _ _ _ _=> (A4 (F7 gk O__law_same A7p hr (by omega) rfl A2Z (B7 (A4 (J0 gk (A3 (pv 0)) (A3 (pv 2)) (fun _ _=> rfl))) (B7 (A4 (J0 gk (A3 (pv 1)) (A3 (pv 2)) (fun _ _=> rfl))) F6)))))) D7))))))))))
theorem B1k {P:Program} {w:World} {K:PySem.W.Frag} {mg:Str→Option Value} {base:Heap} {f:Addr} {cdv:Value} {A:Around} {outer:List Env} {s:Shared} {H:Hp} {EX:XK} {G:Gx} {E:AExc→A1→AH→Prop} (Z:Blt K w mg) (O__law_take:Ok P w K mg base "_law_take" M5 1 2 R5 (upc D2)) (hr:Room 1 (A.deeper (envOfC "_law_sizes" (defScope T9) s.heap.objs.size f cdv))) (gk:G.K=K) (tk:Takes (bx P w K mg base A3N "_law_sizes" (defScope T9) f cdv A outer s H EX) (cW G E)):
    ASs (bx P w K mg base A3N "_law_sizes" (defScope T9) f cdv A outer s H EX) G (defBody T9) (A3P E):=by
  subst gk
  have gk:G.K=G.K:=rfl
  have sc:=A7Z
  have hu:=hr.units
  exact (F0 (G7 (c6 call_tuple_of A34 rfl Z.n_tuple A1H (C5 (X5 (own:=[("_law_mcask",3)]) rfl sc.nd (A2Q rfl Z.n_range (C5 (N6 gk ae_int (F7 gk O__law_take R7 hr (by decide) rfl tk (B7 (A4 (A3 (pv 0))) (B7 (A4 (A3 (pv 1))) F6)))) D7)) (blkOk_by (by first | (show blkC A3N (defScope T9) _ _=true;decide+kernel) | rfl)) (by decide) (fun _ _ _ _ _=> (H9 (i:=3) sc.nd rfl (by first | exact .inl rfl | exact .inr rfl))) (fun _ _ _ _ _=> X3) (fun _ _ _ _ _=> (A4 (N6 gk ae_int (F7 gk O__law_take R7 hr (by decide) rfl A2Z (B7 (A4 (A3 (pv 0))) (B7 (A4 (A3 (pv 2))) F6))))))) D7))))
theorem B1J {P:Program} {w:World} {K:PySem.W.Frag} {mg:Str→Option Value} {base:Heap} {f:Addr} {cdv:Value} {A:Around} {outer:List Env} {s:Shared} {H:Hp} {EX:XK} {G:Gx} {E:AExc→A1→AH→Prop} (Z:Blt K w mg) (O__law_sizes:Ok P w K mg base "_law_sizes" T9 2 3 A2C (upc A0h)) (O__law_pick:Ok P w K mg base "_law_pick" N5 2 2 X2 (upc L5)) (hr:Room 2 (A.deeper (envOfC "_law_any_sizes" (defScope U9) s.heap.objs.size f cdv))) (gk:G.K=K) (tk:Takes (bx P w K mg base A43 "_law_any_sizes" (defScope U9) f cdv A outer s H EX) (cW G E)):
    ASs (bx P w K mg base A43 "_law_any_sizes" (defScope U9) f cdv A outer s H EX) G (defBody U9) (A3E E):=by
  subst gk
  have gk:G.K=G.K:=rfl
  have sc:=A7I
  have hu:=hr.units
  exact (F0 (G7 (F7 gk O__law_sizes B1p hr (by decide) rfl tk (B7 (A4 (A3 (pv 0))) (B7 (A4 ae_int) (B7 (A4 (F7 gk O__law_pick y9 hr (by decide) rfl tk (B7 (A4 (A3 (pv 0))) (B7 (A4 (W5 (B6 (A4 ae_int) (B6 (A4 ae_int) (B6 (A4 ae_int) (B6 (A4 ae_int) L8)))))) F6)))) F6))))))
theorem B1e {P:Program} {w:World} {K:PySem.W.Frag} {mg:Str→Option Value} {base:Heap} {f:Addr} {cdv:Value} {A:Around} {outer:List Env} {s:Shared} {H:Hp} {EX:XK} {G:Gx} {E:AExc→A1→AH→Prop} (Z:Blt K w mg) (O__law_take:Ok P w K mg base "_law_take" M5 1 2 R5 (upc D2)) (O__law_pick:Ok P w K mg base "_law_pick" N5 2 2 X2 (upc L5)) (hr:Room 2 (A.deeper (envOfC "_law_number" (defScope V0) s.heap.objs.size f cdv))) (gk:G.K=K) (tk:Takes (bx P w K mg base A44 "_law_number" (defScope V0) f cdv A outer s H EX) (cW G E)):
    ASs (bx P w K mg base A44 "_law_number" (defScope V0) f cdv A outer s H EX) G (defBody V0) (A3L E):=by
  subst gk
  have gk:G.K=G.K:=rfl
  have sc:=A7S
  have hu:=hr.units
  exact (D4 (K9 (A4 (W5 (B6 (A4 ae_int) (B6 (A4 ae_int) (B6 (A4 ae_int) (B6 (A4 ae_int) (B6 (A4 (N6 gk ae_int (F7 gk O__law_take R7 hr (by decide) rfl tk (B7 (A4 (A3 (pv 0))) (B7 (A4 ae_int) F6))))) (B6 (A4 (F7 gk O__law_take R7 hr (by decide) rfl tk (B7 (A4 (A3 (pv 0))) (B7 (A4 ae_int) F6)))) (B6 (A4 (A9k (A5r ae_int ae_int) ae_int)) (B6 (A4 (F7 gk O__law_take R7 hr (by decide) rfl tk (B7 (A4 (A3 (pv 0))) (B7 (A4 (A5r ae_int ae_int)) F6)))) L8)))))))))) (H9 (i:=1) sc.nd rfl (by first | exact .inl rfl | exact .inr rfl)))
    (F0 (G7 (F7 gk O__law_pick y9 hr (by decide) rfl tk (B7 (A4 (A3 (pv 0))) (B7 (A4 (A3 (pv 1))) F6))))))
theorem B1N {P:Program} {w:World} {K:PySem.W.Frag} {mg:Str→Option Value} {base:Heap} {f:Addr} {cdv:Value} {A:Around} {outer:List Env} {s:Shared} {H:Hp} {EX:XK} {G:Gx} {E:AExc→A1→AH→Prop} (Z:Blt K w mg) (O__law_take:Ok P w K mg base "_law_take" M5 1 2 R5 (upc D2)) (hr:Room 1 (A.deeper (envOfC "_law_shuffled" (defScope T7) s.heap.objs.size f cdv))) (gk:G.K=K) (tk:Takes (bx P w K mg base A3F "_law_shuffled" (defScope T7) f cdv A outer s H EX) (cW G E)):
    ASs (bx P w K mg base A3F "_law_shuffled" (defScope T7) f cdv A outer s H EX) G (defBody T7) (A3G E):=by
  subst gk
  have gk:G.K=G.K:=rfl
  have sc:=A7L
  have hu:=hr.units
  exact (D4 (A38 (i:=2) sc.nd rfl (by first | exact .inl rfl | exact .inr rfl) (c6 call_list_of A9f rfl Z.n_list A3u (C5 (A3 (pv 1)) D7)))
    (F0 (G7 (X5 (own:=[("_law_thing",3)]) rfl sc.nd (A06 gk (A4 (A3 (pv 1)))) (blkOk_by (by first | (show blkC A3F (defScope T7) _ _=true;decide+kernel) | rfl)) (by decide) (fun _ _ _ _ _=> (H9 (i:=3) sc.nd rfl (by first | exact .inl rfl | exact .inr rfl))) (fun _ _ _ _ _=> X3) (fun _ _ _ _ _=> (A4 (A6V gk A8U PySem.F.plainAttrs_list PySem.F.slot_list_pop PySem.F.type_list_pop mt_popAt (A3 (pv 2)) (B6 (A4 (F7 gk O__law_take R7 hr (by decide) rfl A2Z (B7 (A4 (A3 (pv 0))) (B7 (A4 (G4 call_len M8 rfl Z.n_len M9 (C5 (A3 (pv 2)) D7))) F6)))) L8))))))))
theorem B1B {P:Program} {w:World} {K:PySem.W.Frag} {mg:Str→Option Value} {base:Heap} {f:Addr} {cdv:Value} {A:Around} {outer:List Env} {s:Shared} {H:Hp} {EX:XK} {G:Gx} {E:AExc→A1→AH→Prop} (Z:Blt K w mg) (O__law_shuffled:Ok P w K mg base "_law_shuffled" T7 2 2 A1x (upc A0a)) (hr:Room 2 (A.deeper (envOfC "_law_some_casks" (defScope U8) s.heap.objs.size f cdv))) (gk:G.K=K) (tk:Takes (bx P w K mg base A42 "_law_some_casks" (defScope U8) f cdv A outer s H EX) (cW G E)):
    ASs (bx P w K mg base A42 "_law_some_casks" (defScope U8) f cdv A outer s H EX) G (defBody U8) (A3D E):=by
  subst gk
  have gk:G.K=G.K:=rfl
  have sc:=A7F
  have hu:=hr.units
  exact (F0 (G7 (c6 call_tuple_of A34 rfl Z.n_tuple A1H (C5 (u7 gk (F7 gk O__law_shuffled B1O hr (by decide) rfl tk (B7 (A4 (A3 (pv 0))) (B7 (A4 (B49 rfl rfl Z.n_list rfl Z.n_range (A3 (pv 1)))) F6))) v4 (v3 (A3 (pv 2)))) D7))))
theorem B1n {P:Program} {w:World} {K:PySem.W.Frag} {mg:Str→Option Value} {base:Heap} {f:Addr} {cdv:Value} {A:Around} {outer:List Env} {s:Shared} {H:Hp} {EX:XK} {G:Gx} {E:AExc→A1→AH→Prop} (Z:Blt K w mg) (hr:Room 0 (A.deeper (envOfC "_law_alike" (defScope R4) s.heap.objs.size f cdv))) (gk:G.K=K) (tk:Takes (bx P w K mg base A18 "_law_alike" (defScope R4) f cdv A outer s H EX) (cW G E)):
    ASs (bx P w K mg base A18 "_law_alike" (defScope R4) f cdv A outer s H EX) G (defBody R4) (A3Q E):=by
  subst gk
  have gk:G.K=G.K:=rfl
  have sc:=A7Y
  have hu:=hr.units
  exact (D4 (A38 (i:=1) sc.nd rfl (by first | exact .inl rfl | exact .inr rfl) (W5 L8))
    (D4 (A9c (passes_of rfl) rfl (A2Q rfl Z.n_range (C5 (G4 call_len M8 rfl Z.n_len M9 (C5 (A3 (pv 0)) D7)) D7)) (H9 (i:=2) sc.nd rfl (by first | exact .inl rfl | exact .inr rfl)) (D4 (B4M (i:=3) (own:=[("_law_at",4)]) rfl sc.nd rfl rfl rfl (A2Q rfl Z.n_range (C5 (G4 call_len M8 rfl Z.n_len M9 (C5 (A3 (pv 0)) D7)) D7)) (blkOk_by (by first | (show blkC A18 (defScope R4) _ _=true;decide+kernel) | rfl)) (by decide) (fun _ _ _ _ _=> (H9 (i:=4) sc.nd rfl (by first | exact .inl rfl | exact .inr rfl))) (fun _ _ _ _ _=> (B4f (AW.ap (A36 (A1b gk hu (A3 (pv 4)) (A3 (pv 2))) (A3s (W7 gk hu (J0 gk (A3 (pv 0)) (A3 (pv 4)) (fun _ _=> rfl)) (J0 gk (A3 (pv 0)) (A3 (pv 2)) (fun _ _=> rfl)))))))) (fun _ _ _ _ _=> (A4 (A3 (pv 4)))))
    (F0 (A9I 3 (A5X (B5t (A3 (pv 1)) (X5 (own:=[("_law_at",4)]) rfl sc.nd (A06 gk (A4 (A3 (pv 3)))) (blkOk_by (by first | (show blkC A18 (defScope R4) _ _=true;decide+kernel) | rfl)) (by decide) (fun _ _ _ _ _=> (H9 (i:=4) sc.nd rfl (by first | exact .inl rfl | exact .inr rfl))) (fun _ _ _ _ _=> X3) (fun _ _ _ _ _=> (A4 (p8 (B6 (A4 (A3 (pv 2))) (B6 (A4 (A3 (pv 4))) L8))))))))))))
    (F0 (G7 (A3 (pv 1))))))
theorem B13 {P:Program} {w:World} {K:PySem.W.Frag} {mg:Str→Option Value} {base:Heap} {f:Addr} {cdv:Value} {A:Around} {outer:List Env} {s:Shared} {H:Hp} {EX:XK} {G:Gx} {E:AExc→A1→AH→Prop} (Z:Blt K w mg) (O__law_take:Ok P w K mg base "_law_take" M5 1 2 R5 (upc D2)) (O__law_alike:Ok P w K mg base "_law_alike" R4 1 1 A2E (upc A0g)) (O__law_pick:Ok P w K mg base "_law_pick" N5 2 2 X2 (upc L5)) (O__law_some_casks:Ok P w K mg base "_law_some_casks" U8 3 3 A1u (upc i5)) (hr:Room 3 (A.deeper (envOfC "_law_deed" (defScope V4) s.heap.objs.size f cdv))) (gk:G.K=K) (tk:Takes (bx P w K mg base A5D "_law_deed" (defScope V4) f cdv A outer s H EX) (cW G E)):
    ASs (bx P w K mg base A5D "_law_deed" (defScope V4) f cdv A outer s H EX) G (defBody V4) (A3S E):=by
  subst gk
  have gk:G.K=G.K:=rfl
  have sc:=A7g
  have hu:=hr.units
  exact (D4 (K9 (A4 (F7 gk O__law_take R7 hr (by decide) rfl tk (B7 (A4 (A3 (pv 0))) (B7 (A4 ae_int) F6)))) (H9 (i:=4) sc.nd rfl (by first | exact .inl rfl | exact .inr rfl)))
    (D4 (K9 (A4 (F7 gk O__law_alike B1v hr (by decide) rfl tk (B7 (A4 (A3 (pv 1))) F6))) (H9 (i:=5) sc.nd rfl (by first | exact .inl rfl | exact .inr rfl)))
    (D4 (L9 (AW.ap (A36 (W7 gk hu (A3 (pv 4)) ae_int) (A3s (A1b gk hu (A3 (pv 5)) (W5 L8))))) (F0 (G7 (N6 gk (p8 (B6 (A4 E9) L8)) (F7 gk O__law_pick y9 hr (by decide) rfl tk (B7 (A4 (A3 (pv 0))) (B7 (A4 (A3 (pv 5))) F6)))))) M1)
    (D4 (L9 (AW.ap (A36 (A6R (A3 (pv 4)) ae_int) (A3s (Z5 (A3 (pv 3)))))) (F0 (G7 (p8 (B6 (A4 E9) (B6 (A4 (F7 gk O__law_pick y9 hr (by decide) rfl tk (B7 (A4 (A3 (pv 0))) (B7 (A4 (W5 (B6 (A4 ae_int) (B6 (A4 ae_int) (B6 (A4 ae_int) (B6 (A4 ae_int) (B6 (A4 (A3 (pv 2))) L8))))))) F6)))) (B6 (A4 (F7 gk O__law_take R7 hr (by decide) rfl tk (B7 (A4 (A3 (pv 0))) (B7 (A4 (G4 call_len M8 rfl Z.n_len M9 (C5 (A3 (pv 1)) D7))) F6)))) L8)))))) M1)
    (D4 (L9 (AW.ap (A0O (W7 gk hu (A3 (pv 4)) ae_int) (A04 (W7 gk hu (G4 call_len M8 rfl Z.n_len M9 (C5 (A3 (pv 1)) D7)) ae_int)))) (F0 (G7 (p8 (B6 (A4 E9) (B6 (A4 (A3 (pv 2))) (B6 (A4 (F7 gk O__law_take R7 hr (by decide) rfl tk (B7 (A4 (A3 (pv 0))) (B7 (A4 (G4 call_len M8 rfl Z.n_len M9 (C5 (A3 (pv 1)) D7))) F6)))) L8)))))) M1)
    (D4 (K9 (A4 (N6 gk ae_int (F7 gk O__law_take R7 hr (by decide) rfl tk (B7 (A4 (A3 (pv 0))) (B7 (A4 (A9k (G4 call_len M8 rfl Z.n_len M9 (C5 (A3 (pv 1)) D7)) ae_int)) F6))))) (H9 (i:=6) sc.nd rfl (by first | exact .inl rfl | exact .inr rfl)))
    (D4 (K9 (A4 (J0 gk (W5 (B6 (A4 E9) (B6 (A4 E9) L8))) (A5a (F7 gk O__law_take R7 hr (by decide) rfl tk (B7 (A4 (A3 (pv 0))) (B7 (A4 ae_int) F6))) ae_int) (fun _ _=> rfl))) (H9 (i:=7) sc.nd rfl (by first | exact .inl rfl | exact .inr rfl)))
    (F0 (G7 (N6 gk (p8 (B6 (A4 (A3 (pv 7))) (B6 (A4 (A3 (pv 2))) L8))) (F7 gk O__law_some_casks B1A hr (by decide) rfl tk (B7 (A4 (A3 (pv 0))) (B7 (A4 (G4 call_len M8 rfl Z.n_len M9 (C5 (A3 (pv 1)) D7))) (B7 (A4 (A3 (pv 6))) F6))))))))))))))
theorem B1C {P:Program} {w:World} {K:PySem.W.Frag} {mg:Str→Option Value} {base:Heap} {f:Addr} {cdv:Value} {A:Around} {outer:List Env} {s:Shared} {H:Hp} {EX:XK} {G:Gx} {E:AExc→A1→AH→Prop} (Z:Blt K w mg) (hr:Room 0 (A.deeper (envOfC "_law_is_figures" (defScope T6) s.heap.objs.size f cdv))) (gk:G.K=K) (tk:Takes (bx P w K mg base A3B "_law_is_figures" (defScope T6) f cdv A outer s H EX) (cW G E)):
    ASs (bx P w K mg base A3B "_law_is_figures" (defScope T6) f cdv A outer s H EX) G (defBody T6) (A3C E):=by
  subst gk
  have gk:G.K=G.K:=rfl
  have sc:=A7G
  have hu:=hr.units
  exact (D4 (L9 (AW.ap (A0O (c9 (A35 op_le op_le ae_int (G4 call_len M8 rfl Z.n_len M9 (C5 (A3 (pv 0)) D7)) ae_int)) (A04 (c9 (Z5 (G4 (cr_all rfl) A01 rfl Z.n_all A0x (C5 (X5 (own:=[("_law_sign",1)]) rfl sc.nd (A4A (A3 (pv 0))) (blkOk_by (by first | (show blkC A3B (defScope T6) _ _=true;decide+kernel) | rfl)) (by decide) (fun _ _ _ _ _=> (H9 (i:=1) sc.nd rfl (by first | exact .inl rfl | exact .inr rfl))) (fun _ _ _ _ _=> X3) (fun _ _ _ _ _=> (A4 (A32 (A3 (pv 1)) E9)))) D7))))))) (F0 (G7 A09)) M1)
    (F0 (G7 (B0G (A1e gk hu (A3 (pv 0)) E9) (A9V (A9w gk hu (J0 gk (A3 (pv 0)) ae_int (fun _ _=> rfl)) E9))))))
theorem B1V {P:Program} {w:World} {K:PySem.W.Frag} {mg:Str→Option Value} {base:Heap} {f:Addr} {cdv:Value} {A:Around} {outer:List Env} {s:Shared} {H:Hp} {EX:XK} {G:Gx} {E:AExc→A1→AH→Prop} (Z:Blt K w mg) (hr:Room 0 (A.deeper (envOfC "_law_is_name" (defScope T8) s.heap.objs.size f cdv))) (gk:G.K=K) (tk:Takes (bx P w K mg base A3I "_law_is_name" (defScope T8) f cdv A outer s H EX) (cW G E)):
    ASs (bx P w K mg base A3I "_law_is_name" (defScope T8) f cdv A outer s H EX) G (defBody T8) (A3J E):=by
  subst gk
  have gk:G.K=G.K:=rfl
  have sc:=A7M
  have hu:=hr.units
  exact (F0 (G7 (A0J (A9R op_le op_le ae_int (G4 call_len M8 rfl Z.n_len M9 (C5 (A3 (pv 0)) D7)) ae_int) (A1N (G4 (cr_all rfl) A01 rfl Z.n_all A0x (C5 (X5 (own:=[("_law_sign",1)]) rfl sc.nd (A4A (A3 (pv 0))) (blkOk_by (by first | (show blkC A3I (defScope T8) _ _=true;decide+kernel) | rfl)) (by decide) (fun _ _ _ _ _=> (H9 (i:=1) sc.nd rfl (by first | exact .inl rfl | exact .inr rfl))) (fun _ _ _ _ _=> X3) (fun _ _ _ _ _=> (A4 (A32 (A3 (pv 1)) E9)))) D7))))))
theorem B2A {P:Program} {w:World} {K:PySem.W.Frag} {mg:Str→Option Value} {base:Heap} {f:Addr} {cdv:Value} {A:Around} {outer:List Env} {s:Shared} {H:Hp} {EX:XK} {G:Gx} {E:AExc→A1→AH→Prop} (Z:Blt K w mg) (O__law_is_name:Ok P w K mg base "_law_is_name" T8 1 1 A11 (upc A0b)) (O__law_is_figures:Ok P w K mg base "_law_is_figures" T6 1 1 A1s (upc a9)) (hr:Room 1 (A.deeper (envOfC "_law_read" (defScope R8) s.heap.objs.size f cdv))) (gk:G.K=K) (tk:Takes (bx P w K mg base A2H "_law_read" (defScope R8) f cdv A outer s H EX) (cW G E)):
    ASs (bx P w K mg base A2H "_law_read" (defScope R8) f cdv A outer s H EX) G (defBody R8) (A3U E):=by
  subst gk
  have gk:G.K=G.K:=rfl
  have sc:=A7q
  have hu:=hr.units
  exact (D4 (K9 (A4 (A5M (A3 (pv 0)) E9)) (H9 (i:=1) sc.nd rfl (by first | exact .inl rfl | exact .inr rfl)))
    (D4 (L9 (W7 gk hu (J0 gk (A3 (pv 1)) ae_int (fun _ _=> rfl)) E9) (D4 (K9 (A4 (A0J (A1e gk hu (G4 call_len M8 rfl Z.n_len M9 (C5 (A3 (pv 1)) D7)) ae_int) (A0J (F7 gk O__law_is_name B1W hr (by decide) rfl tk (B7 (A4 (J0 gk (A3 (pv 1)) ae_int (fun _ _=> rfl))) F6)) (A1N (F7 gk O__law_is_figures A7E hr (by decide) rfl tk (B7 (A4 (J0 gk (A3 (pv 1)) ae_int (fun _ _=> rfl))) F6)))))) (H9 (i:=2) sc.nd rfl (by first | exact .inl rfl | exact .inr rfl)))
    (F0 (G7 (A6S (Z5 (A3 (pv 2))) (p8 (B6 (A4 E9) (B6 (A4 (J0 gk (A3 (pv 1)) ae_int (fun _ _=> rfl))) (B6 (A4 (c6 call_int_str A3r rfl Z.n_int A1R (C5 (J0 gk (A3 (pv 1)) ae_int (fun _ _=> rfl)) D7))) L8)))) p9)))) M1)
    (D4 (K9 (A4 (B4N hu (B4q (A2b (A4 E9) (A4 ae_int) (A2b (A4 E9) (A4 ae_int) (A2b (A4 E9) (A4 ae_int) (A2b (A4 E9) (A4 ae_int) (A2b (A4 E9) (A4 ae_int) B5j))))) (List.cons_ne_nil _ _) (Nat.le_of_ble_eq_true rfl)) (A4 (J0 gk (A3 (pv 1)) ae_int (fun _ _=> rfl))) (A4 ae_int) ⟨rfl,rfl,rfl,rfl⟩)) (H9 (i:=3) sc.nd rfl (by first | exact .inl rfl | exact .inr rfl)))
    (D4 (L9 (AW.ap (A0O (c9 (A35 op_le op_le (A6S (W7 gk hu (A3 (pv 3)) ae_int) ae_int ae_int) (G4 call_len M8 rfl Z.n_len M9 (C5 (A3 (pv 1)) D7)) (A3 (pv 3)))) (A04 (c9 (Z5 (G4 (cr_all rfl) A01 rfl Z.n_all A0x (C5 (X5 (own:=[("_law_word",4)]) rfl sc.nd (A06 gk (A4 (u7 gk (A3 (pv 1)) (v3 ae_int) v4))) (blkOk_by (by first | (show blkC A2H (defScope R8) _ _=true;decide+kernel) | rfl)) (by decide) (fun _ _ _ _ _=> (H9 (i:=4) sc.nd rfl (by first | exact .inl rfl | exact .inr rfl))) (fun _ _ _ _ _=> X3) (fun _ _ _ _ _=> (A4 (F7 gk O__law_is_figures A7E hr (by decide) rfl A2Z (B7 (A4 (A3 (pv 4))) F6))))) D7))))))) (F0 (G7 p9)) M1)
    (F0 (G7 (c6 call_tuple_of A34 rfl Z.n_tuple A1H (C5 (N6 gk (u7 gk (A3 (pv 1)) v4 (v3 ae_int)) (X5 (own:=[("_law_word",4)]) rfl sc.nd (A06 gk (A4 (u7 gk (A3 (pv 1)) (v3 ae_int) v4))) (blkOk_by (by first | (show blkC A2H (defScope R8) _ _=true;decide+kernel) | rfl)) (by decide) (fun _ _ _ _ _=> (H9 (i:=4) sc.nd rfl (by first | exact .inl rfl | exact .inr rfl))) (fun _ _ _ _ _=> X3) (fun _ _ _ _ _=> (A4 (c6 call_int_str A3r rfl Z.n_int A1R (C5 (A3 (pv 4)) D7)))))) D7))))))))
theorem B2G {P:Program} {w:World} {K:PySem.W.Frag} {mg:Str→Option Value} {base:Heap} {f:Addr} {cdv:Value} {A:Around} {outer:List Env} {s:Shared} {H:Hp} {EX:XK} {G:Gx} {E:AExc→A1→AH→Prop} (Z:Blt K w mg) (O__law_take:Ok P w K mg base "_law_take" M5 1 2 R5 (upc D2)) (O__law_pick:Ok P w K mg base "_law_pick" N5 2 2 X2 (upc L5)) (hr:Room 2 (A.deeper (envOfC "_law_bent" (defScope V1) s.heap.objs.size f cdv))) (gk:G.K=K) (tk:Takes (bx P w K mg base A47 "_law_bent" (defScope V1) f cdv A outer s H EX) (cW G E)):
    ASs (bx P w K mg base A47 "_law_bent" (defScope V1) f cdv A outer s H EX) G (defBody V1) (A3H E):=by
  subst gk
  have gk:G.K=G.K:=rfl
  have sc:=A7h
  have hu:=hr.units
  exact (D4 (A38 (i:=2) sc.nd rfl (by first | exact .inl rfl | exact .inr rfl) (A5M (A3 (pv 1)) E9))
    (D4 (B50 (i:=3) (j:=4) rfl sc.nd rfl rfl (by decide) rfl rfl (B6 (A4 (F7 gk O__law_take R7 hr (by decide) rfl tk (B7 (A4 (A3 (pv 0))) (B7 (A4 (G4 call_len M8 rfl Z.n_len M9 (C5 (A3 (pv 2)) D7))) F6)))) (B6 (A4 (F7 gk O__law_take R7 hr (by decide) rfl tk (B7 (A4 (A3 (pv 0))) (B7 (A4 (G4 call_len M8 rfl Z.n_len M9 (C5 (A3 (pv 2)) D7))) F6)))) L8)) rfl)
    (D4 (K9 (A4 (F7 gk O__law_take R7 hr (by decide) rfl tk (B7 (A4 (A3 (pv 0))) (B7 (A4 (N6 gk (G4 call_len M8 rfl Z.n_len M9 (C5 (A3 (pv 1)) D7)) ae_int)) F6)))) (H9 (i:=5) sc.nd rfl (by first | exact .inl rfl | exact .inr rfl)))
    (D4 (K9 (A4 (F7 gk O__law_take R7 hr (by decide) rfl tk (B7 (A4 (A3 (pv 0))) (B7 (A4 ae_int) F6)))) (H9 (i:=6) sc.nd rfl (by first | exact .inl rfl | exact .inr rfl)))
    (D4 (L9 (W7 gk hu (A3 (pv 6)) ae_int) (F0 (G7 (N6 gk (N6 gk (u7 gk (A3 (pv 1)) v4 (v3 (A3 (pv 5)))) (F7 gk O__law_pick y9 hr (by decide) rfl tk (B7 (A4 (A3 (pv 0))) (B7 (A4 (W5 (B6 (A4 E9) (B6 (A4 E9) (B6 (A4 E9) (B6 (A4 E9) (B6 (A4 E9) (B6 (A4 E9) L8)))))))) F6)))) (u7 gk (A3 (pv 1)) (v3 (A3 (pv 5))) v4)))) M1)
    (D4 (L9 (W7 gk hu (A3 (pv 6)) ae_int) (F0 (G7 (N6 gk (u7 gk (A3 (pv 1)) v4 (v3 (A3 (pv 5)))) (u7 gk (A3 (pv 1)) (v3 (N6 gk (A3 (pv 5)) ae_int)) v4)))) M1)
    (D4 (L9 (W7 gk hu (A3 (pv 6)) ae_int) (F0 (K9 (A4 (p8 (B6 (A4 (J0 gk (A3 (pv 2)) (A3 (pv 4)) (fun _ _=> rfl))) (B6 (A4 (J0 gk (A3 (pv 2)) (A3 (pv 3)) (fun _ _=> rfl))) L8)))) (B5l gk rfl (A8S (r9 (A3 (pv 2)) (A3 (pv 3)) (pg_sub (A3 (pv 2)).pe (A3 (pv 3)).pe set_list)) (A8S (r9 (A3 (pv 2)) (A3 (pv 4)) (pg_sub (A3 (pv 2)).pe (A3 (pv 4)).pe set_list)) B5B))))) M1)
    (D4 (L9 (W7 gk hu (A3 (pv 6)) ae_int) (D4 (K9 (A4 (W5 (B6 (A4 E9) (B6 (A4 E9) (B6 (A4 E9) (B6 (A4 E9) (B6 (A4 (A5O E9 ae_int)) (B6 (A4 (N6 gk E9 (A5O E9 ae_int))) (B6 (A4 E9) (B6 (A4 E9) (B6 (A4 E9) L8))))))))))) (H9 (i:=7) sc.nd rfl (by first | exact .inl rfl | exact .inr rfl)))
    (F0 (A5X (A6V gk B3I PySem.F.plainAttrs_list PySem.F.slot_list_insert PySem.F.type_list_insert B47 (A3 (pv 2)) (B6 (A4 (A3 (pv 3))) (B6 (A4 (F7 gk O__law_pick y9 hr (by decide) rfl tk (B7 (A4 (A3 (pv 0))) (B7 (A4 (A3 (pv 7))) F6)))) L8)))))) M1)
    (D4 (L9 (W7 gk hu (A3 (pv 6)) ae_int) (F0 (A5X (A6V gk A8U PySem.F.plainAttrs_list PySem.F.slot_list_pop PySem.F.type_list_pop mt_popAt (A3 (pv 2)) (B6 (A4 (A3 (pv 3))) L8)))) M1)
    (D4 (L9 (W7 gk hu (A3 (pv 6)) ae_int) (F0 (K9 (A4 (F7 gk O__law_pick y9 hr (by decide) rfl tk (B7 (A4 (A3 (pv 0))) (B7 (A4 (W5 (B6 (A4 E9) (B6 (A4 E9) (B6 (A4 E9) (B6 (A4 E9) (B6 (A4 (A5O E9 ae_int)) (B6 (A4 E9) (B6 (A4 E9) (B6 (A4 E9) L8)))))))))) F6)))) (r9 (A3 (pv 2)) (A3 (pv 3)) (pg_sub (A3 (pv 2)).pe (A3 (pv 3)).pe set_list)))) M1)
    (F0 (G7 (A84 gk E9 (A3 (pv 2)))))))))))))))
theorem B6S {P:Program} {w:World} {K:PySem.W.Frag} {mg:Str→Option Value} {base:Heap} {f:Addr} {cdv:Value} {A:Around} {outer:List Env} {s:Shared} {H:Hp} {EX:XK} {G:Gx} {E:AExc→A1→AH→Prop} (Z:Blt K w mg) (O__law_open:Ok P w K mg base "_law_open" V3 1 1 A2F (upc A0k)) (O__law_any_sizes:Ok P w K mg base "_law_any_sizes" U9 3 1 A1v (upc A0Z)) (O__law_deed:Ok P w K mg base "_law_deed" V4 4 4 A2I (upc A0j)) (O__law_number:Ok P w K mg base "_law_number" V0 3 1 A13 (upc u4)) (O__law_take:Ok P w K mg base "_law_take" M5 1 2 R5 (upc D2)) (O__law_pick:Ok P w K mg base "_law_pick" N5 2 2 X2 (upc L5)) (O__law_bent:Ok P w K mg base "_law_bent" V1 3 2 A2J (upc A0d)) (O__law_read:Ok P w K mg base "_law_read" R8 2 1 A2G (upc A0l)) (O_read_step:Ok P w K mg base "read_step" V2 4 1 A2L (upc A0c)) (O__law_same:Ok P w K mg base "_law_same" R6 9 2 A0i (upc (m__law_same 8))) (hr:Room 9 (A.deeper (envOfC "law" (defScope X8) s.heap.objs.size f cdv))) (gk:G.K=K) (tk:Takes (bx P w K mg base A4K "law" (defScope X8) f cdv A outer s H EX) (cW G E)):
    ASs (bx P w K mg base A4K "law" (defScope X8) f cdv A outer s H EX) G (defBody X8) (A4T E):=by
  subst gk
  have gk:G.K=G.K:=rfl
  have sc:=A9v
  have hu:=hr.units
  exact (D4 (A38 (i:=1) sc.nd rfl (by first | exact .inl rfl | exact .inr rfl) (F7 gk O__law_open B14 hr (by decide) rfl tk (B7 (A4 (A3 (pv 0))) F6)))
    (D4 (B5Q 1 (A9c (passes_of rfl) rfl (A2Q rfl Z.n_range (C5 ae_int D7)) (H9 (i:=2) sc.nd rfl (by first | exact .inl rfl | exact .inr rfl)) (D4 (K9 (A4 (F7 gk O__law_any_sizes B1I hr (by decide) rfl tk (B7 (A4 (A3 (pv 1))) F6))) (H9 (i:=3) sc.nd rfl (by first | exact .inl rfl | exact .inr rfl)))
    (D4 (K9 (A4 (F7 gk O__law_deed B2O hr (by decide) rfl tk (B7 (A4 (A3 (pv 1))) (B7 (A4 (A3 (pv 3))) (B7 (A4 (F7 gk O__law_number A7P hr (by decide) rfl tk (B7 (A4 (A3 (pv 1))) F6))) (B7 (A4 A09) F6)))))) (H9 (i:=4) sc.nd rfl (by first | exact .inl rfl | exact .inr rfl)))
    (D4 (L9 (W7 gk hu (F7 gk O__law_take R7 hr (by decide) rfl tk (B7 (A4 (A3 (pv 1))) (B7 (A4 ae_int) F6))) ae_int) (F0 (K9 (A4 (p8 (B6 (A4 E9) (B6 (A4 (F7 gk O__law_pick y9 hr (by decide) rfl tk (B7 (A4 (A3 (pv 1))) (B7 (A4 (W5 (B6 (A4 E9) (B6 (A4 E9) (B6 (A4 E9) (B6 (A4 E9) L8)))))) F6)))) (B6 (A4 (F7 gk O__law_number A7P hr (by decide) rfl tk (B7 (A4 (A3 (pv 1))) F6))) L8))))) (H9 (i:=4) sc.nd rfl (by first | exact .inl rfl | exact .inr rfl)))) M1)
    (D4 (K9 (A4 (F7 gk O__law_bent B2T hr (by decide) rfl tk (B7 (A4 (A3 (pv 1))) (B7 (A4 (A84 gk E9 (X5 (own:=[("_law_thing",6)]) rfl sc.nd (A06 gk (A4 (A3 (pv 4)))) (blkOk_by (by first | (show blkC A4K (defScope X8) _ _=true;decide+kernel) | rfl)) (by decide) (fun _ _ _ _ _=> (H9 (i:=6) sc.nd rfl (by first | exact .inl rfl | exact .inr rfl))) (fun _ _ _ _ _=> X3) (fun _ _ _ _ _=> (A4 (c6 B3Y B4w rfl Z.n_str A5s (C5 (A3 (pv 6)) D7))))))) F6)))) (H9 (i:=5) sc.nd rfl (by first | exact .inl rfl | exact .inr rfl)))
    (D4 (K9 (A4 (F7 gk O__law_read B2C hr (by decide) rfl tk (B7 (A4 (A3 (pv 5))) F6))) (H9 (i:=7) sc.nd rfl (by first | exact .inl rfl | exact .inr rfl)))
    (D4 (K9 (A4 E9) (H9 (i:=8) sc.nd rfl (by first | exact .inl rfl | exact .inr rfl)))
    (D4 (K9 (A4 p9) (H9 (i:=9) sc.nd rfl (by first | exact .inl rfl | exact .inr rfl)))
    (D4 (B5s gk rfl rfl sc.nd tk (fun pn xe G E gk gl tk=> by exact (F0 (K9 (A4 (F7 gk O_read_step B2X hr (by decide) rfl tk (B7 (A4 (A3 (pv 5))) F6))) (H9 (i:=9) sc.nd rfl (by first | exact .inl rfl | exact .inr rfl))))) (HdA.cons rfl rfl rfl Z.h_BadText Z.x_BadText rfl (by first | exact .inl rfl | exact .inr rfl) (by first | exact .inl rfl | exact .inr rfl) (by decide) (fun G gk=> (B5v gk Z.f_row rfl (by first | exact .inl rfl | exact .inr (.inl rfl) | exact .inr (.inr rfl)))) rfl rfl rfl rfl HdA.nil))
    (F0 (L9 (c9 (Z5 (F7 gk O__law_same A7p hr (by decide) rfl tk (B7 (A4 (W5 (B6 (A4 (A3 (pv 9))) (B6 (A4 (A3 (pv 8))) L8)))) (B7 (A4 (W5 (B6 (A4 (A3 (pv 7))) (B6 (A4 (A6S (B4d (A3 (pv 7)) p9) E9 ae_int)) L8)))) F6))))) (F0 (G7 A09)) M1))))))))))))
    (F0 (G7 A09))))
end Ab
namespace Ab
open PySem PySem.Spec PyProof.Rows L2 RZ
theorem B26 {P:Program} {w:World} {K:PySem.W.Frag} {mg:Str→Option Value} {base:Heap} {f:Addr} {fd:FuncData} (Z:Blt K w mg) (F:FunD K "is_name" "is_name" (defArgs U0) (defBody U0) (defScope U0) [] [] f fd) (hm:mg "is_name"=some (.ref f)):Ok P w K mg base "is_name" U0 1 1 A2U (upc A0o):=
  Ok.mk' upc.m hm F A8C rfl (fun cdv A outer s H EX G E hr gk tk=> B2x Z hr gk tk) B3V
theorem B1x {P:Program} {w:World} {K:PySem.W.Frag} {mg:Str→Option Value} {base:Heap} {f:Addr} {fd:FuncData} (Z:Blt K w mg) (F:FunD K "is_figures" "is_figures" (defArgs Q5) (defBody Q5) (defScope Q5) [] [] f fd) (hm:mg "is_figures"=some (.ref f)):Ok P w K mg base "is_figures" Q5 1 1 A0e (upc Y4):=
  Ok.mk' upc.m hm F A7U rfl (fun cdv A outer s H EX G E hr gk tk=> B1r Z hr gk tk) B1l
theorem B2z {P:Program} {w:World} {K:PySem.W.Frag} {mg:Str→Option Value} {base:Heap} {f:Addr} {fd:FuncData} (Z:Blt K w mg) (F:FunD K "call_in" "call_in" (defArgs V5) (defBody V5) (defScope V5) [] [] f fd) (hm:mg "call_in"=some (.ref f)) (O_is_name:Ok P w K mg base "is_name" U0 1 1 A2U (upc A0o)) (O_is_figures:Ok P w K mg base "is_figures" Q5 1 1 A0e (upc Y4)):Ok P w K mg base "call_in" V5 2 1 A2R (upc z9):=
  Ok.mk' upc.m hm F A78 rfl (fun cdv A outer s H EX G E hr gk tk=> B3J Z O_is_name O_is_figures hr gk tk) B3G
theorem B3X {P:Program} {w:World} {K:PySem.W.Frag} {mg:Str→Option Value} {base:Heap} {f:Addr} {fd:FuncData} (Z:Blt K w mg) (F:FunD K "step_in" "step_in" (defArgs R9) (defBody R9) (defScope R9) [] [] f fd) (hm:mg "step_in"=some (.ref f)) (O_call_in:Ok P w K mg base "call_in" V5 2 1 A2R (upc z9)) (O_is_figures:Ok P w K mg base "is_figures" Q5 1 1 A0e (upc Y4)):Ok P w K mg base "step_in" R9 3 1 A2T (upc z8):=
  Ok.mk' upc.m hm F A76 rfl (fun cdv A outer s H EX G E hr gk tk=> B3D Z O_call_in O_is_figures hr gk tk) B28
theorem B2W {P:Program} {w:World} {K:PySem.W.Frag} {mg:Str→Option Value} {base:Heap} {f:Addr} {fd:FuncData} (Z:Blt K w mg) (F:FunD K "read_step" "read_step" (defArgs V2) (defBody V2) (defScope V2) [] [] f fd) (hm:mg "read_step"=some (.ref f)) (O_step_in:Ok P w K mg base "step_in" R9 3 1 A2T (upc z8)) (R_BadText:XkOk P w K mg base "BadText" "bad text" ["row"]):Ok P w K mg base "read_step" V2 4 1 A2L (upc A0c):=
  Ok.mk' upc.m hm F A7v rfl (fun cdv A outer s H EX G E hr gk tk=> B2E Z O_step_in R_BadText hr gk tk) B1b
theorem B12 {P:Program} {w:World} {K:PySem.W.Frag} {mg:Str→Option Value} {base:Heap} {f:Addr} {fd:FuncData} (Z:Blt K w mg) (F:FunD K "_law_open" "_law_open" (defArgs V3) (defBody V3) (defScope V3) [] [] f fd) (hm:mg "_law_open"=some (.ref f)):Ok P w K mg base "_law_open" V3 1 1 A2F (upc A0k):=
  Ok.mk' upc.m hm F A7r rfl (fun cdv A outer s H EX G E hr gk tk=> B2R Z hr gk tk) B2H
theorem B2Z {P:Program} {w:World} {K:PySem.W.Frag} {mg:Str→Option Value} {base:Heap} {f:Addr} {fd:FuncData} (Z:Blt K w mg) (F:FunD K "_law_take" "_law_take" (defArgs M5) (defBody M5) (defScope M5) [] [] f fd) (hm:mg "_law_take"=some (.ref f)):Ok P w K mg base "_law_take" M5 1 2 R5 (upc D2):=
  Ok.mk' upc.m hm F A7f rfl (fun cdv A outer s H EX G E hr gk tk=> B2Q Z hr gk tk) B2J
theorem B2B {P:Program} {w:World} {K:PySem.W.Frag} {mg:Str→Option Value} {base:Heap} {f:Addr} {fd:FuncData} (Z:Blt K w mg) (F:FunD K "_law_pick" "_law_pick" (defArgs N5) (defBody N5) (defScope N5) [] [] f fd) (hm:mg "_law_pick"=some (.ref f)) (O__law_take:Ok P w K mg base "_law_take" M5 1 2 R5 (upc D2)):Ok P w K mg base "_law_pick" N5 2 2 X2 (upc L5):=
  Ok.mk' upc.m hm F A7m rfl (fun cdv A outer s H EX G E hr gk tk=> B2S Z O__law_take hr gk tk) B2Y
theorem A7l {P:Program} {w:World} {K:PySem.W.Frag} {mg:Str→Option Value} {base:Heap} {f:Addr} {fd:FuncData} (Z:Blt K w mg) (F:FunD K "_law_same" "_law_same" (defArgs R6) (defBody R6) (defScope R6) [] [] f fd) (hm:mg "_law_same"=some (.ref f)):∀d,Ok P w K mg base "_law_same" R6 (1+d) 2 A0i (upc (m__law_same d))
  | 0=> (B5F (n:=2) (ps:=A0i) hm F).up (by omega) upc.m (fun _ _ _ _ ⟨_,_,_,_,z⟩=> z)
  | d+1=> Ok.mk' (k:=1+d) upc.m hm F A7c rfl (fun cdv A outer s H EX G E hr gk tk=> B18 (d:=d) (j:=1+d) Z (A7l Z F hm d) (hr.mono (by omega)) gk tk) (B11 d)
theorem B1w {P:Program} {w:World} {K:PySem.W.Frag} {mg:Str→Option Value} {base:Heap} {f:Addr} {fd:FuncData} (Z:Blt K w mg) (F:FunD K "_law_sizes" "_law_sizes" (defArgs T9) (defBody T9) (defScope T9) [] [] f fd) (hm:mg "_law_sizes"=some (.ref f)) (O__law_take:Ok P w K mg base "_law_take" M5 1 2 R5 (upc D2)):Ok P w K mg base "_law_sizes" T9 2 3 A2C (upc A0h):=
  Ok.mk' upc.m hm F A7Z rfl (fun cdv A outer s H EX G E hr gk tk=> B1k Z O__law_take hr gk tk) B1z
theorem B1K {P:Program} {w:World} {K:PySem.W.Frag} {mg:Str→Option Value} {base:Heap} {f:Addr} {fd:FuncData} (Z:Blt K w mg) (F:FunD K "_law_any_sizes" "_law_any_sizes" (defArgs U9) (defBody U9) (defScope U9) [] [] f fd) (hm:mg "_law_any_sizes"=some (.ref f)) (O__law_sizes:Ok P w K mg base "_law_sizes" T9 2 3 A2C (upc A0h)) (O__law_pick:Ok P w K mg base "_law_pick" N5 2 2 X2 (upc L5)):Ok P w K mg base "_law_any_sizes" U9 3 1 A1v (upc A0Z):=
  Ok.mk' upc.m hm F A7I rfl (fun cdv A outer s H EX G E hr gk tk=> B1J Z O__law_sizes O__law_pick hr gk tk) B1M
theorem B1g {P:Program} {w:World} {K:PySem.W.Frag} {mg:Str→Option Value} {base:Heap} {f:Addr} {fd:FuncData} (Z:Blt K w mg) (F:FunD K "_law_number" "_law_number" (defArgs V0) (defBody V0) (defScope V0) [] [] f fd) (hm:mg "_law_number"=some (.ref f)) (O__law_take:Ok P w K mg base "_law_take" M5 1 2 R5 (upc D2)) (O__law_pick:Ok P w K mg base "_law_pick" N5 2 2 X2 (upc L5)):Ok P w K mg base "_law_number" V0 3 1 A13 (upc u4):=
  Ok.mk' upc.m hm F A7S rfl (fun cdv A outer s H EX G E hr gk tk=> B1e Z O__law_take O__law_pick hr gk tk) B1d
theorem B1R {P:Program} {w:World} {K:PySem.W.Frag} {mg:Str→Option Value} {base:Heap} {f:Addr} {fd:FuncData} (Z:Blt K w mg) (F:FunD K "_law_shuffled" "_law_shuffled" (defArgs T7) (defBody T7) (defScope T7) [] [] f fd) (hm:mg "_law_shuffled"=some (.ref f)) (O__law_take:Ok P w K mg base "_law_take" M5 1 2 R5 (upc D2)):Ok P w K mg base "_law_shuffled" T7 2 2 A1x (upc A0a):=
  Ok.mk' upc.m hm F A7L rfl (fun cdv A outer s H EX G E hr gk tk=> B1N Z O__law_take hr gk tk) B1Q
theorem B1F {P:Program} {w:World} {K:PySem.W.Frag} {mg:Str→Option Value} {base:Heap} {f:Addr} {fd:FuncData} (Z:Blt K w mg) (F:FunD K "_law_some_casks" "_law_some_casks" (defArgs U8) (defBody U8) (defScope U8) [] [] f fd) (hm:mg "_law_some_casks"=some (.ref f)) (O__law_shuffled:Ok P w K mg base "_law_shuffled" T7 2 2 A1x (upc A0a)):Ok P w K mg base "_law_some_casks" U8 3 3 A1u (upc i5):=
  Ok.mk' upc.m hm F A7F rfl (fun cdv A outer s H EX G E hr gk tk=> B1B Z O__law_shuffled hr gk tk) B1E
theorem B1t {P:Program} {w:World} {K:PySem.W.Frag} {mg:Str→Option Value} {base:Heap} {f:Addr} {fd:FuncData} (Z:Blt K w mg) (F:FunD K "_law_alike" "_law_alike" (defArgs R4) (defBody R4) (defScope R4) [] [] f fd) (hm:mg "_law_alike"=some (.ref f)):Ok P w K mg base "_law_alike" R4 1 1 A2E (upc A0g):=
  Ok.mk' upc.m hm F A7Y rfl (fun cdv A outer s H EX G E hr gk tk=> B1n Z hr gk tk) B1q
theorem B17 {P:Program} {w:World} {K:PySem.W.Frag} {mg:Str→Option Value} {base:Heap} {f:Addr} {fd:FuncData} (Z:Blt K w mg) (F:FunD K "_law_deed" "_law_deed" (defArgs V4) (defBody V4) (defScope V4) [] [] f fd) (hm:mg "_law_deed"=some (.ref f)) (O__law_take:Ok P w K mg base "_law_take" M5 1 2 R5 (upc D2)) (O__law_alike:Ok P w K mg base "_law_alike" R4 1 1 A2E (upc A0g)) (O__law_pick:Ok P w K mg base "_law_pick" N5 2 2 X2 (upc L5)) (O__law_some_casks:Ok P w K mg base "_law_some_casks" U8 3 3 A1u (upc i5)):Ok P w K mg base "_law_deed" V4 4 4 A2I (upc A0j):=
  Ok.mk' upc.m hm F A7g rfl (fun cdv A outer s H EX G E hr gk tk=> B13 Z O__law_take O__law_alike O__law_pick O__law_some_casks hr gk tk) B2P
theorem B1G {P:Program} {w:World} {K:PySem.W.Frag} {mg:Str→Option Value} {base:Heap} {f:Addr} {fd:FuncData} (Z:Blt K w mg) (F:FunD K "_law_is_figures" "_law_is_figures" (defArgs T6) (defBody T6) (defScope T6) [] [] f fd) (hm:mg "_law_is_figures"=some (.ref f)):Ok P w K mg base "_law_is_figures" T6 1 1 A1s (upc a9):=
  Ok.mk' upc.m hm F A7G rfl (fun cdv A outer s H EX G E hr gk tk=> B1C Z hr gk tk) B1D
theorem B1S {P:Program} {w:World} {K:PySem.W.Frag} {mg:Str→Option Value} {base:Heap} {f:Addr} {fd:FuncData} (Z:Blt K w mg) (F:FunD K "_law_is_name" "_law_is_name" (defArgs T8) (defBody T8) (defScope T8) [] [] f fd) (hm:mg "_law_is_name"=some (.ref f)):Ok P w K mg base "_law_is_name" T8 1 1 A11 (upc A0b):=
  Ok.mk' upc.m hm F A7M rfl (fun cdv A outer s H EX G E hr gk tk=> B1V Z hr gk tk) B1X
theorem B2N {P:Program} {w:World} {K:PySem.W.Frag} {mg:Str→Option Value} {base:Heap} {f:Addr} {fd:FuncData} (Z:Blt K w mg) (F:FunD K "_law_read" "_law_read" (defArgs R8) (defBody R8) (defScope R8) [] [] f fd) (hm:mg "_law_read"=some (.ref f)) (O__law_is_name:Ok P w K mg base "_law_is_name" T8 1 1 A11 (upc A0b)) (O__law_is_figures:Ok P w K mg base "_law_is_figures" T6 1 1 A1s (upc a9)):Ok P w K mg base "_law_read" R8 2 1 A2G (upc A0l):=
  Ok.mk' upc.m hm F A7q rfl (fun cdv A outer s H EX G E hr gk tk=> B2A Z O__law_is_name O__law_is_figures hr gk tk) B19
theorem B2V {P:Program} {w:World} {K:PySem.W.Frag} {mg:Str→Option Value} {base:Heap} {f:Addr} {fd:FuncData} (Z:Blt K w mg) (F:FunD K "_law_bent" "_law_bent" (defArgs V1) (defBody V1) (defScope V1) [] [] f fd) (hm:mg "_law_bent"=some (.ref f)) (O__law_take:Ok P w K mg base "_law_take" M5 1 2 R5 (upc D2)) (O__law_pick:Ok P w K mg base "_law_pick" N5 2 2 X2 (upc L5)):Ok P w K mg base "_law_bent" V1 3 2 A2J (upc A0d):=
  Ok.mk' upc.m hm F A7h rfl (fun cdv A outer s H EX G E hr gk tk=> B2G Z O__law_take O__law_pick hr gk tk) B1Y
theorem o_law {P:Program} {w:World} {K:PySem.W.Frag} {mg:Str→Option Value} {base:Heap} {f:Addr} {fd:FuncData} (Z:Blt K w mg) (F:FunD K "law" "law" (defArgs X8) (defBody X8) (defScope X8) [] [] f fd) (hm:mg "law"=some (.ref f)) (O__law_open:Ok P w K mg base "_law_open" V3 1 1 A2F (upc A0k)) (O__law_any_sizes:Ok P w K mg base "_law_any_sizes" U9 3 1 A1v (upc A0Z)) (O__law_deed:Ok P w K mg base "_law_deed" V4 4 4 A2I (upc A0j)) (O__law_number:Ok P w K mg base "_law_number" V0 3 1 A13 (upc u4)) (O__law_take:Ok P w K mg base "_law_take" M5 1 2 R5 (upc D2)) (O__law_pick:Ok P w K mg base "_law_pick" N5 2 2 X2 (upc L5)) (O__law_bent:Ok P w K mg base "_law_bent" V1 3 2 A2J (upc A0d)) (O__law_read:Ok P w K mg base "_law_read" R8 2 1 A2G (upc A0l)) (O_read_step:Ok P w K mg base "read_step" V2 4 1 A2L (upc A0c)) (O__law_same:Ok P w K mg base "_law_same" R6 9 2 A0i (upc (m__law_same 8))):Ok P w K mg base "law" X8 10 1 A4M (upc m_law):=
  Ok.mk' upc.m hm F A9v rfl (fun cdv A outer s H EX G E hr gk tk=> B6S Z O__law_open O__law_any_sizes O__law_deed O__law_number O__law_take O__law_pick O__law_bent O__law_read O_read_step O__law_same hr gk tk) B6p
end Ab
namespace Ab
open PySem PySem.Spec PyProof.Rows L2 RZ
theorem hFacts {P:Program} {w:World} {K:PySem.W.Frag} {h:Heap} {mg:Str→Option Value} {f:Addr} (X:K.In h) (G:h.Ns mainGlobals mg) (hfa:mg ("law":Str)=some (.ref f)) (c:He.SaysD hFa hFn K) (x:hEx K=true) (xt:A1W hTs K=A1a hTs w):
    ∃fd:FuncData,(∀(s:Shared) (v:Value),BindsTo s fd ⟨[v],[]⟩ [("_law_script",v)])∧∀base:Heap,(∀p∈(A0V K).map (·.1),LamX.TabB base mg p.1 p.2)→FnOk P w K mg base (L2.CX P w) 10 f fd A4M (g9 K 1 (upc m_law)):=by
  obtain ⟨fd_is_name,F_is_name⟩:=c.def_ 0 (d:=A79) rfl
  have g_is_name:=He.glo_ok X G (c.fact 0 (f:= .glo "is_name") rfl)
  obtain ⟨fd_is_figures,F_is_figures⟩:=c.def_ 1 (d:=A7T) rfl
  have g_is_figures:=He.glo_ok X G (c.fact 1 (f:= .glo "is_figures") rfl)
  obtain ⟨fd_call_in,F_call_in⟩:=c.def_ 2 (d:=A8J) rfl
  have g_call_in:=He.glo_ok X G (c.fact 2 (f:= .glo "call_in") rfl)
  obtain ⟨fd_step_in,F_step_in⟩:=c.def_ 3 (d:=A77) rfl
  have g_step_in:=He.glo_ok X G (c.fact 3 (f:= .glo "step_in") rfl)
  obtain ⟨fd_read_step,F_read_step⟩:=c.def_ 4 (d:=A7j) rfl
  have g_read_step:=He.glo_ok X G (c.fact 4 (f:= .glo "read_step") rfl)
  obtain ⟨fd__law_open,F__law_open⟩:=c.def_ 5 (d:=A7x) rfl
  have g__law_open:=He.glo_ok X G (c.fact 5 (f:= .glo "_law_open") rfl)
  obtain ⟨fd__law_take,F__law_take⟩:=c.def_ 6 (d:=A7u) rfl
  have g__law_take:=He.glo_ok X G (c.fact 6 (f:= .glo "_law_take") rfl)
  obtain ⟨fd__law_pick,F__law_pick⟩:=c.def_ 7 (d:=A7n) rfl
  have g__law_pick:=He.glo_ok X G (c.fact 7 (f:= .glo "_law_pick") rfl)
  obtain ⟨fd__law_same,F__law_same⟩:=c.def_ 8 (d:=A7k) rfl
  have g__law_same:=He.glo_ok X G (c.fact 8 (f:= .glo "_law_same") rfl)
  obtain ⟨fd__law_sizes,F__law_sizes⟩:=c.def_ 9 (d:=A7b) rfl
  have g__law_sizes:=He.glo_ok X G (c.fact 9 (f:= .glo "_law_sizes") rfl)
  obtain ⟨fd__law_any_sizes,F__law_any_sizes⟩:=c.def_ 10 (d:=A7J) rfl
  have g__law_any_sizes:=He.glo_ok X G (c.fact 10 (f:= .glo "_law_any_sizes") rfl)
  obtain ⟨fd__law_number,F__law_number⟩:=c.def_ 11 (d:=A7O) rfl
  have g__law_number:=He.glo_ok X G (c.fact 11 (f:= .glo "_law_number") rfl)
  obtain ⟨fd__law_shuffled,F__law_shuffled⟩:=c.def_ 12 (d:=A7K) rfl
  have g__law_shuffled:=He.glo_ok X G (c.fact 12 (f:= .glo "_law_shuffled") rfl)
  obtain ⟨fd__law_some_casks,F__law_some_casks⟩:=c.def_ 13 (d:=A7D) rfl
  have g__law_some_casks:=He.glo_ok X G (c.fact 13 (f:= .glo "_law_some_casks") rfl)
  obtain ⟨fd__law_alike,F__law_alike⟩:=c.def_ 14 (d:=A7a) rfl
  have g__law_alike:=He.glo_ok X G (c.fact 14 (f:= .glo "_law_alike") rfl)
  obtain ⟨fd__law_deed,F__law_deed⟩:=c.def_ 15 (d:=A7e) rfl
  have g__law_deed:=He.glo_ok X G (c.fact 15 (f:= .glo "_law_deed") rfl)
  obtain ⟨fd__law_is_figures,F__law_is_figures⟩:=c.def_ 16 (d:=A7C) rfl
  have g__law_is_figures:=He.glo_ok X G (c.fact 16 (f:= .glo "_law_is_figures") rfl)
  obtain ⟨fd__law_is_name,F__law_is_name⟩:=c.def_ 17 (d:=A7N) rfl
  have g__law_is_name:=He.glo_ok X G (c.fact 17 (f:= .glo "_law_is_name") rfl)
  obtain ⟨fd__law_read,F__law_read⟩:=c.def_ 18 (d:=A7o) rfl
  have g__law_read:=He.glo_ok X G (c.fact 18 (f:= .glo "_law_read") rfl)
  obtain ⟨fd__law_bent,F__law_bent⟩:=c.def_ 19 (d:=A7i) rfl
  have g__law_bent:=He.glo_ok X G (c.fact 19 (f:= .glo "_law_bent") rfl)
  obtain ⟨fd_law,F_law⟩:=c.def_ 20 (d:=A9t) rfl
  have g_law:=He.glo_ok X G (c.fact 20 (f:= .glo "law") rfl)
  unfold hEx at x
  simp only [Bool.and_eq_true] at x
  have h_BadText:=He.glo_ok X G (c.fact 36 (f:= .glo "BadText") rfl)
  obtain ⟨fdi_BadText,Fi_BadText⟩:=c.def_ 21 (d:=A72) rfl
  have Z:Blt K w mg:=⟨He.free_ok X G (c.fact 21 (f:= .free "all") rfl),
    He.free_ok X G (c.fact 22 (f:= .free "bool") rfl),
    He.free_ok X G (c.fact 23 (f:= .free "int") rfl),
    He.free_ok X G (c.fact 24 (f:= .free "isinstance") rfl),
    He.free_ok X G (c.fact 25 (f:= .free "len") rfl),
    He.free_ok X G (c.fact 26 (f:= .free "list") rfl),
    He.free_ok X G (c.fact 27 (f:= .free "range") rfl),
    He.free_ok X G (c.fact 28 (f:= .free "str") rfl),
    He.free_ok X G (c.fact 29 (f:= .free "tuple") rfl),
    He.str_ok X G (c.fact 30 (f:= .str "FIGURES" ("0123456789":Str)) rfl),
    ⟨He.glo_ok X G (c.fact 31 (f:= .glo "LEAST_THINGS") rfl),A9A (A8w xt 0) x.1.2⟩,
    He.str_ok X G (c.fact 32 (f:= .str "LETTERS" ("abcdefghijklmnopqrstuvwxyz":Str)) rfl),
    He.int_ok X G (c.fact 33 (f:= .int "LONGEST" 8) rfl),
    He.int_ok X G (c.fact 34 (f:= .int "MOST_FIGURES" 30) rfl),
    ⟨He.glo_ok X G (c.fact 35 (f:= .glo "MOST_THINGS") rfl),A9A (A8w xt 1) x.2⟩,
    h_BadText,
    B6O x.1.1.1.2,
    B6G x.1.1.2⟩
  have e:=hfa.symm.trans g_law
  cases e
  have b:=FunD.bindsA (ps:=A4M) F_law fun _ _ _ _ _ _ us hl=> match us,hl with | [_],_=> rfl
  refine ⟨fd_law,fun s v=> b s [v] rfl,fun base TBs=> ?_⟩
  have R_BadText:XkOk P w K mg base "BadText" "bad text" ["row"]:=xk1 (B6e x.1.1.1.1) h_BadText Fi_BadText B2g (fun _ _ _ _ _ _ us hl=> match us,hl with | [_,_],_=> rfl)
  have O__law_open:=B12 (P:=P) (w:=w) (base:=base) Z F__law_open g__law_open
  have O__law_take:=B2Z (P:=P) (w:=w) (base:=base) Z F__law_take g__law_take
  have O__law_sizes:=B1w (P:=P) (w:=w) (base:=base) Z F__law_sizes g__law_sizes O__law_take
  have O__law_pick:=B2B (P:=P) (w:=w) (base:=base) Z F__law_pick g__law_pick O__law_take
  have O__law_any_sizes:=B1K (P:=P) (w:=w) (base:=base) Z F__law_any_sizes g__law_any_sizes O__law_sizes O__law_pick
  have O__law_alike:=B1t (P:=P) (w:=w) (base:=base) Z F__law_alike g__law_alike
  have O__law_shuffled:=B1R (P:=P) (w:=w) (base:=base) Z F__law_shuffled g__law_shuffled O__law_take
  have O__law_some_casks:=B1F (P:=P) (w:=w) (base:=base) Z F__law_some_casks g__law_some_casks O__law_shuffled
  have O__law_deed:=B17 (P:=P) (w:=w) (base:=base) Z F__law_deed g__law_deed O__law_take O__law_alike O__law_pick O__law_some_casks
  have O__law_number:=B1g (P:=P) (w:=w) (base:=base) Z F__law_number g__law_number O__law_take O__law_pick
  have O__law_bent:=B2V (P:=P) (w:=w) (base:=base) Z F__law_bent g__law_bent O__law_take O__law_pick
  have O__law_is_name:=B1S (P:=P) (w:=w) (base:=base) Z F__law_is_name g__law_is_name
  have O__law_is_figures:=B1G (P:=P) (w:=w) (base:=base) Z F__law_is_figures g__law_is_figures
  have O__law_read:=B2N (P:=P) (w:=w) (base:=base) Z F__law_read g__law_read O__law_is_name O__law_is_figures
  have O_is_name:=B26 (P:=P) (w:=w) (base:=base) Z F_is_name g_is_name
  have O_is_figures:=B1x (P:=P) (w:=w) (base:=base) Z F_is_figures g_is_figures
  have O_call_in:=B2z (P:=P) (w:=w) (base:=base) Z F_call_in g_call_in O_is_name O_is_figures
  have O_step_in:=B3X (P:=P) (w:=w) (base:=base) Z F_step_in g_step_in O_call_in O_is_figures
  have O_read_step:=B2W (P:=P) (w:=w) (base:=base) Z F_read_step g_read_step O_step_in R_BadText
  have O__law_same:=A7l (P:=P) (w:=w) (base:=base) Z F__law_same g__law_same 8
  have O_law:=o_law (P:=P) (w:=w) (base:=base) Z F_law g_law O__law_open O__law_any_sizes O__law_deed O__law_number O__law_take O__law_pick O__law_bent O__law_read O_read_step O__law_same
  obtain ⟨f2,fd2,hm2,FD2,F2⟩:=O_law.ex
  have e2:=hm2.symm.trans g_law
  cases e2
  have e3:fd2=fd_law:=FunD.one FD2 F_law
  rw [←e3]
  exact F2
end Ab
open PySem PySem.W PySem.Calls PyProof.Rows
theorem PySem.Challenge.cw_hidelater_k07_texts_that_are_no_steps_holds : PySem.Challenge.rw_hidelater_k07_texts_that_are_no_steps.Holds := by
  w_on;o_law
  refine HandSHeadRun.head_any (r:=OpenLaw.row PySem.Challenge.rw_hidelater_k07_texts_that_are_no_steps) (q:=view (OpenLaw.row PySem.Challenge.rw_hidelater_k07_texts_that_are_no_steps).prog [32]) (H:=Ab.hHk) (ob:=Ab.hOb) (M:=3000) (loose:=Ab.hNms) (d:=HandSHeadRun.topDef (OpenLaw.row PySem.Challenge.rw_hidelater_k07_texts_that_are_no_steps).prog 32) (kwd:=[]) Ab.hOb_eq
    (by kernel_rfl) (fun s=> by kernel_rfl) Ab.hRun (by kernel_rfl) (by kernel_rfl) (by kernel_rfl) (by rfl) (by first | assumption | decide+kernel) (by decide+kernel) ⟨rfl,rfl,rfl,rfl,rfl,by decide+kernel⟩ ?hw ?hc
  case hw=> w_witness2
  case hc=>
    refine Ab.walk_end (l:=PySem.Challenge.rw_hidelater_k07_texts_that_are_no_steps) (j:=10) (y:="_law_script") rfl (by kernel_rfl) ⟨rfl,by decide,by decide⟩ ?F
    intro w mg fa h Y G hmg0
    obtain ⟨K,KX,⟨c,ex,xt⟩,no,te⟩:=Y
    have hmg:mg ("law":PySem.Str)=some (.ref fa):=by
      have e:(HandSHeadRun.topDef (OpenLaw.row PySem.Challenge.rw_hidelater_k07_texts_that_are_no_steps).prog 32).name=("law":PySem.Str):=by kernel_rfl
      rw [←e]
      exact hmg0
    obtain ⟨fd,hb,hF⟩:=Ab.hFacts (P:=(PySem.Challenge.rw_hidelater_k07_texts_that_are_no_steps).prog) (w:=w) KX G hmg c ex xt
    exact ⟨K,fd,Ab.upc Ab.m_law,KX,no,te,Ab.law_says,hb,hF⟩
