import PyProof.Rows.All
import Wide.All
import OpenK.AllK
import Wide.FinOn
import HandS.ForExc
import HandS.ForMost
import HandS.Defaults
import HandS.Lambda
import HandS.HeadHook1
import KE.DataEq
import HandS.TupAny
import HandS.IsInst
import HandS.Wide
import HandS.TupMul
import HandS.Codes
import HandS.Zip
import PyProof.CollectIter
import PyProof.WalksMore
import KE.GoesEnum
import KE.GoesZip
import KE.KItemsList
import HandS.Conv
import HandS.TryOnly
import HandS.SortInts
import HandS.Dict
import HandS.Head0
import HandS.Head1
import HandS.Head2
import HandS.HeadEnd
import HandS.HeadHook2
import HandS.HeadHook4
import HandS.HeadWalk
import HandS.EndTab
import HandS.ExcInit
import HandS.ExcField
import KE.KMinKey
import HandS.SortKw
import HandS.NoneIn
import KE.KDictDisplayH
import HandS.Style
import HandS.SetFor
import HandS.CallSlots
import HandS.WordsDict
import HandS.DictComp
import HandS.Iter
import HandS.OwnEq
import KE.KFmtOwn
import PyProof.InstNe
import HandS.MakeKwOnly
import HandS.FStr
import KE.KEqDict
import PyProof.NeKinds
import HandS.Small
import HandS.Finally
import PySem.Challenge.RW_hidelater_k01_sizes_judged
set_option Elab.async false
set_option linter.all false
set_option maxRecDepth 100000
set_option maxHeartbeats 0
namespace Ab
open PySem PySem.Spec PyProof.Rows L2
inductive W where
  | non | bl (b:Bool) | int (i:Int) | str (x:Str) | tup (xs:List W) | lst (xs:List W) | dct (ks vs:List W) | ref (a:Addr) | ty (n:String)
instance:Inhabited W:=⟨.non⟩
def d5:W→Option Key
  | .int i=> some (.inl i)
  | .str x=> some (.inr x)
  | _=> none
def A8T:List W→Option (List Key)
  | []=> some []
  | w::ws=> match d5 w,A8T ws with
    | some k,some ks=> some (k::ks)
    | _,_=> none
def A5E:W→Option (List Key)
  | .tup ws=> A8T ws
  | _=> none
def Imm:HO→Prop
  | .tup _=> True
  | .frz _ _=> True
  | _=> False
def LsF (H:Hp) (a:Addr) (vs:List V):Prop:=∃o,H a=some (.frz o (.lst vs))
theorem LsF.sq {K:PySem.W.Frag} {H:Hp} {a:Addr} {vs:List V} (h:LsF H a vs):SqL K H a vs:=let ⟨o,h⟩:=h;.inl (.inr ⟨o,h⟩)
def TqT (K:PySem.W.Frag) (H:Hp) (a:Addr) (xs:List V):Prop:=
  H a=some (.tup xs)∨xs≠[]∧∃(o:Obj) (its:Array Value) (n:Nat),K.lookup a=some o∧o.cls= .type "tuple"∧o.data= .seq its n∧its.size≤sizeLine∧Vals xs its.toList
theorem TqT.sq {K:PySem.W.Frag} {H:Hp} {a:Addr} {xs:List V} (h:TqT K H a xs):SqT K H a xs:=h.imp .inl (·.2)
mutual
def Rep (K:PySem.W.Frag) (H:Hp):W→V→Prop
  | .non,v=> v= .non
  | .bl b,v=> v= .bl b
  | .int i,v=> v= .int i
  | .str x,v=> v= .str x
  | .tup ws,v=> ∃a vs,v= .ref a∧TqT K H a vs∧RepL K H ws vs
  | .lst ws,v=> ∃a vs,v= .ref a∧LsF H a vs∧RepL K H ws vs
  | .dct ks ws,v=> ∃a,v= .ref a∧((∃o kvs,H a=some (.frz o (.dK kvs))∧ks.map d5=kvs.map (fun p=> some p.1)∧RepL K H ws (kvs.map (·.2)))∨
      ∃o kvs,H a=some (.frz o (.dT kvs))∧(∃r,ks= .lst []::r∧r.map A5E=kvs.map (fun p=> some p.1))∧RepL K H ws (.non::kvs.map (·.2)))
  | .ref a,v=> v= .ref a
  | .ty n,v=> v= .ty n
def RepL (K:PySem.W.Frag) (H:Hp):List W→List V→Prop
  | [],vs=> vs=[]
  | w::ws,vs=> ∃v r,vs=v::r∧Rep K H w v∧RepL K H ws r
end
def Keeps (H H':Hp):Prop:=∀a o,H a=some o→Imm o→H' a=some o
theorem Keeps.refl (H:Hp):Keeps H H:=fun _ _ h _=> h
theorem Keeps.trans {H H1 H2:Hp} (a:Keeps H H1) (b:Keeps H1 H2):Keeps H H2:=fun p o h i=> b p o (a p o h i) i
theorem Keeps.tqT {K:PySem.W.Frag} {H H':Hp} (k:Keeps H H') {a:Addr} {vs:List V} (h:TqT K H a vs):TqT K H' a vs:=h.imp (fun e=> k _ _ e trivial) id
theorem Keeps.sqT {K:PySem.W.Frag} {H H':Hp} (k:Keeps H H') {a:Addr} {vs:List V} (h:SqT K H a vs):SqT K H' a vs:=by
  rcases h with (h | ⟨o,h⟩) | h
  · exact .inl (.inl (k _ _ h trivial))
  · exact .inl (.inr ⟨o,k _ _ h trivial⟩)
  · exact .inr h
theorem Keeps.lsF {H H':Hp} (k:Keeps H H') {a:Addr} {vs:List V} (h:LsF H a vs):LsF H' a vs:=let ⟨o,h⟩:=h;⟨o,k _ _ h trivial⟩
mutual
theorem Rep.mono {K:PySem.W.Frag} {H H':Hp} (k:Keeps H H'):∀(w:W) (v:V),Rep K H w v→Rep K H' w v
  | .non,_,h=> by simpa only [Rep] using h
  | .bl _,_,h=> by simpa only [Rep] using h
  | .int _,_,h=> by simpa only [Rep] using h
  | .str _,_,h=> by simpa only [Rep] using h
  | .ref _,_,h=> by simpa only [Rep] using h
  | .ty _,_,h=> by simpa only [Rep] using h
  | .tup ws,v,h=> by
    simp only [Rep] at h ⊢
    obtain ⟨a,vs,e,s,r⟩:=h
    exact ⟨a,vs,e,k.tqT s,RepL.mono k ws vs r⟩
  | .lst ws,v,h=> by
    simp only [Rep] at h ⊢
    obtain ⟨a,vs,e,s,r⟩:=h
    exact ⟨a,vs,e,k.lsF s,RepL.mono k ws vs r⟩
  | .dct ks ws,v,h=> by
    simp only [Rep] at h ⊢
    obtain ⟨a,e,⟨o,kvs,s,t,r⟩ | ⟨o,kvs,s,t,r⟩⟩:=h
    · exact ⟨a,e,.inl ⟨o,kvs,k _ _ s trivial,t,RepL.mono k ws _ r⟩⟩
    · exact ⟨a,e,.inr ⟨o,kvs,k _ _ s trivial,t,RepL.mono k ws _ r⟩⟩
theorem RepL.mono {K:PySem.W.Frag} {H H':Hp} (k:Keeps H H'):∀(ws:List W) (vs:List V),RepL K H ws vs→RepL K H' ws vs
  | [],vs,h=> by simpa only [RepL] using h
  | w::ws,vs,h=> by
    simp only [RepL] at h ⊢
    obtain ⟨v,r,e,a,b⟩:=h
    exact ⟨v,r,e,Rep.mono k w v a,RepL.mono k ws r b⟩
end
section
variable {K:PySem.W.Frag} {H:Hp}
theorem Rep.of_int {i:Int} {v:V} (h:Rep K H (.int i) v):v= .int i:=by simpa only [Rep] using h
theorem Rep.of_str {i:Str} {v:V} (h:Rep K H (.str i) v):v= .str i:=by simpa only [Rep] using h
theorem Rep.of_bl {i:Bool} {v:V} (h:Rep K H (.bl i) v):v= .bl i:=by simpa only [Rep] using h
theorem Rep.of_non {v:V} (h:Rep K H .non v):v= .non:=by simpa only [Rep] using h
theorem Rep.of_ref {a:Addr} {v:V} (h:Rep K H (.ref a) v):v= .ref a:=by simpa only [Rep] using h
theorem Rep.of_ty {n:String} {v:V} (h:Rep K H (.ty n) v):v= .ty n:=by simpa only [Rep] using h
theorem Rep.of_tupT {ws:List W} {v:V} (h:Rep K H (.tup ws) v):∃a vs,v= .ref a∧TqT K H a vs∧RepL K H ws vs:=by simpa only [Rep] using h
theorem Rep.of_tup {ws:List W} {v:V} (h:Rep K H (.tup ws) v):∃a vs,v= .ref a∧SqT K H a vs∧RepL K H ws vs:=let ⟨a,vs,e,s,r⟩:=h.of_tupT;⟨a,vs,e,s.sq,r⟩
theorem Rep.of_lst {ws:List W} {v:V} (h:Rep K H (.lst ws) v):∃a vs,v= .ref a∧LsF H a vs∧RepL K H ws vs:=by simpa only [Rep] using h
theorem Rep.int {i:Int}:Rep K H (.int i) (.int i):=by simp only [Rep]
theorem Rep.str {i:Str}:Rep K H (.str i) (.str i):=by simp only [Rep]
theorem Rep.bl {i:Bool}:Rep K H (.bl i) (.bl i):=by simp only [Rep]
theorem Rep.non:Rep K H .non .non:=by simp only [Rep]
theorem Rep.ref {a:Addr}:Rep K H (.ref a) (.ref a):=by simp only [Rep]
theorem Rep.ty {n:String}:Rep K H (.ty n) (.ty n):=by simp only [Rep]
theorem Rep.tup {ws:List W} {a:Addr} {vs:List V} (s:TqT K H a vs) (r:RepL K H ws vs):Rep K H (.tup ws) (.ref a):=by
  simp only [Rep];exact ⟨a,vs,rfl,s,r⟩
theorem Rep.lst {ws:List W} {a:Addr} {vs:List V} (s:LsF H a vs) (r:RepL K H ws vs):Rep K H (.lst ws) (.ref a):=by
  simp only [Rep];exact ⟨a,vs,rfl,s,r⟩
theorem RepL.nil:RepL K H [] []:=by simp only [RepL]
theorem RepL.cons {w:W} {ws:List W} {v:V} {vs:List V} (a:Rep K H w v) (b:RepL K H ws vs):RepL K H (w::ws) (v::vs):=by
  simp only [RepL];exact ⟨v,vs,rfl,a,b⟩
theorem RepL.of_nil {vs:List V} (h:RepL K H [] vs):vs=[]:=by simpa only [RepL] using h
theorem RepL.of_cons {w:W} {ws:List W} {vs:List V} (h:RepL K H (w::ws) vs):∃v r,vs=v::r∧Rep K H w v∧RepL K H ws r:=by simpa only [RepL] using h
theorem RepL.length:∀{ws:List W} {vs:List V},RepL K H ws vs→ws.length=vs.length
  | [],vs,h=> by rw [h.of_nil];rfl
  | w::ws,vs,h=> by
    obtain ⟨v,r,e,_,t⟩:=h.of_cons
    rw [e,List.length_cons,List.length_cons,t.length]
theorem RepL.get:∀{ws:List W} {vs:List V} {i:Nat} {w:W},RepL K H ws vs→ws[i]? =some w→∃v,vs[i]? =some v∧Rep K H w v
  | [],_,_,_,_,e=> by simp at e
  | w::ws,vs,0,x,h,e=> by
    obtain ⟨v,r,rfl,a,_⟩:=h.of_cons
    simp at e;subst e;exact ⟨v,rfl,a⟩
  | w::ws,vs,i+1,x,h,e=> by
    obtain ⟨v,r,rfl,_,t⟩:=h.of_cons
    obtain ⟨u,h1,h2⟩:=t.get (i:=i) (by simpa using e)
    exact ⟨u,by simpa using h1,h2⟩
theorem RepL.append:∀{ws xs:List W} {vs us:List V},RepL K H ws vs→RepL K H xs us→RepL K H (ws++xs) (vs++us)
  | [],xs,vs,us,h,g=> by rw [h.of_nil];exact g
  | w::ws,xs,vs,us,h,g=> by
    obtain ⟨v,r,rfl,a,t⟩:=h.of_cons
    exact .cons a (t.append g)
theorem RepL.set:∀{ws:List W} {vs:List V} (i:Nat) {w:W} {v:V},RepL K H ws vs→Rep K H w v→RepL K H (ws.set i w) (vs.set i v)
  | [],vs,i,w,v,h,g=> by rw [h.of_nil];exact .nil
  | x::ws,vs,0,w,v,h,g=> by
    obtain ⟨u,r,rfl,a,t⟩:=h.of_cons
    exact .cons g t
  | x::ws,vs,i+1,w,v,h,g=> by
    obtain ⟨u,r,rfl,a,t⟩:=h.of_cons
    exact .cons a (t.set i g)
theorem RepL.take:∀{ws:List W} {vs:List V} (n:Nat),RepL K H ws vs→RepL K H (ws.take n) (vs.take n)
  | _,_,0,_=> .nil
  | [],vs,n+1,h=> by rw [h.of_nil];exact .nil
  | w::ws,vs,n+1,h=> by
    obtain ⟨v,r,rfl,a,t⟩:=h.of_cons
    exact .cons a (t.take n)
theorem RepL.drop:∀{ws:List W} {vs:List V} (n:Nat),RepL K H ws vs→RepL K H (ws.drop n) (vs.drop n)
  | _,_,0,h=> h
  | [],vs,n+1,h=> by rw [h.of_nil];exact .nil
  | w::ws,vs,n+1,h=> by
    obtain ⟨v,r,rfl,a,t⟩:=h.of_cons
    exact t.drop n
theorem RepL.rep {ws:List W} {vs:List V} (h:RepL K H ws vs):∀k:Nat,RepL K H (List.replicate k ws).flatten (List.replicate k vs).flatten
  | 0=> .nil
  | k+1=> by
    rw [List.replicate_succ,List.replicate_succ,List.flatten_cons,List.flatten_cons]
    exact h.append (h.rep k)
theorem RepL.ints {ns:List Int}:RepL K H (ns.map W.int) (ns.map V.int):=by
  induction ns with
  | nil=> exact .nil
  | cons n r ih=> exact .cons .int ih
theorem RepL.of_ints {ns:List Int} {vs:List V} (h:RepL K H (ns.map W.int) vs):vs=ns.map V.int:=by
  induction ns generalizing vs with
  | nil=> exact h.of_nil
  | cons n r ih=>
    obtain ⟨v,t,rfl,a,b⟩:=h.of_cons
    rw [a.of_int,ih b];rfl
theorem RepL.of_bls {ns:List Bool} {vs:List V} (h:RepL K H (ns.map W.bl) vs):vs=ns.map V.bl:=by
  induction ns generalizing vs with
  | nil=> exact h.of_nil
  | cons n r ih=>
    obtain ⟨v,t,rfl,a,b⟩:=h.of_cons
    rw [a.of_bl,ih b];rfl
end
inductive Cont where
  | seq (ws:List W) | map (kvs:List (W×W))
def Cont.fz:Cont→W
  | .seq ws=> .lst ws
  | .map kvs=> .dct (kvs.map (·.1)) (kvs.map (·.2))
inductive AO where
  | cont (c:Cont) | ins (C:Str) (fs:List (Str×W))
abbrev AH:=Addr→Option AO
inductive SV where
  | val (w:W) | own (c:Cont)
abbrev A0:=List (Option SV)
def CRep (K:PySem.W.Frag) (H:Hp) (p:Addr):Cont→Prop
  | .seq ws=> ∃vs,H p=some (.lst vs)∧RepL K H ws vs
  | .map kvs=> (∃ks,H p=some (.dK ks)∧(kvs.map (·.1)).map d5=ks.map (fun q=> some q.1)∧RepL K H (kvs.map (·.2)) (ks.map (·.2)))∨
      ∃ks,H p=some (.dT ks)∧(∃r,kvs.map (·.1)= .lst []::r∧r.map A5E=ks.map (fun q=> some q.1))∧RepL K H (kvs.map (·.2)) (.non::ks.map (·.2))
def FRep (K:PySem.W.Frag) (H:Hp) (fs:List (Str×W)) (vs:List (Str×V)):Prop:=fs.map (·.1)=vs.map (·.1)∧RepL K H (fs.map (·.2)) (vs.map (·.2))
def ORep (K:PySem.W.Frag) (H:Hp) (a:Addr):AO→Prop
  | .cont c=> CRep K H a c
  | .ins C fs=> ∃dx vs,H a=some (.ins (He.ga K C) dx vs)∧FRep K H fs vs
def Mu:HO→Prop
  | .lst _=> True
  | .dK _=> True
  | .dT _=> True
  | .ins _ _ _=> True
  | _=> False
theorem Mu.mut {o:HO} (h:Mu o):Mut (some o):=by cases o <;> first | trivial | exact h.elim
def NT (o:HO):Prop:=∀ps,o≠ .tbl ps
theorem Mu.nt {o:HO} (h:Mu o):NT o:=fun _ e=> by subst e;exact h
theorem Imm.nt {o:HO} (h:Imm o):NT o:=fun _ e=> by subst e;exact h
def A8D:Addr:=builtinsNs
def cs1 (K:PySem.W.Frag) (p:Addr×Obj):Option ((Addr×Addr)×Str):=match p.2.data with
  | .fields vs=> (match vs.getD 11 .none,vs.getD 1 .none with
    | .ref P,.str q _=> some ((p.1,P),q++".<locals>."++"<lambda>")
    | _,_=> none)
  | _=> none
def R7 (K:PySem.W.Frag):List ((Addr×Addr)×Str):=((K.dropWhile fun p=> decide (p.1≠A8D)).tail).filterMap (cs1 K)
def A0E (K:PySem.W.Frag):List (Addr×Str):=(R7 K).map fun p=> (p.1.2,p.2)
abbrev TabsK (K:PySem.W.Frag) (H:Hp):Prop:=LamX.Tabs (A0E K) H
theorem TabsK.keep {K:PySem.W.Frag} {H H':Hp} (t:TabsK K H) (k:∀a o,H a=some o→(¬Mu o)→H' a=some o):TabsK K H':=fun p hp=> by
  obtain ⟨ps,h1,h2,h3⟩:=t p hp
  refine ⟨ps,k _ _ h1 (fun z=> z),h2,fun pos cv hc=> ?_⟩
  obtain ⟨c,e1,e2⟩:=h3 pos cv hc
  exact ⟨c,e1,k _ _ e2 (fun z=> z)⟩
theorem TabsK.upd {K:PySem.W.Frag} {H:Hp} {p:Addr} {u:HO} (t:TabsK K H) (n:∀o,H p=some o→Mu o):TabsK K (upd H p u):=t.keep fun a o e m=> by
  have ne:a≠p:=fun z=> m (n o (z▸e))
  rw [upd_ne ne];exact e
theorem Mu.imm {o:HO} (h:Mu o):¬Imm o:=by cases o <;> first | exact h.elim | (intro z;exact z)
theorem CRep.there {K:PySem.W.Frag} {H:Hp} {p:Addr} {c:Cont} (h:CRep K H p c):∃o,H p=some o∧Mu o:=by
  cases c with
  | seq ws=> obtain ⟨vs,e,_⟩:=h;exact ⟨_,e,trivial⟩
  | map kvs=>
    rcases h with ⟨ks,e,_⟩ | ⟨ks,e,_⟩
    · exact ⟨_,e,trivial⟩
    · exact ⟨_,e,trivial⟩
theorem CRep.mu_at {K:PySem.W.Frag} {H:Hp} {p:Addr} {c:Cont} {o:HO} (h:CRep K H p c) (e:H p=some o):Mu o:=by
  obtain ⟨u,e',m⟩:=h.there
  rw [e] at e';cases e';exact m
theorem ORep.there {K:PySem.W.Frag} {H:Hp} {p:Addr} {o:AO} (h:ORep K H p o):∃u,H p=some u∧Mu u:=by
  cases o with
  | cont c=> exact CRep.there h
  | ins C fs=> obtain ⟨dx,vs,e,_⟩:=h;exact ⟨_,e,trivial⟩
theorem CRep.mono {K:PySem.W.Frag} {H H':Hp} (k:Keeps H H') {p:Addr} (s:H' p=H p) {c:Cont} (h:CRep K H p c):CRep K H' p c:=by
  cases c with
  | seq ws=> obtain ⟨vs,e,r⟩:=h;exact ⟨vs,s.trans e,RepL.mono k _ _ r⟩
  | map kvs=>
    rcases h with ⟨ks,e,t,r⟩ | ⟨ks,e,t,r⟩
    · exact .inl ⟨ks,s.trans e,t,RepL.mono k _ _ r⟩
    · exact .inr ⟨ks,s.trans e,t,RepL.mono k _ _ r⟩
theorem ORep.mono {K:PySem.W.Frag} {H H':Hp} (k:Keeps H H') {p:Addr} (s:H' p=H p) {o:AO} (h:ORep K H p o):ORep K H' p o:=by
  cases o with
  | cont c=> exact CRep.mono k s h
  | ins C fs=> obtain ⟨dx,vs,e,t,r⟩:=h;exact ⟨dx,vs,s.trans e,t,RepL.mono k _ _ r⟩
structure AExc where
  n:Str
  fs:List (Str×W)
structure Gx where
  K:PySem.W.Frag
  h0:AH
  H0:Hp
def OwnAt (env:A0) (σ:L2.St) (p:Addr):Prop:=∃(i:Nat) (c:Cont),env[i]? =some (some (SV.own c))∧σ[i]? =some (some (V.ref p))
structure BS (G:Gx) (env:A0) (h:AH) (σ:L2.St) (H:Hp):Prop where
  len:env.length=σ.length
  val:∀(i:Nat) (w:W),env[i]? =some (some (SV.val w))→∃v,σ[i]? =some (some v)∧Rep G.K H w v
  own:∀(i:Nat) (c:Cont),env[i]? =some (some (SV.own c))→∃p,σ[i]? =some (some (V.ref p))∧CRep G.K H p c∧h p=none∧G.H0 p=none
  uni:∀(i j:Nat) (c c':Cont) (p:Addr),env[i]? =some (some (SV.own c))→env[j]? =some (some (SV.own c'))→σ[i]? =some (some (V.ref p))→σ[j]? =some (some (V.ref p))→i=j
  hp:∀a o,h a=some o→ORep G.K H a o
  fr:∀p o,G.H0 p=some o→G.h0 p=none→NT o→H p=some o
  ext:∀a o,h a=some o→G.h0 a=none→G.H0 a=none
  tr:∀p o,G.H0 p=some o→∃u,H p=some u
  tabs:TabsK G.K H
structure Xt (env:A0) (h:AH) (σ:L2.St) (H:Hp) (env':A0) (h':AH) (H':Hp):Prop where
  fr:∀p o,H p=some o→h p=none→¬OwnAt env σ p→NT o→H' p=some o
  hn:∀p o,h' p=some o→h p=none→H p=none
  th:∀p o,H p=some o→∃o',H' p=some o'
  sl:∀(i:Nat) (c':Cont),env'[i]? =some (some (SV.own c'))→∃c,env[i]? =some (some (SV.own c))
section
variable {G:Gx} {env env' env2:A0} {h h' h2:AH} {σ:L2.St} {H H' H2:Hp}
theorem BS.imm (S:BS G env h σ H) {p:Addr} {o:HO} (e:H p=some o) (i:Imm o):h p=none∧¬OwnAt env σ p:=by
  refine ⟨?_,fun ⟨j,c,a,b⟩=> ?_⟩
  · cases q:h p with
    | none=> rfl
    | some u=>
      obtain ⟨o',e',m⟩:=(S.hp p u q).there
      rw [e] at e';cases e'
      exact absurd i m.imm
  · obtain ⟨p',b',cr,_⟩:=S.own j c a
    rw [b] at b';cases b'
    obtain ⟨o',e',m⟩:=cr.there
    rw [e] at e';cases e'
    exact absurd i m.imm
theorem Xt.keeps (x:Xt env h σ H env' h' H') (S:BS G env h σ H):Keeps H H':=fun p o e i=> x.fr p o e (S.imm e i).1 (S.imm e i).2 i.nt
theorem Xt.refl:Xt env h σ H env h H:=⟨fun _ _ e _ _ _=> e,fun p o e n=> (by rw [n] at e;cases e),fun _ o e=> ⟨o,e⟩,fun i c e=> ⟨c,e⟩⟩
theorem Xt.own (x:Xt env h σ H env' h' H') {p:Addr} (o:OwnAt env' σ p):OwnAt env σ p:=by
  obtain ⟨i,c,e1,e2⟩:=o
  obtain ⟨c0,z⟩:=x.sl i c e1
  exact ⟨i,c0,z,e2⟩
theorem Xt.trans (a:Xt env h σ H env' h' H') (b:Xt env' h' σ H' env2 h2 H2):Xt env h σ H env2 h2 H2:=by
  refine ⟨fun p o e n w nt=> ?_,fun p o e n=> ?_,fun p o e=> ?_,fun i c e=> ?_⟩
  · refine b.fr p o (a.fr p o e n w nt) ?_ (fun q=> w (a.own q)) nt
    cases q:h' p with
    | none=> rfl
    | some u=> rw [a.hn p u q n] at e;cases e
  · cases q:h' p with
    | none=>
      have z:=b.hn p o e q
      cases q2:H p with
      | none=> rfl
      | some u=>
        obtain ⟨o',e'⟩:=a.th p u q2
        rw [z] at e';cases e'
    | some u=> exact a.hn p u q n
  · obtain ⟨o',e'⟩:=a.th p o e
    exact b.th p o' e'
  · obtain ⟨c1,z⟩:=b.sl i c e
    exact a.sl i c1 z
end
end Ab
namespace Ab
open PySem PySem.Spec PyProof.Rows L2
inductive RV where
  | val (w:W) | own (c:Cont) | slot (i:Nat)
inductive Vw where
  | wv (x:W) | cv (x:Cont) | bad
def A4W:Option (Option SV)→Vw
  | some (some (.val w))=> .wv w
  | some (some (.own c))=> .cv c
  | _=> .bad
def viewW (h:AH):W→Vw
  | .ref a=> match h a with
    | some (.cont c)=> .cv c
    | _=> .wv (.ref a)
  | w=> .wv w
def view (env:A0) (h:AH):RV→Vw
  | .val w=> viewW h w
  | .own c=> .cv c
  | .slot i=> A4W env[i]?
def Vw.toW:Vw→W
  | .wv w=> w
  | .cv c=> c.fz
  | .bad=> .non
def RvRep (G:Gx) (env:A0) (h:AH) (σ:L2.St) (H:Hp):RV→V→Prop
  | .val w,v=> Rep G.K H w v
  | .own c,v=> ∃p,v= .ref p∧CRep G.K H p c∧h p=none∧G.H0 p=none∧¬OwnAt env σ p
  | .slot i,v=> σ[i]? =some (some v)
def VR (K:PySem.W.Frag) (H:Hp):Vw→V→Prop
  | .wv w,v=> Rep K H w v
  | .cv c,v=> ∃p,v= .ref p∧CRep K H p c
  | .bad,_=> True
section
variable {G:Gx} {env env':A0} {h h':AH} {σ:L2.St} {H H':Hp}
theorem VR.viewW (S:BS G env h σ H) {w:W} {v:V} (x:Rep G.K H w v):VR G.K H (viewW h w) v:=by
  cases w with
  | ref a=>
    have e:v= .ref a:=Rep.of_ref x
    subst e
    show VR G.K H (match h a with
      | some (.cont c)=> .cv c
      | _=> .wv (.ref a)) _
    cases q:h a with
    | none=> exact x
    | some o=>
      cases o with
      | cont c=> exact ⟨a,rfl,S.hp a _ q⟩
      | ins C fs=> exact x
  | _=> exact x
theorem RvRep.vr (S:BS G env h σ H) {r:RV} {v:V} (x:RvRep G env h σ H r v):VR G.K H (view env h r) v:=by
  cases r with
  | val w=> exact VR.viewW S x
  | own c=> obtain ⟨p,e,c,_⟩:=x;exact ⟨p,e,c⟩
  | slot i=>
    have e1:σ[i]? =some (some v):=x
    show VR G.K H (A4W env[i]?) v
    cases e2:env[i]? with
    | none=> trivial
    | some o=>
      cases o with
      | none=> trivial
      | some sv=>
        cases sv with
        | val w=>
          obtain ⟨u,e3,r⟩:=S.val i w e2
          rw [e1] at e3;cases e3
          exact r
        | own c=>
          obtain ⟨p,e3,r,_⟩:=S.own i c e2
          rw [e1] at e3;cases e3
          exact ⟨p,rfl,r⟩
theorem RvRep.xt (S:BS G env h σ H) (x:Xt env h σ H env' h' H') {r:RV} {v:V} (a:RvRep G env h σ H r v):RvRep G env' h' σ H' r v:=by
  cases r with
  | val w=> exact Rep.mono (x.keeps S) w v a
  | own c=>
    obtain ⟨p,e,c,n,n0,no⟩:=a
    obtain ⟨o,eo,_⟩:=c.there
    refine ⟨p,e,c.mono (x.keeps S) ((x.fr p o eo n no (c.mu_at eo).nt).trans eo.symm),?_,n0,fun q=> no (x.own q)⟩
    cases q:h' p with
    | none=> rfl
    | some u=> rw [x.hn p u q n] at eo;cases eo
  | slot i=> exact a
def New (H H':Hp):Prop:=∀p o,H p=some o→H' p=some o
theorem New.refl (H:Hp):New H H:=fun _ _ e=> e
theorem New.upd {p:Addr} {o:HO} (n:H p=none):New H (upd H p o):=fun q u e=> by rw [upd_ne (ne_of_none e n)];exact e
theorem New.keeps (n:New H H'):Keeps H H':=fun p o e _=> n p o e
theorem New.xt (n:New H H'):Xt env h σ H env h H':=⟨fun p o e _ _ _=> n p o e,fun p o e q=> (by rw [q] at e;cases e),fun p o e=> ⟨o,n p o e⟩,fun i c e=> ⟨c,e⟩⟩
theorem New.bs (n:New H H') (S:BS G env h σ H):BS G env h σ H' where
  len:=S.len
  val:=fun i w e=> let ⟨v,a,b⟩:=S.val i w e;⟨v,a,Rep.mono n.keeps w v b⟩
  own:=fun i c e=> by
    obtain ⟨p,a,b,d,f⟩:=S.own i c e
    obtain ⟨o,eo,_⟩:=b.there
    exact ⟨p,a,b.mono n.keeps ((n p o eo).trans eo.symm),d,f⟩
  uni:=S.uni
  hp:=fun a o e=> by
    obtain ⟨u,eu,_⟩:=(S.hp a o e).there
    exact (S.hp a o e).mono n.keeps ((n a u eu).trans eu.symm)
  fr:=fun p o e q t=> n p o (S.fr p o e q t)
  ext:=S.ext
  tr:=fun p o e=> let ⟨u,q⟩:=S.tr p o e;⟨u,n p u q⟩
  tabs:=S.tabs.keep fun a o e _=> n a o e
end
abbrev AT:=A0→AH→(RV→A0→AH→Prop)→Prop
abbrev B5:=A0→AH→(W→A0→AH→Prop)→Prop
abbrev B7:=A0→AH→(List W→A0→AH→Prop)→Prop
abbrev E4:=A0→AH→(Bool→A0→AH→Prop)→Prop
def A2 {α:Type} (t:A0→AH→(α→A0→AH→Prop)→Prop):Prop:=∀env h Q Q',(∀r e k,Q r e k→Q' r e k)→t env h Q→t env h Q'
def J9 (H:Hp):RV→V→Prop
  | .own _,v=> ∀p,v= .ref p→H p=none
  | _,_=> True
def cE (G:Gx) (t:AT):TE:=fun σ H Q=> ∃env h,BS G env h σ H∧t env h fun r env' h'=> ∀v H',BS G env' h' σ H'→Xt env h σ H env' h' H'→RvRep G env' h' σ H' r v→J9 H r v→Q v H'
def cV (G:Gx) (t:B5):TE:=fun σ H Q=> ∃env h,BS G env h σ H∧t env h fun w env' h'=> ∀v H',BS G env' h' σ H'→Xt env h σ H env' h' H'→Rep G.K H' w v→Q v H'
def cA (G:Gx) (t:B7):TA:=fun σ H Q=> ∃env h,BS G env h σ H∧t env h fun ws env' h'=> ∀vs H',BS G env' h' σ H'→Xt env h σ H env' h' H'→RepL G.K H' ws vs→Q vs H'
def cT (G:Gx) (t:E4):TT:=fun σ H Q=> ∃env h,BS G env h σ H∧t env h fun b env' h'=> ∀H',BS G env' h' σ H'→Xt env h σ H env' h' H'→Q b H'
structure AE (X:Cx) (G:Gx) (e:Expr) (t:AT):Prop where
  mono:A2 t
  pe:PE X e (cE G t)
structure AV (X:Cx) (G:Gx) (e:Expr) (t:B5):Prop where
  mono:A2 t
  pe:PE X e (cV G t)
structure AA (X:Cx) (G:Gx) (es:List Expr) (t:B7):Prop where
  mono:A2 t
  pa:PA X es (cA G t)
structure AP (X:Cx) (G:Gx) (e:Expr) (t:E4):Prop where
  mono:A2 t
  pt:PT X e (cT G t)
theorem PE.imp {X:Cx} {e:Expr} {t t':TE} (h:PE X e t) (i:∀σ H Q,t' σ H Q→t σ H Q):PE X e t':=⟨fun pins s σ H Q I q=> h.run pins s σ H Q I (i σ H Q q)⟩
theorem PA.imp {X:Cx} {e:List Expr} {t t':TA} (h:PA X e t) (i:∀σ H Q,t' σ H Q→t σ H Q):PA X e t':=⟨fun pos pins s σ H Q I q=> h.run pos pins s σ H Q I (i σ H Q q)⟩
theorem PT.imp {X:Cx} {e:Expr} {t t':TT} (h:PT X e t) (i:∀σ H Q,t' σ H Q→t σ H Q):PT X e t':=⟨fun pins s σ H Q I q=> h.run pins s σ H Q I (i σ H Q q)⟩
theorem PS.imp {X:Cx} {e:Stmt} {t t':TS} (h:PS X e t) (i:∀D σ H,t' D σ H→t D σ H):PS X e t':=⟨fun pins s σ H Q I q=> h.run pins s σ H Q I (i Q σ H q)⟩
theorem PSs.imp {X:Cx} {e:List Stmt} {t t':TS} (h:PSs X e t) (i:∀D σ H,t' D σ H→t D σ H):PSs X e t':=⟨fun pins s σ H Q I q=> h.run pins s σ H Q I (i Q σ H q)⟩
section
variable {X:Cx} {G:Gx}
def aVar (i:Nat):AT:=fun env h Q=> match env[i]? with
  | some (some (.val w))=> Q (.val w) env h
  | some (some (.own _))=> Q (.slot i) env h
  | _=> False
def aC (w:W):AT:=fun env h Q=> Q (.val w) env h
theorem aVar.mono {i:Nat}:A2 (aVar i):=fun env h Q Q' k q=> by
  unfold aVar at q ⊢
  split at q
  · exact k _ _ _ q
  · exact k _ _ _ q
  · exact q
theorem aC.mono {w:W}:A2 (aC w):=fun env h Q Q' k q=> k _ _ _ q
theorem A1 {e:Expr} {i:Nat} (h:PE X e (tVar i)):AE X G e (aVar i):=by
  refine ⟨aVar.mono,PE.imp h fun σ H Q ⟨env,k,S,q⟩=> ?_⟩
  unfold aVar at q
  split at q
  · rename_i w e
    obtain ⟨v,e1,r⟩:=S.val i w e
    exact ⟨v,e1,q v H S .refl r trivial⟩
  · rename_i c e
    obtain ⟨p,e1,r⟩:=S.own i c e
    exact ⟨_,e1,q _ H S .refl e1 trivial⟩
  · exact q.elim
theorem A0W {e:Expr} {w:W} {v:V} (h:PE X e (tC v)) (r:∀H,Rep G.K H w v):AE X G e (aC w):=
  ⟨aC.mono,PE.imp h fun σ H Q ⟨env,k,S,q⟩=> q v H S .refl (r H) trivial⟩
theorem ae_int {i j pos}:AE X G (.Constant (.int i) j pos) (aC (.int i)):=A0W pe_int fun _=> .int
theorem A1J {i j pos}:AE X G (.Constant (.bool i) j pos) (aC (.bl i)):=A0W pe_bl fun _=> .bl
theorem A39 {j pos}:AE X G (.Constant .none j pos) (aC .non):=A0W pe_non fun _=> .non
theorem A4G {i j pos}:AE X G (.Constant (.str i) j pos) (aC (.str i)):=A0W pe_str fun _=> .str
def aFz (t:AT):B5:=fun env h Q=> t env h fun r env' h'=> match r with
  | .val w=> Q w env' h'
  | .own c=> Q c.fz env' h'
  | .slot i=> match env'[i]? with
    | some (some (.val w))=> Q w env' h'
    | some (some (.own c))=> Q c.fz (env'.set i (some (.val c.fz))) h'
    | _=> False
theorem aFz.mono {t:AT} (m:A2 t):A2 (aFz t):=fun env h Q Q' k q=> by
  refine m env h _ _ (fun r e g z=> ?_) q
  cases r with
  | val w=> exact k _ _ _ z
  | own c=> exact k _ _ _ z
  | slot i=>
    show match e[i]? with
      | some (some (.val w))=> Q' w e g
      | some (some (.own c))=> Q' c.fz (e.set i (some (.val c.fz))) g
      | _=> False
    have z:match e[i]? with
      | some (some (.val w))=> Q w e g
      | some (some (.own c))=> Q c.fz (e.set i (some (.val c.fz))) g
      | _=> False:=z
    split at z
    · exact k _ _ _ z
    · exact k _ _ _ z
    · exact z
theorem A7Z {K:PySem.W.Frag} {H:Hp} {p:Addr} {c:Cont} (r:CRep K H p c) (hp:∃u,H p=some u∧Mu u):∃u,H p=some u∧Mu u∧∀od,Rep K (upd H p (.frz od u)) c.fz (.ref p):=by
  have keep:∀(u:HO) (od:Obj),H p=some u→Mu u→Keeps H (upd H p (.frz od u)):=fun u od e m q o e' i=> by
    have n:q≠p:=fun z=> by rw [z,e] at e';cases e';exact m.imm i
    rw [upd_ne n];exact e'
  cases c with
  | seq ws=>
    obtain ⟨vs,e,r⟩:=r
    refine ⟨_,e,trivial,fun od=> ?_⟩
    exact .lst ⟨od,upd_same⟩ (RepL.mono (keep _ od e trivial) _ _ r)
  | map kvs=>
    rcases r with ⟨ks,e,t,r⟩ | ⟨ks,e,t,r⟩
    · refine ⟨_,e,trivial,fun od=> ?_⟩
      show Rep K _ (.dct _ _) _
      simp only [Rep]
      exact ⟨p,rfl,.inl ⟨od,ks,upd_same,t,RepL.mono (keep _ od e trivial) _ _ r⟩⟩
    · refine ⟨_,e,trivial,fun od=> ?_⟩
      show Rep K _ (.dct _ _) _
      simp only [Rep]
      exact ⟨p,rfl,.inr ⟨od,ks,upd_same,t,RepL.mono (keep _ od e trivial) _ _ r⟩⟩
theorem BS.freeze {env env':A0} {h:AH} {σ:L2.St} {H:Hp} (S:BS G env h σ H) {p:Addr} {u:HO} (od:Obj) (e:H p=some u) (m:Mu u) (n:h p=none) (n0:G.H0 p=none)
    (len:env'.length=env.length)
    (v':∀(i:Nat) (w:W),env'[i]? =some (some (SV.val w))→env[i]? =some (some (SV.val w))∨∃v,σ[i]? =some (some v)∧Rep G.K (upd H p (.frz od u)) w v)
    (o':∀(i:Nat) (c:Cont),env'[i]? =some (some (SV.own c))→env[i]? =some (some (SV.own c))∧σ[i]? ≠some (some (V.ref p))):BS G env' h σ (upd H p (.frz od u)):=by
  have keep:Keeps H (upd H p (.frz od u)):=fun q o e' i=> by
    have n:q≠p:=fun z=> by rw [z,e] at e';cases e';exact m.imm i
    rw [upd_ne n];exact e'
  refine ⟨len.trans S.len,fun i w z=> ?_,fun i c z=> ?_,fun i j c c' q a b=> ?_,fun a o z=> ?_,fun q o z y t=> ?_,S.ext,fun q o z=> ?_,S.tabs.upd fun o z=> (by rw [e] at z;cases z;exact m)⟩
  · rcases v' i w z with z | z
    · obtain ⟨v,a,b⟩:=S.val i w z
      exact ⟨v,a,Rep.mono keep w v b⟩
    · exact z
  · obtain ⟨z,ne⟩:=o' i c z
    obtain ⟨q,a,b,d,f⟩:=S.own i c z
    have nq:q≠p:=fun y=> ne (by rw [a,y])
    exact ⟨q,a,b.mono keep (upd_ne nq),d,f⟩
  · exact S.uni i j c c' q (o' i c a).1 (o' j c' b).1
  · have na:a≠p:=fun y=> by rw [y,n] at z;cases z
    exact (S.hp a o z).mono keep (upd_ne na)
  · have nq:q≠p:=fun x=> by rw [x,n0] at z;cases z
    rw [upd_ne nq];exact S.fr q o z y t
  · by_cases hq:q=p
    · subst hq;exact ⟨_,upd_same⟩
    · obtain ⟨u',e'⟩:=S.tr q o z
      exact ⟨u',by rw [upd_ne hq];exact e'⟩
theorem Xt.freeze {env env' env2:A0} {h h':AH} {σ:L2.St} {H H1:Hp} {p:Addr} {u:HO} {od:Obj} (x:Xt env h σ H env' h' H1) (e:H1 p=some u) (f:H p=none∨OwnAt env σ p)
    (sl:∀(i:Nat) (c:Cont),env2[i]? =some (some (SV.own c))→env'[i]? =some (some (SV.own c))):Xt env h σ H env2 h' (upd H1 p (.frz od u)):=by
  refine ⟨fun q o e n w t=> ?_,x.hn,fun q o e=> ?_,fun i c e=> x.sl i c (sl i c e)⟩
  · have nq:q≠p:=fun y=> by
      rcases f with f | f
      · rw [y,f] at e;cases e
      · exact w (y▸f)
    rw [upd_ne nq];exact x.fr q o e n w t
  · by_cases hq:q=p
    · subst hq;exact ⟨_,upd_same⟩
    · rw [upd_ne hq];exact x.th q o e
theorem A01 {env:A0} {i j:Nat} {sv sv':SV} (e:env[i]? =some (some sv)):(env.set i (some sv'))[j]? =if j=i then some (some sv') else env[j]? :=by
  have hi:i < env.length:=(List.getElem?_eq_some_iff.mp e).1
  by_cases hj:j=i
  · subst hj;rw [if_pos rfl,List.getElem?_set_self hi]
  · rw [if_neg hj,List.getElem?_set_ne (Ne.symm hj)]
theorem A3f {env env':A0} {h h':AH} {σ:L2.St} {H H1:Hp} {i:Nat} {c:Cont} {pins:List (Addr×Obj)} {s:Shared} (S:BS G env' h' σ H1) (x:Xt env h σ H env' h' H1) (I:Inv X pins σ H1 s) (e:env'[i]? =some (some (.own c))):
    ∃p H2,σ[i]? =some (some (V.ref p))∧Inv X pins σ H2 s∧BS G (env'.set i (some (.val c.fz))) h' σ H2∧Xt env h σ H (env'.set i (some (.val c.fz))) h' H2∧Rep G.K H2 c.fz (.ref p):=by
  obtain ⟨p,es,cr,n,n0⟩:=S.own i c e
  obtain ⟨u,eu,mu,fr⟩:=A7Z cr cr.there
  obtain ⟨od,I2⟩:=I.lock eu mu.mut
  refine ⟨p,_,es,I2,S.freeze od eu mu n n0 (by simp) (fun j w z=> ?_) (fun j d z=> ?_),x.freeze eu (.inr ?_) (fun j d z=> ?_),fr od⟩
  · rw [A01 e] at z
    by_cases hj:j=i
    · rw [if_pos hj] at z
      cases z
      exact .inr ⟨_,hj▸es,fr od⟩
    · rw [if_neg hj] at z;exact .inl z
  · rw [A01 e] at z
    by_cases hj:j=i
    · rw [if_pos hj] at z;cases z
    · rw [if_neg hj] at z
      exact ⟨z,fun y=> hj (S.uni j i d c p z e y es)⟩
  · exact x.own ⟨i,c,e,es⟩
  · rw [A01 e] at z
    by_cases hj:j=i
    · rw [if_pos hj] at z;cases z
    · rw [if_neg hj] at z;exact z
theorem B0S {env env':A0} {h h':AH} {σ:L2.St} {H H1:Hp} {c:Cont} {v:V} {pins:List (Addr×Obj)} {s:Shared} (S:BS G env' h' σ H1) (x:Xt env h σ H env' h' H1) (I:Inv X pins σ H1 s) (r:RvRep G env' h' σ H1 (.own c) v) (f:J9 H (.own c) v):
    ∃H2,Inv X pins σ H2 s∧BS G env' h' σ H2∧Xt env h σ H env' h' H2∧Rep G.K H2 c.fz v:=by
  obtain ⟨p,ex,cr,n,n0,no⟩:=r
  obtain ⟨u,eu,mu,fr⟩:=A7Z cr cr.there
  obtain ⟨od,I2⟩:=I.lock eu mu.mut
  subst ex
  exact ⟨_,I2,S.freeze od eu mu n n0 rfl (fun i w e=> .inl e) fun i c e=> ⟨e,fun y=> no ⟨i,c,e,y⟩⟩,x.freeze eu (.inl (f p rfl)) fun i c e=> e,fr od⟩
theorem A8 {e:Expr} {t:AT} (a:AE X G e t):AV X G e (aFz t):=by
  refine ⟨aFz.mono a.mono,⟨fun pins s σ H Q I ⟨env,h,S,q⟩=> ?_⟩⟩
  refine thn (a.pe.run pins s σ H (fun v H1=> ∃r env' h',BS G env' h' σ H1∧Xt env h σ H env' h' H1∧RvRep G env' h' σ H1 r v∧J9 H r v∧match r with
    | .val w=> ∀v H',BS G env' h' σ H'→Xt env h σ H env' h' H'→Rep G.K H' w v→Q v H'
    | .own c=> ∀v H',BS G env' h' σ H'→Xt env h σ H env' h' H'→Rep G.K H' c.fz v→Q v H'
    | .slot i=> match env'[i]? with
      | some (some (.val w))=> ∀v H',BS G env' h' σ H'→Xt env h σ H env' h' H'→Rep G.K H' w v→Q v H'
      | some (some (.own c))=> ∀v H',BS G (env'.set i (some (.val c.fz))) h' σ H'→Xt env h σ H (env'.set i (some (.val c.fz))) h' H'→Rep G.K H' c.fz v→Q v H'
      | _=> False) I ⟨env,h,S,a.mono env h _ _ (fun r env' h' z v H1 S1 x1 r1 f1=> ⟨r,env',h',S1,x1,r1,f1,z⟩) q⟩) fun v s1 ⟨x,H1,I1,r1,r,env',h',S1,x1,rr,f1,z⟩=> ?_
  cases r with
  | val w=> exact ⟨x,H1,I1,r1,z x H1 S1 x1 rr⟩
  | own c=>
    obtain ⟨H2,I2,S2,x2,r2⟩:=B0S S1 x1 I1 rr f1
    exact ⟨x,H2,I2,r1,z x H2 S2 x2 r2⟩
  | slot i=>
    have es:σ[i]? =some (some x):=rr
    have z:match env'[i]? with
      | some (some (.val w))=> ∀v H',BS G env' h' σ H'→Xt env h σ H env' h' H'→Rep G.K H' w v→Q v H'
      | some (some (.own c))=> ∀v H',BS G (env'.set i (some (.val c.fz))) h' σ H'→Xt env h σ H (env'.set i (some (.val c.fz))) h' H'→Rep G.K H' c.fz v→Q v H'
      | _=> False:=z
    split at z
    · rename_i w e
      obtain ⟨u,e3,r⟩:=S1.val i w e
      rw [es] at e3;cases e3
      exact ⟨x,H1,I1,r1,z x H1 S1 x1 r⟩
    · rename_i c e
      obtain ⟨p,H2,ep,I2,S2,x2,r2⟩:=A3f S1 x1 I1 e
      rw [es] at ep;cases ep
      exact ⟨_,H2,I2,r1,z _ H2 S2 x2 r2⟩
    · exact z.elim
def aNil:B7:=fun env h Q=> Q [] env h
def aCons (t:B5) (u:B7):B7:=fun env h Q=> t env h fun w env' h'=> u env' h' fun ws env2 h2=> Q (w::ws) env2 h2
theorem aNil.mono:A2 aNil:=fun env h Q Q' k q=> k _ _ _ q
theorem aCons.mono {t:B5} {u:B7} (m:A2 t) (n:A2 u):A2 (aCons t u):=fun env h Q Q' k q=> m env h _ _ (fun w e g z=> n e g _ _ (fun ws e2 g2 z2=> k _ _ _ z2) z) q
theorem J8:AA X G [] aNil:=⟨aNil.mono,PA.imp pa_nil fun σ H Q ⟨env,h,S,q⟩=> q [] H S .refl .nil⟩
theorem D8 {e:Expr} {es:List Expr} {t:B5} {u:B7} (a:AV X G e t) (b:AA X G es u) (hs:starEach (e::es) X.env=(false,eval e X.env)::starEach es X.env:=by rfl):AA X G (e::es) (aCons t u):=by
  refine ⟨aCons.mono a.mono b.mono,PA.imp (pa_cons a.pe b.pa hs) fun σ H Q ⟨env,h,S,q⟩=> ?_⟩
  refine ⟨env,h,S,a.mono env h _ _ (fun w env1 h1 z v H1 S1 x1 r1=> ?_) q⟩
  refine ⟨env1,h1,S1,b.mono env1 h1 _ _ (fun ws env2 h2 z vs H2 S2 x2 r2=> ?_) z⟩
  exact z (v::vs) H2 S2 (x1.trans x2) (.cons (Rep.mono (x2.keeps S1) w v r1) r2)
def aTup (t:B7):AT:=fun env h Q=> t env h fun ws env' h'=> ws.length≤sizeLine∧Q (.val (.tup ws)) env' h'
def aLst (t:B7):AT:=fun env h Q=> t env h fun ws env' h'=> ws.length≤sizeLine∧Q (.own (.seq ws)) env' h'
theorem aTup.mono {t:B7} (m:A2 t):A2 (aTup t):=fun env h Q Q' k q=> m env h _ _ (fun ws e g z=> ⟨z.1,k _ _ _ z.2⟩) q
theorem aLst.mono {t:B7} (m:A2 t):A2 (aLst t):=fun env h Q Q' k q=> m env h _ _ (fun ws e g z=> ⟨z.1,k _ _ _ z.2⟩) q
section
variable {env:A0} {h:AH} {σ:L2.St} {H:Hp}
theorem BS.noAt (S:BS G env h σ H) {p:Addr} (n:H p=none):h p=none∧G.H0 p=none∧¬OwnAt env σ p:=by
  refine ⟨?_,?_,fun ⟨i,c,e1,e2⟩=> ?_⟩
  · cases q:h p with
    | none=> rfl
    | some u=> obtain ⟨o,e,_⟩:=(S.hp p u q).there;rw [n] at e;cases e
  · cases q:G.H0 p with
    | none=> rfl
    | some o=> obtain ⟨u,e⟩:=S.tr p o q;rw [n] at e;cases e
  · obtain ⟨q,e3,cr,_⟩:=S.own i c e1
    rw [e2] at e3;cases e3
    obtain ⟨o,e,_⟩:=cr.there;rw [n] at e;cases e
theorem A0F {es:List Expr} {t:B7} {x1 pos} (a:AA X G es t):AE X G (.Tuple es x1 pos) (aTup t):=by
  refine ⟨aTup.mono a.mono,PE.imp (pe_tup a.pa) fun σ H Q ⟨env,h,S,q⟩=> ?_⟩
  refine ⟨env,h,S,a.mono env h _ _ (fun ws env1 h1 z vs H1 S1 x1 r1=> ⟨by rw [←r1.length];exact z.1,fun p n=> ?_⟩) q⟩
  have nw:New H1 (upd H1 p (.tup vs)):=New.upd n
  exact z.2 (.ref p) _ (nw.bs S1) (x1.trans nw.xt) (.tup (.inl upd_same) (RepL.mono nw.keeps _ _ r1)) trivial
theorem Xt.fresh {env env':A0} {h':AH} {H':Hp} (x:Xt env h σ H env' h' H') {p:Addr} (n:H' p=none):H p=none:=by
  cases q:H p with
  | none=> rfl
  | some o=> obtain ⟨u,e⟩:=x.th p o q;rw [n] at e;cases e
theorem A35 {env env1:A0} {h h1:AH} {σ:L2.St} {H H1:Hp} {p:Addr} {o:HO} {c:Cont} (S:BS G env1 h1 σ H1) (x:Xt env h σ H env1 h1 H1) (n:H1 p=none) (r:New H1 (upd H1 p o)→CRep G.K (upd H1 p o) p c):
    BS G env1 h1 σ (upd H1 p o)∧Xt env h σ H env1 h1 (upd H1 p o)∧RvRep G env1 h1 σ (upd H1 p o) (.own c) (.ref p)∧J9 H (.own c) (.ref p):=by
  have nw:New H1 (upd H1 p o):=New.upd n
  obtain ⟨a,b,d⟩:=S.noAt n
  exact ⟨nw.bs S,x.trans nw.xt,⟨p,rfl,r nw,a,b,d⟩,fun q e=> by cases e;exact x.fresh n⟩
theorem Q9 {es:List Expr} {t:B7} {pos} (a:AA X G es t):AE X G (.List es pos) (aLst t):=by
  refine ⟨aLst.mono a.mono,PE.imp (pe_lst a.pa) fun σ H Q ⟨env,h,S,q⟩=> ?_⟩
  refine ⟨env,h,S,a.mono env h _ _ (fun ws env1 h1 z vs H1 S1 x1 r1=> ⟨by rw [←r1.length];exact z.1,fun p n=> ?_⟩) q⟩
  obtain ⟨S2,x2,r2,f2⟩:=A35 S1 x1 n (o:= .lst vs) (c:= .seq ws) fun nw=> ⟨vs,upd_same,RepL.mono nw.keeps _ _ r1⟩
  exact z.2 _ _ S2 x2 r2 f2
end
end
end Ab
namespace Ab
open PySem PySem.Spec PyProof.Rows L2
def Vw.seq:Vw→Option (List W)
  | .wv (.lst xs)=> some xs
  | .cv (.seq xs)=> some xs
  | _=> none
def Vw.tpl:Vw→Option (List W)
  | .wv (.tup xs)=> some xs
  | _=> none
section
variable {K:PySem.W.Frag} {H:Hp} {a:Vw} {v:V} {xs:List W}
theorem VR.seq (r:VR K H a v) (e:a.seq=some xs):∃p vs,v= .ref p∧Rd H p (.lst vs)∧RepL K H xs vs:=by
  cases a with
  | wv w=>
    cases w with
    | lst ys=>
      cases e
      obtain ⟨p,vs,e1,⟨o,l⟩,r⟩:=Rep.of_lst r
      exact ⟨p,vs,e1,.inr ⟨o,l⟩,r⟩
    | _=> cases e
  | cv c=>
    cases c with
    | seq ys=>
      cases e
      obtain ⟨p,e1,vs,l,r⟩:=r
      exact ⟨p,vs,e1,.inl l,r⟩
    | map _=> cases e
  | bad=> cases e
theorem VR.tplT (r:VR K H a v) (e:a.tpl=some xs):∃p vs,v= .ref p∧TqT K H p vs∧RepL K H xs vs:=by
  cases a with
  | wv w=>
    cases w with
    | tup ys=> cases e;exact Rep.of_tupT r
    | _=> cases e
  | _=> cases e
theorem VR.tpl (r:VR K H a v) (e:a.tpl=some xs):∃p vs,v= .ref p∧SqT K H p vs∧RepL K H xs vs:=let ⟨p,vs,e,s,r⟩:=r.tplT e;⟨p,vs,e,s.sq,r⟩
theorem VR.int {i:Int} (r:VR K H (.wv (.int i)) v):v= .int i:=Rep.of_int (K:=K) (H:=H) r
theorem VR.str {i:Str} (r:VR K H (.wv (.str i)) v):v= .str i:=Rep.of_str (K:=K) (H:=H) r
theorem VR.bl {i:Bool} (r:VR K H (.wv (.bl i)) v):v= .bl i:=Rep.of_bl (K:=K) (H:=H) r
theorem VR.non (r:VR K H (.wv .non) v):v= .non:=Rep.of_non (K:=K) (H:=H) r
end
def OutR (K:PySem.W.Frag) (H:Hp) (Q:RV→Prop) (v:V) (H':Hp):Prop:=
  (H'=H∧∃w,Q (.val w)∧Rep K H w v)∨∃p o,H p=none∧H'=upd H p o∧v= .ref p∧((∃w,Q (.val w)∧Rep K H' w v)∨∃c,Q (.own c)∧CRep K H' p c)
theorem OutR.val {K:PySem.W.Frag} {H:Hp} {Q:RV→Prop} {w:W} {v:V} (q:Q (.val w)) (r:Rep K H w v):OutR K H Q v H:= .inl ⟨rfl,w,q,r⟩
theorem OutR.tup {K:PySem.W.Frag} {H:Hp} {Q:RV→Prop} {ws:List W} {vs:List V} {p:Addr} (n:H p=none) (q:Q (.val (.tup ws))) (r:RepL K H ws vs):OutR K H Q (.ref p) (upd H p (.tup vs)):=
  .inr ⟨p,_,n,rfl,rfl,.inl ⟨_,q,.tup (.inl upd_same) (RepL.mono (New.upd n).keeps _ _ r)⟩⟩
theorem OutR.lst {K:PySem.W.Frag} {H:Hp} {Q:RV→Prop} {ws:List W} {vs:List V} {p:Addr} (n:H p=none) (q:Q (.own (.seq ws))) (r:RepL K H ws vs):OutR K H Q (.ref p) (upd H p (.lst vs)):=
  .inr ⟨p,_,n,rfl,rfl,.inr ⟨_,q,vs,upd_same,RepL.mono (New.upd n).keeps _ _ r⟩⟩
section
variable {G:Gx} {env env1:A0} {h h1:AH} {σ:L2.St} {H H1 H2:Hp}
theorem OutR.end {Q0:RV→Prop} {v:V} (S:BS G env1 h1 σ H1) (x:Xt env h σ H env1 h1 H1) (o:OutR G.K H1 Q0 v H2):
    ∃r,Q0 r∧BS G env1 h1 σ H2∧Xt env h σ H env1 h1 H2∧RvRep G env1 h1 σ H2 r v∧J9 H r v:=by
  rcases o with ⟨rfl,w,q,r⟩ | ⟨p,o,n,rfl,rfl,⟨w,q,r⟩ | ⟨c,q,r⟩⟩
  · exact ⟨_,q,S,x,r,trivial⟩
  · have nw:New H1 (upd H1 p o):=New.upd n
    exact ⟨_,q,nw.bs S,x.trans nw.xt,r,trivial⟩
  · obtain ⟨a,b,c,d⟩:=A35 S x n fun _=> r
    exact ⟨_,q,a,b,c,d⟩
end
abbrev E9:=Vw→Vw→(RV→Prop)→Prop
structure OpA (K:PySem.W.Frag) (r:R2) (o:E9):Prop where
  mono:∀a b Q Q',(∀r,Q r→Q' r)→o a b Q→o a b Q'
  ok:∀a b x y H Q0 Q,VR K H a x→VR K H b y→o a b Q0→(∀v H',OutR K H Q0 v H'→Q v H')→r x y H Q
def aOp2 (o:E9) (ta tb:AT):AT:=fun env h Q=> ta env h fun rx env1 h1=> tb env1 h1 fun ry env2 h2=> o (view env2 h2 rx) (view env2 h2 ry) fun r=> Q r env2 h2
theorem aOp2.mono {K:PySem.W.Frag} {r:R2} {o:E9} (oa:OpA K r o) {ta tb:AT} (a:A2 ta) (b:A2 tb):A2 (aOp2 o ta tb):=fun env h Q Q' k q=>
  a env h _ _ (fun rx e g z=> b e g _ _ (fun ry e2 g2 z2=> oa.mono _ _ _ _ (fun r z3=> k _ _ _ z3) z2) z) q
section
variable {X:Cx} {G:Gx}
theorem A2C {ta tb:AT} {o:E9} {r:R2} (ma:A2 ta) (mb:A2 tb) (oa:OpA G.K r o) {σ:L2.St} {H:Hp} {Q:VK} (q:cE G (aOp2 o ta tb) σ H Q):tOp r (cE G ta) (cE G tb) σ H Q:=by
  obtain ⟨env,h,S,q⟩:=q
  refine ⟨env,h,S,ma env h _ _ (fun rx env1 h1 z x H1 S1 x1 r1 f1=> ?_) q⟩
  refine ⟨env1,h1,S1,mb env1 h1 _ _ (fun ry env2 h2 z2 y H2 S2 x2 r2 f2=> ?_) z⟩
  refine oa.ok _ _ _ _ _ _ _ ((r1.xt S1 x2).vr S2) (r2.vr S2) z2 fun v H3 out=> ?_
  obtain ⟨res,q0,S3,x3,r3,f3⟩:=out.end S2 (x1.trans x2)
  exact q0 v H3 S3 x3 r3 f3
theorem A1I {op:Operator} {r:R2} {o:E9} {a b:Expr} {ta tb:AT} {pos:Pos} (ho:OpR X (binaryOp op) r) (oa:OpA G.K r o) (ha:AE X G a ta) (hb:AE X G b tb):AE X G (.BinOp a op b pos) (aOp2 o ta tb):=
  ⟨aOp2.mono oa ha.mono hb.mono,PE.imp (pe_op ho ha.pe hb.pe) fun _ _ _ q=> A2C ha.mono hb.mono oa q⟩
theorem A7p {op:CmpOp} {r:R2} {o:E9} {a b:Expr} {ta tb:AT} {pos:Pos} (ho:OpR X (compareOp op) r) (oa:OpA G.K r o) (ha:AE X G a ta) (hb:AE X G b tb) (hm:behindInMarks op b=false):AE X G (.Compare a [op] [b] pos) (aOp2 o ta tb):=
  ⟨aOp2.mono oa ha.mono hb.mono,PE.imp (pe_cmpR ho ha.pe hb.pe hm) fun _ _ _ q=> A2C ha.mono hb.mono oa q⟩
end
theorem OpA.or {K:PySem.W.Frag} {r r':R2} {o o':E9} (a:OpA K r o) (b:OpA K r' o'):OpA K (fun x y H Q=> r x y H Q∨r' x y H Q) (fun x y Q=> o x y Q∨o' x y Q):=
  ⟨fun x y Q Q' k q=> q.elim (fun z=> .inl (a.mono x y Q Q' k z)) fun z=> .inr (b.mono x y Q Q' k z),fun x y u v H Q0 Q r1 r2 q k=> q.elim (fun z=> .inl (a.ok x y u v H Q0 Q r1 r2 z k)) fun z=> .inr (b.ok x y u v H Q0 Q r1 r2 z k)⟩
theorem OpA.as {K:PySem.W.Frag} {r:R2} {o o':E9} (a:OpA K r o) (i:∀x y Q,o' x y Q→o x y Q) (m:∀a b Q Q',(∀r,Q r→Q' r)→o' a b Q→o' a b Q'):OpA K r o':=⟨m,fun x y u v H Q0 Q r1 r2 q k=> a.ok x y u v H Q0 Q r1 r2 (i _ _ _ q) k⟩
def oII (C:Int→Int→Prop) (g:Int→Int→W):E9:=fun a b Q=> match a,b with
  | .wv (.int i),.wv (.int j)=> C i j∧Q (.val (g i j))
  | _,_=> False
theorem oII.mono {C:Int→Int→Prop} {g:Int→Int→W} (a b:Vw) (Q Q':RV→Prop) (k:∀r,Q r→Q' r) (q:oII C g a b Q):oII C g a b Q':=by
  unfold oII at q ⊢
  split at q
  · exact ⟨q.1,k _ q.2⟩
  · exact q.elim
theorem oII.get {C:Int→Int→Prop} {g:Int→Int→W} {a b:Vw} {Q:RV→Prop} (q:oII C g a b Q):∃i j,a= .wv (.int i)∧b= .wv (.int j)∧C i j∧Q (.val (g i j)):=by
  unfold oII at q
  split at q
  · exact ⟨_,_,rfl,rfl,q⟩
  · exact q.elim
theorem A34 {K:PySem.W.Frag} {C:Int→Int→Prop} {g:Int→Int→V} {g':Int→Int→W} (hg:∀H i j,Rep K H (g' i j) (g i j)):OpA K (rI C g) (oII C g'):=
  ⟨fun a b Q Q' k q=> oII.mono a b Q Q' k q,fun a b x y H Q0 Q ra rb q k=> by
    obtain ⟨i,j,rfl,rfl,c,q⟩:=q.get
    exact ⟨i,j,ra.int,rb.int,c,k _ _ (.val q (hg H i j))⟩⟩
theorem A19 {K:PySem.W.Frag} {g:Int→Int→V} {g':Int→Int→W} (hg:∀H i j,Rep K H (g' i j) (g i j)):OpA K (rI0 g) (oII (fun _ _=> True) g'):=
  ⟨fun a b Q Q' k q=> oII.mono a b Q Q' k q,fun a b x y H Q0 Q ra rb q k=> by
    obtain ⟨i,j,rfl,rfl,c,q⟩:=q.get
    exact ⟨i,j,ra.int,rb.int,k _ _ (.val q (hg H i j))⟩⟩
def A81 (_ j:Int):Prop:=0 < j
section
variable {X:Cx} {G:Gx} {a b:Expr} {ta tb:AT} {pos:Pos}
theorem v3 (ha:AE X G a ta) (hb:AE X G b tb):AE X G (.BinOp a .Mod b pos) (aOp2 (oII A81 fun i j=> .int (i % j)) ta tb):=A1I op_mod (A34 (C:=fun _ j=> 0 < j) fun _ _ _=> .int) ha hb
theorem A7L (ha:AE X G a ta) (hb:AE X G b tb):AE X G (.BinOp a .FloorDiv b pos) (aOp2 (oII CDivW fun i j=> .int (i / j)) ta tb):=A1I op_fdivW (A34 fun _ _ _=> .int) ha hb
end
end Ab
namespace Ab
open PySem PySem.Spec PyProof.Rows L2
section
variable {X:Cx}
theorem A7l {pins:List (Addr×Obj)} {σ:L2.St} {H:Hp} {s:Shared} {l:Addr} {xs:List V} (I:Inv X pins σ H s) (r:Rd H l (.lst xs)):
    xs.length≤sizeLine∧∃(us:List Value) (n:Nat),Vals xs us∧s.heap.get? l=some { cls:= .type "list",data:= .seq us.toArray n }:=r.ok I.hok
def A8K:R2:=fun x y H Q=> ∃l b xs zs,x= .ref l∧y= .ref b∧Rd H l (.lst xs)∧Rd H b (.lst zs)∧xs.length+zs.length≤sizeLine∧∀p,H p=none→Q (.ref p) (upd H p (.lst (xs++zs)))
theorem B2U:OpR X (binaryOp .Add) A8K:=fun pins s σ H x y v u Q I rx ry h=> by
  obtain ⟨l,b,xs,zs,rfl,rfl,h1,h2,hz,q⟩:=h
  obtain rfl:v= .ref l:=rx
  obtain rfl:u= .ref b:=ry
  obtain ⟨_,us,n,r1,e1⟩:=A7l I h1
  obtain ⟨_,ws,m,r2,e2⟩:=A7l I h2
  have z:us.toArray.size+ws.toArray.size≤sizeLine:=by
    rw [List.size_toArray,List.size_toArray,←r1.length,←r2.length];exact hz
  have w:=r1.append r2
  refine PySem.P.add_list e1 e2 ?_ z
  rw [show us.toArray++ws.toArray=(us++ws).toArray from by simp]
  refine ⟨.ref _,_,I.lnew (t':=s.toks) w ?_,rfl,q _ I.fresh⟩
  rw [List.length_append];exact hz
end
def A8p:E9:=fun a b Q=> ∃xs ys,a.seq=some xs∧b.seq=some ys∧xs.length+ys.length≤sizeLine∧Q (.own (.seq (xs++ys)))
theorem B2N {K:PySem.W.Frag}:OpA K A8K A8p:=
  ⟨fun a b Q Q' k ⟨xs,ys,e,f,z,q⟩=> ⟨xs,ys,e,f,z,k _ q⟩,fun a b x y H Q0 Q ra rb q k=> by
    obtain ⟨xs,ys,e,f,z,q⟩:=q
    obtain ⟨p,vs,rfl,d1,r1⟩:=ra.seq e
    obtain ⟨p',us,rfl,d2,r2⟩:=rb.seq f
    exact ⟨p,p',vs,us,rfl,rfl,d1,d2,by rw [←r1.length,←r2.length];exact z,fun l n=> k _ _ (.lst n q (r1.append r2))⟩⟩
def A8G:E9:=fun a b Q=> ∃xs ys,a.tpl=some xs∧b.tpl=some ys∧xs.length+ys.length≤sizeLine∧Q (.val (.tup (xs++ys)))
theorem B1a {K:PySem.W.Frag}:OpA K (rCatA K) A8G:=
  ⟨fun a b Q Q' k ⟨xs,ys,e,f,z,q⟩=> ⟨xs,ys,e,f,z,k _ q⟩,fun a b x y H Q0 Q ra rb q k=> by
    obtain ⟨xs,ys,e,f,z,q⟩:=q
    obtain ⟨p,vs,rfl,d1,r1⟩:=ra.tplT e
    obtain ⟨p',us,rfl,d2,r2⟩:=rb.tplT f
    refine ⟨p,p',vs,us,rfl,rfl,d1.sq,d2.sq,by rw [←r1.length,←r2.length];exact z,fun h0=> ?_,fun _ h0=> ?_,fun _ _ l n=> k _ _ (.tup n q (r1.append r2))⟩
    · have e0:xs=[]:=List.eq_nil_of_length_eq_zero (by rw [r1.length,h0];rfl)
      subst e0
      exact k _ _ (.val q (.tup d2 r2))
    · have e0:ys=[]:=List.eq_nil_of_length_eq_zero (by rw [r2.length,h0];rfl)
      subst e0
      rw [List.append_nil] at q
      exact k _ _ (.val q (.tup d1 r1))⟩
def A2q:E9:=fun a b Q=> match a,b with
  | .wv (.str x),.wv (.str y)=> x.length+y.length≤sizeLine∧Q (.val (.str (x++y)))
  | _,_=> False
theorem B1N {K:PySem.W.Frag}:OpA K (fun x y H Q=> ∃i j,x= .str i∧y= .str j∧i.length+j.length≤sizeLine∧Q (.str (i++j)) H) A2q:=
  ⟨fun a b Q Q' k q=> by
    unfold A2q at q ⊢
    split at q
    · exact ⟨q.1,k _ q.2⟩
    · exact q.elim,fun a b x y H Q0 Q ra rb q k=> by
    unfold A2q at q
    split at q
    · exact ⟨_,_,ra.str,rb.str,q.1,k _ _ (.val q.2 .str)⟩
    · exact q.elim⟩
def oAdd:E9:=fun a b Q=> match a,b with
  | .wv (.int i),.wv (.int j)=> Q (.val (.int (i+j)))
  | .wv (.str x),.wv (.str y)=> x.length+y.length≤sizeLine∧Q (.val (.str (x++y)))
  | .wv (.tup xs),.wv (.tup ys)=> xs.length+ys.length≤sizeLine∧Q (.val (.tup (xs++ys)))
  | .wv (.lst xs),.wv (.lst ys)=> xs.length+ys.length≤sizeLine∧Q (.own (.seq (xs++ys)))
  | .wv (.lst xs),.cv (.seq ys)=> xs.length+ys.length≤sizeLine∧Q (.own (.seq (xs++ys)))
  | .cv (.seq xs),.wv (.lst ys)=> xs.length+ys.length≤sizeLine∧Q (.own (.seq (xs++ys)))
  | .cv (.seq xs),.cv (.seq ys)=> xs.length+ys.length≤sizeLine∧Q (.own (.seq (xs++ys)))
  | _,_=> False
theorem oAdd.as (a b:Vw) (Q:RV→Prop) (q:oAdd a b Q):((oII (fun _ _=> True) (fun i j=> .int (i+j)) a b Q∨A2q a b Q)∨A8G a b Q)∨A8p a b Q:=by
  unfold oAdd at q
  split at q
  · exact .inl (.inl (.inl ⟨trivial,q⟩))
  · exact .inl (.inl (.inr q))
  · exact .inl (.inr ⟨_,_,rfl,rfl,q⟩)
  · exact .inr ⟨_,_,rfl,rfl,q⟩
  · exact .inr ⟨_,_,rfl,rfl,q⟩
  · exact .inr ⟨_,_,rfl,rfl,q⟩
  · exact .inr ⟨_,_,rfl,rfl,q⟩
  · exact q.elim
theorem oAdd.mono (a b:Vw) (Q Q':RV→Prop) (k:∀r,Q r→Q' r) (q:oAdd a b Q):oAdd a b Q':=by
  unfold oAdd at q ⊢
  split at q <;> first | exact ⟨q.1,k _ q.2⟩ | exact k _ q | exact q.elim
section
variable {X:Cx} {G:Gx} {a b c:Expr} {ta tb tc:AT} {pos:Pos}
theorem R5 (gk:G.K=X.K) (ha:AE X G a ta) (hb:AE X G b tb):AE X G (.BinOp a .Add b pos) (aOp2 oAdd ta tb):=
  A1I (((op_add.or op_add_str).or op_catA).or B2U) ((((A19 fun _ _ _=> .int).or B1N).or (gk▸B1a)).or B2N |>.as (o':=oAdd) oAdd.as oAdd.mono) ha hb
end
mutual
def W.pd:W→PyData
  | .non=> .none
  | .bl b=> .bool b
  | .int i=> .int i
  | .str x=> .str x
  | .tup xs=> .tuple (W.pds xs)
  | .lst xs=> .list (W.pds xs)
  | .dct _ _=> .none
  | .ref _=> .none
  | .ty _=> .none
def W.pds:List W→List PyData
  | []=> []
  | x::xs=> x.pd::W.pds xs
end
def W.dat:Nat→W→Bool
  | _,.non=> true
  | _,.bl _=> true
  | _,.int _=> true
  | _,.str _=> true
  | n+1,.tup xs=> xs.all (W.dat n)
  | n+1,.lst xs=> xs.all (W.dat n)
  | _,_=> false
theorem W.depth_all {n:Nat}:∀xs:List W,(∀x∈xs,x.pd.depth≤n)→PyData.depthAll (W.pds xs)≤n
  | [],_=> Nat.zero_le _
  | x::xs,h=> by
    simp only [W.pds,PyData.depthAll]
    exact Nat.max_le.mpr ⟨h x List.mem_cons_self,W.depth_all xs fun y hy=> h y (List.mem_cons_of_mem _ hy)⟩
theorem W.dat_depth:∀(n:Nat) (w:W),w.dat n=true→w.pd.depth≤n
  | _,.non,_=> by simp only [W.pd,PyData.depth];omega
  | _,.bl _,_=> by simp only [W.pd,PyData.depth];omega
  | _,.int _,_=> by simp only [W.pd,PyData.depth];omega
  | _,.str _,_=> by simp only [W.pd,PyData.depth];omega
  | 0,.tup _,h=> by simp [W.dat] at h
  | 0,.lst _,h=> by simp [W.dat] at h
  | n+1,.tup xs,h=> by
    simp only [W.pd,PyData.depth]
    have z:=W.depth_all xs fun x hx=> W.dat_depth n x (List.all_eq_true.mp (by simpa only [W.dat] using h) x hx)
    omega
  | n+1,.lst xs,h=> by
    simp only [W.pd,PyData.depth]
    have z:=W.depth_all xs fun x hx=> W.dat_depth n x (List.all_eq_true.mp (by simpa only [W.dat] using h) x hx)
    omega
  | n,.dct _ _,h=> by simp [W.dat] at h
  | n,.ref _,h=> by simp [W.dat] at h
  | n,.ty _,h=> by simp [W.dat] at h
mutual
theorem W.pd_plain:∀w:W,w.pd.plain=true
  | .non=> rfl
  | .bl _=> rfl
  | .int _=> rfl
  | .str _=> rfl
  | .tup xs=> by simp only [W.pd,PyData.plain];exact W.pds_plain xs
  | .lst xs=> by simp only [W.pd,PyData.plain];exact W.pds_plain xs
  | .dct _ _=> rfl
  | .ref _=> rfl
  | .ty _=> rfl
theorem W.pds_plain:∀ws:List W,PyData.plainAll (W.pds ws)=true
  | []=> rfl
  | w::ws=> by simp only [W.pds,PyData.plainAll,Bool.and_eq_true];exact ⟨W.pd_plain w,W.pds_plain ws⟩
end
section
variable {K:PySem.W.Frag} {H:Hp}
theorem c6 {a:Addr} {vs:List V} (h:Rd H a (.lst vs)):SqL K H a vs:= .inl h
theorem RepL.dp {n:Nat} (ih:∀(w:W) (v:V),Rep K H w v→w.dat n=true→Dp K H v w.pd):∀(ws:List W) (vs:List V),RepL K H ws vs→ws.all (W.dat n)=true→DpAll K H vs (W.pds ws)
  | [],vs,r,_=> by rw [r.of_nil];exact .nil
  | w::ws,vs,r,d=> by
    obtain ⟨v,t,rfl,a,b⟩:=r.of_cons
    rw [List.all_cons,Bool.and_eq_true] at d
    exact .cons (ih w v a d.1) (RepL.dp ih ws t b d.2)
theorem Rep.dp:∀(n:Nat) (w:W) (v:V),Rep K H w v→w.dat n=true→Dp K H v w.pd
  | _,.non,_,r,_=> by rw [Rep.of_non (K:=K) (H:=H) r];exact .non
  | _,.bl _,_,r,_=> by rw [Rep.of_bl (K:=K) (H:=H) r];exact .bl _
  | _,.int _,_,r,_=> by rw [Rep.of_int (K:=K) (H:=H) r];exact .int _
  | _,.str _,_,r,_=> by rw [Rep.of_str (K:=K) (H:=H) r];exact .str _
  | n+1,.tup xs,v,r,d=> by
    obtain ⟨a,vs,rfl,s,r⟩:=Rep.of_tup r
    simp only [W.pd]
    exact .tup s (RepL.dp (Rep.dp n) xs vs r (by simpa only [W.dat] using d))
  | n+1,.lst xs,v,r,d=> by
    obtain ⟨a,vs,rfl,⟨o,s⟩,r⟩:=Rep.of_lst r
    simp only [W.pd]
    exact .lst (c6 (.inr ⟨o,s⟩)) (RepL.dp (Rep.dp n) xs vs r (by simpa only [W.dat] using d))
  | 0,.tup _,_,_,d=> by simp [W.dat] at d
  | 0,.lst _,_,_,d=> by simp [W.dat] at d
  | _,.dct _ _,_,_,d=> by simp [W.dat] at d
  | _,.ref _,_,_,d=> by simp [W.dat] at d
  | _,.ty _,_,_,d=> by simp [W.dat] at d
end
theorem VR.dp {K:PySem.W.Frag} {H:Hp} {a:Vw} {v:V} {n:Nat} (r:VR K H a v) (d:a.toW.dat n=true) (nb:a≠ .bad):Dp K H v a.toW.pd:=by
  cases a with
  | wv w=> exact Rep.dp n w v r d
  | bad=> exact absurd rfl nb
  | cv c=>
    cases c with
    | map kvs=> simp [Vw.toW,Cont.fz,W.dat] at d
    | seq ws=>
      obtain ⟨p,rfl,vs,e,r⟩:=r
      have d:(W.lst ws).dat n=true:=d
      cases n with
      | zero=> simp [W.dat] at d
      | succ n=>
        simp only [W.dat] at d
        show Dp K H _ (W.lst ws).pd
        simp only [W.pd]
        exact .lst (c6 (.inl e)) (RepL.dp (Rep.dp n) ws vs r d)
def F8 (a b:W):Bool:=PyData.eqv a.pd b.pd
def Vw.ok:Vw→Bool
  | .bad=> false
  | v=> v.toW.dat 60
theorem Vw.of_ok {a:Vw} (h:a.ok=true):a.toW.dat 60=true∧a≠ .bad:=by
  cases a with
  | bad=> cases h
  | wv w=> exact ⟨h,fun z=> nomatch z⟩
  | cv c=> exact ⟨h,fun z=> nomatch z⟩
def C6 (neg:Bool):E9:=fun a b Q=> a.ok=true∧b.ok=true∧Q (.val (.bl (if neg then !F8 a.toW b.toW else F8 a.toW b.toW)))
def A5H (K:PySem.W.Frag) (neg:Bool):R2:=fun x y H Q=> ∃d e,Dp K H x d∧Dp K H y e∧d.plain=true∧e.plain=true∧d.depth≤60∧Q (.bl (if neg then !PyData.eqv d e else PyData.eqv d e)) H
theorem A4R {K:PySem.W.Frag} {neg:Bool}:OpA K (A5H K neg) (C6 neg):=
  ⟨fun a b Q Q' k ⟨x,y,q⟩=> ⟨x,y,k _ q⟩,fun a b x y H Q0 Q ra rb ⟨da,db,q⟩ k=>
    ⟨_,_,ra.dp (Vw.of_ok da).1 (Vw.of_ok da).2,rb.dp (Vw.of_ok db).1 (Vw.of_ok db).2,W.pd_plain _,W.pd_plain _,W.dat_depth _ _ (Vw.of_ok da).1,k _ _ (.val q .bl)⟩⟩
section
variable {X:Cx} {G:Gx} {a b c:Expr} {ta tb tc:AT} {pos:Pos}
theorem A71 (hu:X.A.units+64 < cLine):OpR X (compareOp .Eq) (A5H X.K false):=fun pins s σ H x y v u Q I rx ry ⟨d,e,hd,he,pd,pe,dp,q⟩=> by
  obtain ⟨as,r1⟩:=Dp.reads I d x v hd rx
  obtain ⟨bs,r2⟩:=Dp.reads I e y u he ry
  have z:=Nat.min_le_left d.depth e.depth
  exact SeqAt.eq_plain r1 r2 pd pe (by omega) ⟨.bl _,H,I,rfl,q⟩
theorem B3I (hu:X.A.units+64 < cLine):OpR X (compareOp .NotEq) (A5H X.K true):=fun pins s σ H x y v u Q I rx ry ⟨d,e,hd,he,pd,pe,dp,q⟩=> by
  obtain ⟨as,r1⟩:=Dp.reads I d x v hd rx
  obtain ⟨bs,r2⟩:=Dp.reads I e y u he ry
  have z:=Nat.min_le_left d.depth e.depth
  exact SeqAt.ne_plain r1 r2 pd pe (by omega) ⟨.bl _,H,I,rfl,q⟩
theorem A4c (gk:G.K=X.K) (hu:X.A.units+64 < cLine) (ha:AE X G a ta) (hb:AE X G b tb):AE X G (.Compare a [.Eq] [b] pos) (aOp2 (C6 false) ta tb):=A7p (A71 hu) (gk▸A4R) ha hb (nomark _)
end
end Ab
namespace Ab
open PySem PySem.Spec PyProof.Rows L2
def Vw.isNon:Vw→Bool
  | .wv .non=> true
  | _=> false
def H9 (neg:Bool):E9:=fun a b Q=> b= .wv .non∧a≠ .bad∧Q (.val (.bl (if neg then !a.isNon else a.isNon)))
theorem VR.isN {K:PySem.W.Frag} {H:Hp}:∀{a:Vw} {v:V},VR K H a v→a≠ .bad→decide (v= .non)=a.isNon
  | .bad,_,_,nb=> absurd rfl nb
  | .cv c,v,r,_=> by obtain ⟨p,e,_⟩:=r;subst e;rfl
  | .wv .non,v,r,_=> by have e:=r.non;subst e;rfl
  | .wv (.bl b),v,r,_=> by have e:=r.bl;subst e;rfl
  | .wv (.int b),v,r,_=> by have e:=r.int;subst e;rfl
  | .wv (.str b),v,r,_=> by have e:=r.str;subst e;rfl
  | .wv (.tup b),v,r,_=> by obtain ⟨p,vs,e,_⟩:=Rep.of_tup (K:=K) (H:=H) r;subst e;rfl
  | .wv (.lst b),v,r,_=> by obtain ⟨p,vs,e,_⟩:=Rep.of_lst (K:=K) (H:=H) r;subst e;rfl
  | .wv (.ref a),v,r,_=> by have e:=Rep.of_ref (K:=K) (H:=H) r;subst e;rfl
  | .wv (.ty a),v,r,_=> by have e:=Rep.of_ty (K:=K) (H:=H) r;subst e;rfl
  | .wv (.dct ks vs),v,r,_=> by
    have z:Rep K H (.dct ks vs) v:=r
    simp only [Rep] at z
    obtain ⟨p,e,_⟩:=z;subst e;rfl
theorem A62 {K:PySem.W.Frag}:OpA K (fun x y H Q=> y= .non∧Q (.bl (decide (x= .non))) H) (H9 false):=
  ⟨fun a b Q Q' k ⟨x,y,q⟩=> ⟨x,y,k _ q⟩,fun a b x y H Q0 Q ra rb ⟨e,nb,q⟩ k=> by
    subst e
    refine ⟨rb.non,k _ _ (.val q ?_)⟩
    rw [ra.isN nb]
    exact .bl⟩
theorem B1U {K:PySem.W.Frag}:OpA K (fun x y H Q=> y= .non∧Q (.bl (!decide (x= .non))) H) (H9 true):=
  ⟨fun a b Q Q' k ⟨x,y,q⟩=> ⟨x,y,k _ q⟩,fun a b x y H Q0 Q ra rb ⟨e,nb,q⟩ k=> by
    subst e
    refine ⟨rb.non,k _ _ (.val q ?_)⟩
    rw [ra.isN nb]
    exact .bl⟩
def Vw.items:Vw→Option (List W)
  | .wv (.lst xs)=> some xs
  | .wv (.tup xs)=> some xs
  | .cv (.seq xs)=> some xs
  | _=> none
theorem VR.itemsT {K:PySem.W.Frag} {H:Hp} {a:Vw} {v:V} {xs:List W} (r:VR K H a v) (e:a.items=some xs):∃p vs,v= .ref p∧(Rd H p (.lst vs)∨TqT K H p vs)∧RepL K H xs vs:=by
  cases a with
  | bad=> cases e
  | cv c=>
    cases c with
    | map _=> cases e
    | seq ws=> obtain ⟨p,vs,a,b,c⟩:=r.seq e;exact ⟨p,vs,a,.inl b,c⟩
  | wv w=>
    cases w with
    | lst ws=> obtain ⟨p,vs,a,b,c⟩:=r.seq e;exact ⟨p,vs,a,.inl b,c⟩
    | tup ws=> obtain ⟨p,vs,a,b,c⟩:=r.tplT e;exact ⟨p,vs,a,.inr b,c⟩
    | _=> cases e
theorem VR.items {K:PySem.W.Frag} {H:Hp} {a:Vw} {v:V} {xs:List W} (r:VR K H a v) (e:a.items=some xs):∃p vs,v= .ref p∧(Rd H p (.lst vs)∨SqT K H p vs)∧RepL K H xs vs:=let ⟨p,vs,q,s,r⟩:=r.itemsT e;⟨p,vs,q,s.imp id TqT.sq,r⟩
def A8u (x:W) (xs:List W):Bool:=xs.any fun y=> F8 y x
def A5C (neg:Bool):E9:=fun a b Q=> ∃xs,b.items=some xs∧a.ok=true∧xs.all (W.dat 60)=true∧Q (.val (.bl (if neg then !A8u a.toW xs else A8u a.toW xs)))
section
variable {X:Cx}
end
def aTst (t:AT):E4:=fun env h Q=> t env h fun r env' h'=> match view env' h' r with
  | .wv (.bl b)=> Q b env' h'
  | _=> False
theorem aTst.mono {t:AT} (m:A2 t):A2 (aTst t):=fun env h Q Q' k q=> m env h _ _ (fun r e g z=> by
  show match view e g r with
    | .wv (.bl b)=> Q' b e g
    | _=> False
  have z:match view e g r with
    | .wv (.bl b)=> Q b e g
    | _=> False:=z
  split at z
  · exact k _ _ _ z
  · exact z) q
def aAndT (t u:E4):E4:=fun env h Q=> t env h fun b env' h'=> if b=true then u env' h' Q else Q false env' h'
def aOrT (t u:E4):E4:=fun env h Q=> t env h fun b env' h'=> if b=true then Q true env' h' else u env' h' Q
def aNotT (t:E4):E4:=fun env h Q=> t env h fun b env' h'=> Q (!b) env' h'
def aIfE (t:E4) (a b:AT):AT:=fun env h Q=> t env h fun c env' h'=> if c=true then a env' h' Q else b env' h' Q
theorem aAndT.mono {t u:E4} (m:A2 t) (n:A2 u):A2 (aAndT t u):=fun env h Q Q' k q=> m env h _ _ (fun b e g z=> by
  cases b with
  | true=> exact iteT (n e g _ _ k (by simpa using z))
  | false=> exact iteF (k _ _ _ (by simpa using z))) q
theorem aOrT.mono {t u:E4} (m:A2 t) (n:A2 u):A2 (aOrT t u):=fun env h Q Q' k q=> m env h _ _ (fun b e g z=> by
  cases b with
  | true=> exact iteT (k _ _ _ (by simpa using z))
  | false=> exact iteF (n e g _ _ k (by simpa using z))) q
theorem aNotT.mono {t:E4} (m:A2 t):A2 (aNotT t):=fun env h Q Q' k q=> m env h _ _ (fun b e g z=> k _ _ _ z) q
theorem aIfE.mono {t:E4} {a b:AT} (m:A2 t) (n:A2 a) (o:A2 b):A2 (aIfE t a b):=fun env h Q Q' k q=> m env h _ _ (fun c e g z=> by
  cases c with
  | true=> exact iteT (n e g _ _ k (by simpa using z))
  | false=> exact iteF (o e g _ _ k (by simpa using z))) q
section
variable {X:Cx} {G:Gx} {a b c:Expr} {ta tb tc:AT} {t u:E4} {pos:Pos} {rest:List Expr}
theorem B22 (h:AE X G a ta) (hv:∀t:TE,PE X a t→PT X a (tTest t)):AP X G a (aTst ta):=by
  refine ⟨aTst.mono h.mono,PT.imp (hv _ h.pe) fun σ H Q ⟨env,k,S,q⟩=> ?_⟩
  refine ⟨env,k,S,h.mono env k _ _ (fun r env1 h1 z v H1 S1 x1 r1 f1=> ?_) q⟩
  have r2:=r1.vr S1
  split at z
  · rename_i b e
    rw [e] at r2
    exact ⟨b,r2.bl,z H1 S1 x1⟩
  · exact z.elim
theorem u5 {op:CmpOp} {r:R2} {o:E9} (ho:OpR X (compareOp op) r) (oa:OpA G.K r o) (ha:AE X G a ta) (hb:AE X G b tb) (hm:behindInMarks op b=false):AP X G (.Compare a [op] [b] pos) (aTst (aOp2 o ta tb)):=by
  refine ⟨aTst.mono (aOp2.mono oa ha.mono hb.mono),PT.imp (pt_cmpR ho ha.pe hb.pe hm) fun σ H Q ⟨env,k,S,q⟩=> ?_⟩
  refine A2C ha.mono hb.mono oa ⟨env,k,S,aOp2.mono oa ha.mono hb.mono env k _ _ (fun r env1 h1 z v H1 S1 x1 r1 f1=> ?_) q⟩
  have r2:=r1.vr S1
  split at z
  · rename_i b e
    rw [e] at r2
    exact ⟨b,r2.bl,z H1 S1 x1⟩
  · exact z.elim
theorem u6 (h:AP X G a t):AP X G (.UnaryOp .Not a pos) (aNotT t):=
  ⟨aNotT.mono h.mono,PT.imp (pt_not h.pt) fun σ H Q ⟨env,k,S,q⟩=> ⟨env,k,S,q⟩⟩
structure AW (X:Cx) (G:Gx) (e:Expr) (t:E4):Prop where
  mono:A2 t
  pw:PW X e (cT G t)
theorem PW.imp {e:Expr} {t t':TT} (h:PW X e t) (i:∀σ H Q,t' σ H Q→t σ H Q):PW X e t':=⟨fun w pins s σ H Q I q=> h.run w pins s σ H Q I (i σ H Q q)⟩
theorem AW.ap (h:AW X G a t):AP X G a t:=⟨h.mono,h.pw.pt⟩
theorem B1u (h:AP X G a t):AW X G (.BoolOp .And [a] pos) t:=⟨h.mono,pw_and1 h.pt⟩
theorem A75 (h:AP X G a t):AW X G (.BoolOp .Or [a] pos) t:=⟨h.mono,pw_or1 h.pt⟩
theorem B1A {σ:L2.St} {H:Hp} {Q:Bool→Hp→Prop} (mt:A2 t) (mu:A2 u) (q:cT G (aAndT t u) σ H Q):tAnd (cT G t) (cT G u) σ H Q:=by
  obtain ⟨env,k,S,q⟩:=q
  refine ⟨env,k,S,mt env k _ _ (fun b env1 h1 z H1 S1 x1=> ?_) q⟩
  cases b with
  | true=>
    rw [if_pos rfl] at z
    exact iteT ⟨env1,h1,S1,mu env1 h1 _ _ (fun c env2 h2 z2 H2 S2 x2=> z2 H2 S2 (x1.trans x2)) z⟩
  | false=>
    rw [if_neg Bool.false_ne_true] at z ⊢
    exact z H1 S1 x1
theorem B2L {σ:L2.St} {H:Hp} {Q:Bool→Hp→Prop} (mt:A2 t) (mu:A2 u) (q:cT G (aOrT t u) σ H Q):tOr (cT G t) (cT G u) σ H Q:=by
  obtain ⟨env,k,S,q⟩:=q
  refine ⟨env,k,S,mt env k _ _ (fun b env1 h1 z H1 S1 x1=> ?_) q⟩
  cases b with
  | false=>
    rw [if_neg Bool.false_ne_true] at z
    exact iteF ⟨env1,h1,S1,mu env1 h1 _ _ (fun c env2 h2 z2 H2 S2 x2=> z2 H2 S2 (x1.trans x2)) z⟩
  | true=>
    rw [if_pos rfl] at z ⊢
    exact z H1 S1 x1
theorem B2j (ha:AP X G a t) (hb:AW X G (.BoolOp .And (b::rest) pos) u):AW X G (.BoolOp .And (a::b::rest) pos) (aAndT t u):=
  ⟨aAndT.mono ha.mono hb.mono,PW.imp (pw_and ha.pt hb.pw) fun _ _ _ q=> B1A ha.mono hb.mono q⟩
theorem A79 (ha:AP X G a t) (hb:AW X G (.BoolOp .Or (b::rest) pos) u):AW X G (.BoolOp .Or (a::b::rest) pos) (aOrT t u):=
  ⟨aOrT.mono ha.mono hb.mono,PW.imp (pw_or ha.pt hb.pw) fun _ _ _ q=> B2L ha.mono hb.mono q⟩
theorem B3b (hc:AP X G c t) (ha:AE X G a ta) (hb:AE X G b tb):AE X G (.IfExp c a b pos) (aIfE t ta tb):=by
  refine ⟨aIfE.mono hc.mono ha.mono hb.mono,PE.imp (pe_ifExp hc.pt ha.pe hb.pe) fun σ H Q ⟨env,k,S,q⟩=> ?_⟩
  refine ⟨env,k,S,hc.mono env k _ _ (fun d env1 h1 z H1 S1 x1=> ?_) q⟩
  have fin:∀{t:AT},A2 t→t env1 h1 (fun r env2 h2=> ∀v H',BS G env2 h2 σ H'→Xt env k σ H env2 h2 H'→RvRep G env2 h2 σ H' r v→J9 H r v→Q v H')→cE G t σ H1 Q:=fun m y=>
    ⟨env1,h1,S1,m env1 h1 _ _ (fun r env2 h2 z2 v H2 S2 x2 r2 f2=> z2 v H2 S2 (x1.trans x2) r2 (by
      cases r with
      | own c=> exact fun p e=> x1.fresh (f2 p e)
      | _=> trivial)) y⟩
  cases d with
  | true=> exact iteT (fin ha.mono (by simpa using z))
  | false=> exact iteF (fin hb.mono (by simpa using z))
end
end Ab
namespace Ab
open PySem PySem.Spec PyProof.Rows L2
theorem RepL.atI {K:PySem.W.Frag} {H:Hp} {ws:List W} {vs:List V} {i:Int} {w:W} (r:RepL K H ws vs) (e:L2.atI ws i=some w):∃v,L2.atI vs i=some v∧Rep K H w v:=by
  unfold L2.atI at e ⊢
  rw [←r.length]
  cases q:ixN ws.length i with
  | none=> rw [q] at e;cases e
  | some j=>
    rw [q] at e
    exact r.get (i:=j) e
def oIx:E9:=fun a b Q=> match b with
  | .wv (.int i)=> match a with
    | .wv (.str x)=> x.length≤sizeLine∧∃c,L2.atI x.cps.toList i=some c∧Q (.val (.str ⟨#[c]⟩))
    | a=> ∃xs w,a.items=some xs∧L2.atI xs i=some w∧Q (.val w)
  | _=> False
theorem oIx.mono (a b:Vw) (Q Q':RV→Prop) (k:∀r,Q r→Q' r) (q:oIx a b Q):oIx a b Q':=by
  unfold oIx at q ⊢
  split at q
  · split at q
    · obtain ⟨z,c,e,q⟩:=q;exact ⟨z,c,e,k _ q⟩
    · obtain ⟨xs,w,e,f,q⟩:=q;exact ⟨xs,w,e,f,k _ q⟩
  · exact q
theorem A7h {K:PySem.W.Frag}:OpA K (rIx K) oIx:=
  ⟨oIx.mono,fun a b x y H Q0 Q ra rb q k=> by
    unfold oIx at q
    split at q
    · rename_i i
      split at q
      · obtain ⟨z,c,e,q⟩:=q
        exact .inr (.inr ⟨_,i,c,ra.str,rb.int,z,e,k _ _ (.val q .str)⟩)
      · obtain ⟨xs,w,e,f,q⟩:=q
        obtain ⟨p,vs,rfl,hs,rv⟩:=ra.items e
        obtain ⟨v,g,r⟩:=rv.atI f
        rcases hs with hs | hs
        · exact .inl ⟨p,vs,i,v,rfl,rb.int,c6 hs,g,k _ _ (.val q r)⟩
        · exact .inr (.inl ⟨p,vs,i,v,rfl,rb.int,hs,g,k _ _ (.val q r)⟩)
    · exact q.elim⟩
section
variable {X:Cx} {G:Gx} {a b c:Expr} {ta tb tc:AT} {pos:Pos}
theorem L5 (gk:G.K=X.K) (ha:AE X G a ta) (hb:AE X G b tb) (hs:PlainIx b):AE X G (.Subscript a b pos) (aOp2 oIx ta tb):=
  ⟨aOp2.mono (A7h (K:=G.K)) ha.mono hb.mono,PE.imp (pe_ix ix_seq ha.pe hb.pe hs) fun _ _ _ q=> A2C ha.mono hb.mono (gk▸A7h) q⟩
end
abbrev x8:=A0→AH→(Option Int→A0→AH→Prop)→Prop
def cO (G:Gx) (t:x8):TO:=fun σ H Q=> ∃env h,BS G env h σ H∧t env h fun o env' h'=> ∀H',BS G env' h' σ H'→Xt env h σ H env' h' H'→Q o H'
structure AOp (X:Cx) (G:Gx) (e:Option Expr) (t:x8):Prop where
  mono:A2 t
  po:PO X e (cO G t)
def A0A:x8:=fun env h Q=> Q none env h
def A0H (t:AT):x8:=fun env h Q=> t env h fun r env' h'=> match view env' h' r with
  | .wv (.int i)=> Q (some i) env' h'
  | _=> False
theorem PO.imp {X:Cx} {e:Option Expr} {t t':TO} (h:PO X e t) (i:∀σ H Q,t' σ H Q→t σ H Q):PO X e t':=⟨fun pins s σ H Q I q=> h.run pins s σ H Q I (i σ H Q q)⟩
section
variable {X:Cx} {G:Gx} {a b c:Expr} {ta tb tc:AT} {pos p2:Pos} {lo hi:Option Expr} {tl th:x8}
theorem A2M:AOp X G none A0A:=⟨fun env h Q Q' k q=> k _ _ _ q,PO.imp po_none fun σ H Q ⟨env,h,S,q⟩=> q H S .refl⟩
theorem A2K (ha:AE X G a ta):AOp X G (some a) (A0H ta):=by
  refine ⟨fun env h Q Q' k q=> ha.mono env h _ _ (fun r e g z=> ?_) q,PO.imp (po_some ha.pe) fun σ H Q ⟨env,h,S,q⟩=> ?_⟩
  · split at z
    · exact k _ _ _ z
    · exact z
  · refine ⟨env,h,S,ha.mono env h _ _ (fun r env1 h1 z v H1 S1 x1 r1 f1=> ?_) q⟩
    have r2:=r1.vr S1
    split at z
    · rename_i i e
      rw [e] at r2
      exact ⟨i,r2.int,z H1 S1 x1⟩
    · exact z.elim
def N4 (xs:List W) (lo hi:Option Int):List W:=(xs.drop (HT.sIx xs.length 0 lo)).take (HT.sIx xs.length xs.length hi - HT.sIx xs.length 0 lo)
def oSl (a:Vw) (lo hi:Option Int) (Q:RV→Prop):Prop:=match a with
  | .wv (.str x)=> x.length≤sizeLine∧Q (.val (.str (Txt.slice x lo hi)))
  | .wv (.tup xs)=> Q (.val (.tup (N4 xs lo hi)))
  | .wv (.lst xs)=> Q (.own (.seq (N4 xs lo hi)))
  | .cv (.seq xs)=> Q (.own (.seq (N4 xs lo hi)))
  | _=> False
theorem oSl.mono {a:Vw} {lo hi:Option Int} {Q Q':RV→Prop} (k:∀r,Q r→Q' r) (q:oSl a lo hi Q):oSl a lo hi Q':=by
  unfold oSl at q ⊢
  split at q <;> first | exact ⟨q.1,k _ q.2⟩ | exact k _ q | exact q.elim
def aSl (ta:AT) (tl th:x8):AT:=fun env h Q=> ta env h fun r env1 h1=> tl env1 h1 fun lo env2 h2=> th env2 h2 fun hi env3 h3=> oSl (view env3 h3 r) lo hi fun r=> Q r env3 h3
theorem RepL.cut {K:PySem.W.Frag} {H:Hp} {ws:List W} {vs:List V} (r:RepL K H ws vs) (lo hi:Option Int):RepL K H (N4 ws lo hi) (cutV vs lo hi):=by
  unfold N4 cutV
  rw [←r.length]
  exact (r.drop _).take _
theorem B0o {ws:List W} {lo hi:Option Int} (h:HT.sIx ws.length 0 lo=0∧HT.sIx ws.length ws.length hi=ws.length):N4 ws lo hi=ws:=by
  unfold N4
  rw [h.1,h.2]
  simp
theorem A18 (gk:G.K=X.K) (ha:AE X G a ta) (hl:AOp X G lo tl) (hu:AOp X G hi th):AE X G (.Subscript a (.Slice lo hi none p2) pos) (aSl ta tl th):=by
  refine ⟨fun env h Q Q' k q=> ha.mono env h _ _ (fun r e g z=> hl.mono e g _ _ (fun l e g z=> hu.mono e g _ _ (fun u e g z=> oSl.mono (fun r q=> k _ _ _ q) z) z) z) q,PE.imp (pe_slice ((C8.sl_txt.or sl_tupA).or sl_list) ha.pe hl.po hu.po) fun σ H Q ⟨env,h,S,q⟩=> ?_⟩
  refine ⟨env,h,S,ha.mono env h _ _ (fun r env1 h1 z v H1 S1 x1 r1 f1=> ?_) q⟩
  refine ⟨env1,h1,S1,hl.mono env1 h1 _ _ (fun l env2 h2 z H2 S2 x2=> ?_) z⟩
  refine ⟨env2,h2,S2,hu.mono env2 h2 _ _ (fun u env3 h3 z H3 S3 x3=> ?_) z⟩
  have rr:=((r1.xt S1 x2).xt S2 x3).vr S3
  have fin:∀{v:V} {H':Hp},OutR G.K H3 (fun r=> ∀v H',BS G env3 h3 σ H'→Xt env h σ H env3 h3 H'→RvRep G env3 h3 σ H' r v→J9 H r v→Q v H') v H'→Q v H':=fun o=> by
    obtain ⟨res,q0,a,b,c,d⟩:=o.end S3 (x1.trans (x2.trans x3))
    exact q0 _ _ a b c d
  unfold oSl at z
  split at z
  · rename_i x e
    rw [e] at rr
    exact .inl (.inl ⟨x,rr.str,z.1,fin (.val z.2 .str)⟩)
  · rename_i xs e
    rw [e] at rr
    obtain ⟨p,vs,rfl,hs,rv⟩:=rr.tplT rfl
    refine .inl (.inr ⟨p,vs,rfl,gk▸hs.sq,fun y=> ?_,fun _ m n=> fin (.tup n z (rv.cut _ _))⟩)
    rw [←rv.length] at y
    rw [B0o y] at z
    exact fin (.val z (.tup hs rv))
  · rename_i xs e
    rw [e] at rr
    obtain ⟨p,vs,rfl,hs,rv⟩:=rr.seq rfl
    exact .inr ⟨p,vs,rfl,c6 hs,fun m n=> fin (.lst n z (rv.cut _ _))⟩
  · rename_i xs e
    rw [e] at rr
    obtain ⟨p,vs,rfl,hs,rv⟩:=rr.seq rfl
    exact .inr ⟨p,vs,rfl,c6 hs,fun m n=> fin (.lst n z (rv.cut _ _))⟩
  · exact z.elim
abbrev N7:=A0→AH→(List RV→A0→AH→Prop)→Prop
inductive RvL (G:Gx) (env:A0) (h:AH) (σ:L2.St) (H:Hp):List RV→List V→Prop where
  | nil:RvL G env h σ H [] []
  | cons {r:RV} {rs:List RV} {v:V} {vs:List V}:RvRep G env h σ H r v→RvL G env h σ H rs vs→RvL G env h σ H (r::rs) (v::vs)
def cR (G:Gx) (t:N7):TA:=fun σ H Q=> ∃env h,BS G env h σ H∧t env h fun rs env' h'=> ∀vs H',BS G env' h' σ H'→Xt env h σ H env' h' H'→RvL G env' h' σ H' rs vs→Q vs H'
structure AR (X:Cx) (G:Gx) (es:List Expr) (t:N7):Prop where
  mono:A2 t
  pa:PA X es (cR G t)
def F5:N7:=fun env h Q=> Q [] env h
def D7 (t:AT) (u:N7):N7:=fun env h Q=> t env h fun r env' h'=> u env' h' fun rs env2 h2=> Q (r::rs) env2 h2
theorem G1:AR X G [] F5:=⟨fun env h Q Q' k q=> k _ _ _ q,PA.imp pa_nil fun σ H Q ⟨env,h,S,q⟩=> q [] H S .refl .nil⟩
theorem D9 {e:Expr} {es:List Expr} {t:AT} {u:N7} (a:AE X G e t) (b:AR X G es u) (hs:starEach (e::es) X.env=(false,eval e X.env)::starEach es X.env:=by rfl):AR X G (e::es) (D7 t u):=by
  refine ⟨fun env h Q Q' k q=> a.mono env h _ _ (fun r e g z=> b.mono e g _ _ (fun rs e2 g2 z2=> k _ _ _ z2) z) q,PA.imp (pa_cons a.pe b.pa hs) fun σ H Q ⟨env,h,S,q⟩=> ?_⟩
  refine ⟨env,h,S,a.mono env h _ _ (fun r env1 h1 z v H1 S1 x1 r1 f1=> ?_) q⟩
  refine ⟨env1,h1,S1,b.mono env1 h1 _ _ (fun rs env2 h2 z vs H2 S2 x2 r2=> ?_) z⟩
  exact z (v::vs) H2 S2 (x1.trans x2) (.cons (r1.xt S1 x2) r2)
inductive VRL (K:PySem.W.Frag) (H:Hp):List Vw→List V→Prop where
  | nil:VRL K H [] []
  | cons {a:Vw} {as:List Vw} {v:V} {vs:List V}:VR K H a v→VRL K H as vs→VRL K H (a::as) (v::vs)
theorem RvL.vrl {env:A0} {h:AH} {σ:L2.St} {H:Hp} (S:BS G env h σ H) {rs:List RV} {vs:List V} (r:RvL G env h σ H rs vs):VRL G.K H (rs.map (view env h)) vs:=by
  induction r with
  | nil=> exact .nil
  | cons a _ ih=> exact .cons (a.vr S) ih
abbrev G5:=List Vw→(RV→Prop)→Prop
structure CallA (K:PySem.W.Frag) (r:List V→Hp→VK→Prop) (o:G5):Prop where
  mono:∀as Q Q',(∀r,Q r→Q' r)→o as Q→o as Q'
  ok:∀as vs H Q0 Q,VRL K H as vs→o as Q0→(∀v H',OutR K H Q0 v H'→Q v H')→r vs H Q
def aCB (o:G5) (t:N7):AT:=fun env h Q=> t env h fun rs env1 h1=> o (rs.map (view env1 h1)) fun r=> Q r env1 h1
theorem CallA.or {K:PySem.W.Frag} {r r':List V→Hp→VK→Prop} {o o':G5} (a:CallA K r o) (b:CallA K r' o'):CallA K (fun vs H Q=> r vs H Q∨r' vs H Q) (fun as Q=> o as Q∨o' as Q):=
  ⟨fun as Q Q' k q=> q.imp (a.mono as Q Q' k) (b.mono as Q Q' k),fun as vs H Q0 Q r q k=> q.imp (fun z=> a.ok as vs H Q0 Q r z k) fun z=> b.ok as vs H Q0 Q r z k⟩
theorem CallA.as {K:PySem.W.Frag} {r:List V→Hp→VK→Prop} {o o':G5} (a:CallA K r o) (i:∀as Q,o' as Q→o as Q) (m:∀as Q Q',(∀r,Q r→Q' r)→o' as Q→o' as Q'):CallA K r o':=⟨m,fun as vs H Q0 Q r q k=> a.ok as vs H Q0 Q r (i _ _ q) k⟩
theorem A69 {r:List V→Hp→VK→Prop} {o:G5} {t:N7} (ca:CallA G.K r o) (m:A2 t) {σ:L2.St} {H:Hp} {Q:VK} (q:cE G (aCB o t) σ H Q):tCB r (cR G t) σ H Q:=by
  obtain ⟨env,h,S,q⟩:=q
  refine ⟨env,h,S,m env h _ _ (fun rs env1 h1 z vs H1 S1 x1 r1=> ?_) q⟩
  refine ca.ok _ _ _ _ _ (r1.vrl S1) z fun v H2 out=> ?_
  obtain ⟨res,q0,a,b,c,d⟩:=out.end S1 x1
  exact q0 v H2 a b c d
theorem aCB.mono {r:List V→Hp→VK→Prop} {o:G5} {t:N7} (ca:CallA G.K r o) (m:A2 t):A2 (aCB o t):=fun env h Q Q' k q=> m env h _ _ (fun rs e g z=> ca.mono _ _ _ (fun r q=> k _ _ _ q) z) q
theorem I6 {id:String} {x:Str} {e:Expr} {es:List Expr} {p:Pos} {r:List V→Hp→VK→Prop} {o:G5} {t:N7} (hc:CallR X (.builtin id) r) (ca:CallA G.K r o) (hg:Gl X x) (hm:X.mg x=none) (hv:bootBuiltins x=some (.builtin id)) (ha:AR X G (e::es) t)
    (hn:x≠"__name__":=by decide) (hdb:(x==("__debug__":Str))=false:=by decide) (he:starEach (e::es) X.env=(false,eval e X.env)::starEach es X.env:=by rfl) (hpl:(backTo pos (starEach es X.env)).any (·.1)=false:=by rfl):
    AE X G (.Call (.Name x p) (e::es) [] pos) (aCB o t):=
  ⟨aCB.mono ca ha.mono,PE.imp (pe_callB hc hg hm hv ha.pa hn hdb he hpl) fun _ _ _ q=> A69 ca ha.mono q⟩
theorem A3n {T:String} {x:Str} {e:Expr} {es:List Expr} {p:Pos} {r:List V→Hp→VK→Prop} {o:G5} {t:N7} (hc:CallR X (.type T) r) (ca:CallA G.K r o) (hg:Gl X x) (hm:X.mg x=none) (hv:bootBuiltins x=some (.type T)) (ha:AR X G (e::es) t)
    (hn:x≠"__name__":=by decide) (hdb:(x==("__debug__":Str))=false:=by decide) (he:starEach (e::es) X.env=(false,eval e X.env)::starEach es X.env:=by rfl) (hpl:(backTo pos (starEach es X.env)).any (·.1)=false:=by rfl):
    AE X G (.Call (.Name x p) (e::es) [] pos) (aCB o t):=
  ⟨aCB.mono ca ha.mono,PE.imp (pe_callTy hc hg hm hv ha.pa hn hdb he hpl) fun _ _ _ q=> A69 ca ha.mono q⟩
end
theorem VRL.one {K:PySem.W.Frag} {H:Hp} {a:Vw} {vs:List V} (r:VRL K H [a] vs):∃v,vs=[v]∧VR K H a v:=by
  cases r with
  | cons r t=> cases t;exact ⟨_,rfl,r⟩
theorem VRL.two {K:PySem.W.Frag} {H:Hp} {a b:Vw} {vs:List V} (r:VRL K H [a,b] vs):∃v u,vs=[v,u]∧VR K H a v∧VR K H b u:=by
  cases r with
  | cons r t=> obtain ⟨u,rfl,q⟩:=t.one;exact ⟨_,u,rfl,r,q⟩
def C4:G5:=fun as Q=> match as with
  | [.wv (.str x)]=> x.length≤sizeLine∧Q (.val (.int x.length))
  | [a]=> ∃xs,a.items=some xs∧Q (.val (.int xs.length))
  | _=> False
theorem R6 {K:PySem.W.Frag}:CallA K (fun xs H Q=> ∃x n,xs=[x]∧LenV K x H n∧Q (.int n) H) C4:=
  ⟨fun as Q Q' k q=> by
    unfold C4 at q ⊢
    split at q
    · exact ⟨q.1,k _ q.2⟩
    · obtain ⟨xs,e,q⟩:=q;exact ⟨xs,e,k _ q⟩
    · exact q,fun as vs H Q0 Q r q k=> by
    unfold C4 at q
    split at q
    · obtain ⟨v,rfl,r1⟩:=r.one
      cases r1.str
      exact ⟨_,_,rfl,⟨q.1,rfl⟩,k _ _ (.val q.2 .int)⟩
    · obtain ⟨v,rfl,r1⟩:=r.one
      obtain ⟨xs,e,q⟩:=q
      obtain ⟨p,us,rfl,hs,rv⟩:=r1.items e
      refine ⟨_,us.length,rfl,?_,k _ _ (.val q (by rw [rv.length];exact .int))⟩
      rcases hs with hs | hs
      · exact .inl ⟨us,c6 hs,rfl⟩
      · exact .inr ⟨us,hs,rfl⟩
    · exact q.elim⟩
def o2I (g:Int→Int→Int):G5:=fun as Q=> match as with
  | [.wv (.int i),.wv (.int j)]=> Q (.val (.int (g i j)))
  | _=> False
def o1I (g:Int→Int):G5:=fun as Q=> match as with
  | [.wv (.int i)]=> Q (.val (.int (g i)))
  | _=> False
def oInts (g:List Int→(RV→Prop)→Prop):G5:=fun as Q=> match as with
  | [a]=> ∃ns:List Int,a.seq=some (ns.map W.int)∧g ns Q
  | _=> False
theorem oInts.mono {g:List Int→(RV→Prop)→Prop} (m:∀ns Q Q',(∀r,Q r→Q' r)→g ns Q→g ns Q') (as:List Vw) (Q Q':RV→Prop) (k:∀r,Q r→Q' r) (q:oInts g as Q):oInts g as Q':=by
  unfold oInts at q ⊢
  split at q
  · obtain ⟨ns,e,q⟩:=q;exact ⟨ns,e,m _ _ _ k q⟩
  · exact q
theorem oInts.get {K:PySem.W.Frag} {H:Hp} {g:List Int→(RV→Prop)→Prop} {as:List Vw} {vs:List V} {Q:RV→Prop} (r:VRL K H as vs) (q:oInts g as Q):∃p ns,vs=[.ref p]∧SqL K H p (ns.map V.int)∧g ns Q:=by
  unfold oInts at q
  split at q
  · obtain ⟨v,rfl,r1⟩:=r.one
    obtain ⟨ns,e,q⟩:=q
    obtain ⟨p,us,rfl,hs,rv⟩:=r1.seq e
    rw [rv.of_ints] at hs
    exact ⟨p,ns,rfl,c6 hs,q⟩
  · exact q.elim
def oBls (g:List Bool→Bool):G5:=fun as Q=> match as with
  | [a]=> ∃bs:List Bool,a.seq=some (bs.map W.bl)∧Q (.val (.bl (g bs)))
  | _=> False
theorem oBls.mono {g:List Bool→Bool} (as:List Vw) (Q Q':RV→Prop) (k:∀r,Q r→Q' r) (q:oBls g as Q):oBls g as Q':=by
  unfold oBls at q ⊢
  split at q
  · obtain ⟨ns,e,q⟩:=q;exact ⟨ns,e,k _ q⟩
  · exact q
theorem oBls.get {K:PySem.W.Frag} {H:Hp} {g:List Bool→Bool} {as:List Vw} {vs:List V} {Q:RV→Prop} (r:VRL K H as vs) (q:oBls g as Q):∃p bs,vs=[.ref p]∧SqL K H p (bs.map V.bl)∧Q (.val (.bl (g bs))):=by
  unfold oBls at q
  split at q
  · obtain ⟨v,rfl,r1⟩:=r.one
    obtain ⟨ns,e,q⟩:=q
    obtain ⟨p,us,rfl,hs,rv⟩:=r1.seq e
    rw [rv.of_bls] at hs
    exact ⟨p,ns,rfl,c6 hs,q⟩
  · exact q.elim
theorem B3C {K:PySem.W.Frag}:CallA K (rAll K) (oBls fun bs=> bs.all id):=
  ⟨oBls.mono,fun as vs H Q0 Q r q k=> by
    obtain ⟨p,ns,rfl,hs,q⟩:=oBls.get r q
    exact ⟨p,ns,rfl,hs,k _ _ (.val q .bl)⟩⟩
def O5:G5:=fun as Q=> match as with
  | [a]=> ∃xs,a.items=some xs∧Q (.val (.tup xs))
  | _=> False
theorem A7m {K:PySem.W.Frag}:CallA K (fun xs H Q=> ∃p ys,xs=[.ref p]∧((SqL K H p ys∧∀l,H l=none→Q (.ref l) (upd H l (.tup ys)))∨(SqT K H p ys∧Q (.ref p) H))) O5:=
  ⟨fun as Q Q' k q=> by
    unfold O5 at q ⊢
    split at q
    · obtain ⟨xs,e,q⟩:=q;exact ⟨xs,e,k _ q⟩
    · exact q,fun as vs H Q0 Q r q k=> by
    unfold O5 at q
    split at q
    · obtain ⟨v,rfl,r1⟩:=r.one
      obtain ⟨xs,e,q⟩:=q
      obtain ⟨p,us,rfl,hs,rv⟩:=r1.itemsT e
      refine ⟨p,us,rfl,?_⟩
      rcases hs with hs | hs
      · exact .inl ⟨c6 hs,fun l n=> k _ _ (.tup n q rv)⟩
      · exact .inr ⟨hs.sq,k _ _ (.val q (.tup hs rv))⟩
    · exact q.elim⟩
def Q7:G5:=fun as Q=> match as with
  | [a]=> ∃xs,a.items=some xs∧Q (.own (.seq xs))
  | _=> False
theorem B2w {K:PySem.W.Frag}:CallA K (fun xs H Q=> ∃p ys,xs=[.ref p]∧(SqL K H p ys∨SqT K H p ys)∧∀l,H l=none→Q (.ref l) (upd H l (.lst ys))) Q7:=
  ⟨fun as Q Q' k q=> by
    unfold Q7 at q ⊢
    split at q
    · obtain ⟨xs,e,q⟩:=q;exact ⟨xs,e,k _ q⟩
    · exact q,fun as vs H Q0 Q r q k=> by
    unfold Q7 at q
    split at q
    · obtain ⟨v,rfl,r1⟩:=r.one
      obtain ⟨xs,e,q⟩:=q
      obtain ⟨p,us,rfl,hs,rv⟩:=r1.items e
      exact ⟨p,us,rfl,hs.imp_left c6,fun l n=> k _ _ (.lst n q rv)⟩
    · exact q.elim⟩
def W.tyName:W→Option String
  | .non=> some "NoneType"
  | .bl _=> some "bool"
  | .int _=> some "int"
  | .str _=> some "str"
  | .tup _=> some "tuple"
  | .lst _=> some "list"
  | _=> none
def Vw.tyName:Vw→Option String
  | .wv w=> w.tyName
  | .cv (.seq _)=> some "list"
  | _=> none
def i4:String→String→Option Bool
  | "NoneType","bool"=> some false
  | "NoneType","int"=> some false
  | "NoneType","str"=> some false
  | "NoneType","tuple"=> some false
  | "NoneType","list"=> some false
  | "bool","bool"=> some true
  | "bool","int"=> some true
  | "bool","str"=> some false
  | "bool","tuple"=> some false
  | "bool","list"=> some false
  | "int","bool"=> some false
  | "int","int"=> some true
  | "int","str"=> some false
  | "int","tuple"=> some false
  | "int","list"=> some false
  | "str","bool"=> some false
  | "str","int"=> some false
  | "str","str"=> some true
  | "str","tuple"=> some false
  | "str","list"=> some false
  | "tuple","bool"=> some false
  | "tuple","int"=> some false
  | "tuple","str"=> some false
  | "tuple","tuple"=> some true
  | "tuple","list"=> some false
  | "list","bool"=> some false
  | "list","int"=> some false
  | "list","str"=> some false
  | "list","tuple"=> some false
  | "list","list"=> some true
  | _,_=> none
def B6:G5:=fun as Q=> match as with
  | [a,.wv (.ty T)]=> ∃n b,a.tyName=some n∧i4 n T=some b∧Q (.val (.bl b))
  | _=> False
theorem VR.tyX {K:PySem.W.Frag} {H:Hp}:∀{a:Vw} {v:V} {n:String},VR K H a v→a.tyName=some n→(∀ws,a≠ .wv (.tup ws))→TyX K H v (.type n)
  | .bad,_,_,_,e,_=> by cases e
  | .cv (.seq ws),_,_,r,e,_=> by cases e;obtain ⟨p,rfl,vs,l,_⟩:=r;exact .base (.lst l)
  | .cv (.map _),_,_,_,e,_=> by cases e
  | .wv .non,_,_,r,e,_=> by cases e;cases r.non;exact .base .non
  | .wv (.bl _),_,_,r,e,_=> by cases e;cases r.bl;exact .base (.bl _)
  | .wv (.int _),_,_,r,e,_=> by cases e;cases r.int;exact .base (.int _)
  | .wv (.str _),_,_,r,e,_=> by cases e;cases r.str;exact .base (.str _)
  | .wv (.tup ws),_,_,_,_,h=> absurd rfl (h ws)
  | .wv (.lst ws),_,_,r,e,_=> by cases e;obtain ⟨p,vs,rfl,⟨o,l⟩,_⟩:=Rep.of_lst (K:=K) (H:=H) r;exact .base (.frz l)
  | .wv (.dct _ _),_,_,_,e,_=> by cases e
  | .wv (.ref _),_,_,_,e,_=> by cases e
  | .wv (.ty _),_,_,_,e,_=> by cases e
end Ab
namespace Ab
open PySem PySem.Spec PyProof.Rows L2
theorem B16 {K:PySem.W.Frag} {n T:String} {b:Bool} (h:i4 n T=some b):PySem.W.kitOne K (.type n) (.type T)=some b:=by
  unfold i4 at h
  split at h
  all_goals first
    | (cases h;exact kit_ty (by decide+kernel))
    | cases h
theorem B3B {K:PySem.W.Frag} {H:Hp} {a:Addr} {vs:List V} (h:SqT K H a vs):TyX K H (.ref a) (.type "tuple"):=by
  rcases h with (h | ⟨o,h⟩) | ⟨o,its,n,e,c,_⟩
  · exact .base (.tup h)
  · exact .fTuple h
  · exact .kTuple e c
theorem VR.ty {K:PySem.W.Frag} {H:Hp} {a:Vw} {v:V} {n:String} (r:VR K H a v) (e:a.tyName=some n):TyX K H v (.type n):=by
  by_cases h:∃ws,a= .wv (.tup ws)
  · obtain ⟨ws,rfl⟩:=h
    cases e
    obtain ⟨p,vs,rfl,s,_⟩:=Rep.of_tup (K:=K) (H:=H) r
    exact B3B s
  · exact r.tyX e fun ws z=> h ⟨ws,z⟩
theorem V6 {K:PySem.W.Frag}:CallA K (rIsi K) B6:=
  ⟨fun as Q Q' k q=> by
    unfold B6 at q ⊢
    split at q
    · obtain ⟨n,b,e,f,q⟩:=q;exact ⟨n,b,e,f,k _ q⟩
    · exact q,fun as vs H Q0 Q r q k=> by
    unfold B6 at q
    split at q
    · rename_i a T
      obtain ⟨v,u,rfl,r1,r2⟩:=r.two
      cases Rep.of_ty (K:=K) (H:=H) r2
      obtain ⟨n,b,e,f,q⟩:=q
      exact ⟨v,.ty T,.type n,.type T,b,rfl,ClsV.ty T,r1.ty e,B16 f,k _ _ (.val q .bl)⟩
    · exact q.elim⟩
end Ab
namespace Ab
open PySem PySem.Spec PyProof.Rows L2
structure HS (G:Gx) (h:AH) (H:Hp):Prop where
  hp:∀a o,h a=some o→ORep G.K H a o
  fr:∀p o,G.H0 p=some o→G.h0 p=none→NT o→H p=some o
  ext:∀a o,h a=some o→G.h0 a=none→G.H0 a=none
  tr:∀p o,G.H0 p=some o→∃u,H p=some u
  tabs:TabsK G.K H
theorem BS.hs {G:Gx} {env:A0} {h:AH} {σ:L2.St} {H:Hp} (S:BS G env h σ H):HS G h H:=⟨S.hp,S.fr,S.ext,S.tr,S.tabs⟩
def XRep (K:PySem.W.Frag) (H:Hp) (x:AExc) (cls:Value) (d:Option Addr):Prop:=cls= .ref (He.ga K x.n)∧∃dd vs,d=some dd∧H dd=some (.xd vs)∧FRep K H x.fs vs
inductive RR where
  | val (w:W) | own (c:Cont)
def v8 (G:Gx) (h:AH) (H:Hp):RR→V→Prop
  | .val w,v=> Rep G.K H w v
  | .own c,v=> ∃p,v= .ref p∧CRep G.K H p c∧h p=none∧G.H0 p=none
abbrev C0:=List W→AH→(RR→AH→Prop)→(AExc→AH→Prop)→Prop
def M9 (K:PySem.W.Frag) (n:Nat) (sp:C0):Sp:=fun vs H Q E=> ∃ws h Qa Ea,ws.length=n∧(∀a o,h a=some o→ORep K H a o)∧TabsK K H∧RepL K H ws vs∧sp ws h Qa Ea∧
  (∀r h' v H',Qa r h'→HS ⟨K,h,H⟩ h' H'→v8 ⟨K,h,H⟩ h' H' r v→Q v H')∧
  (∀x h' cls d H',Ea x h'→HS ⟨K,h,H⟩ h' H'→XRep K H' x cls d→E cls d H')
section
variable {G:Gx} {env:A0} {h1 h2:AH} {σ:L2.St} {H1 H2:Hp}
theorem BS.after (S:BS G env h1 σ H1) (c:HS ⟨G.K,h1,H1⟩ h2 H2):BS G env h2 σ H2∧Xt env h1 σ H1 env h2 H2:=by
  have kp:Keeps H1 H2:=fun p o e i=> c.fr p o e (S.imm e i).1 i.nt
  have x:Xt env h1 σ H1 env h2 H2:=by
    refine ⟨fun p o e n _ t=> c.fr p o e n t,fun p o e n=> c.ext p o e n,c.tr,fun i d e=> ⟨d,e⟩⟩
  refine ⟨⟨S.len,fun i w e=> ?_,fun i a e=> ?_,S.uni,c.hp,fun p o e n t=> ?_,fun a o e n=> ?_,fun p o e=> ?_,c.tabs⟩,x⟩
  · obtain ⟨v,a,b⟩:=S.val i w e;exact ⟨v,a,Rep.mono kp w v b⟩
  · obtain ⟨p,q,r,n,n0⟩:=S.own i a e
    obtain ⟨o,eo,_⟩:=r.there
    refine ⟨p,q,r.mono kp ((c.fr p o eo n (r.mu_at eo).nt).trans eo.symm),?_,n0⟩
    cases z:h2 p with
    | none=> rfl
    | some u=> have y:H1 p=none:=c.ext p u z n;rw [y] at eo;cases eo
  · have n1:h1 p=none:=by
      cases z:h1 p with
      | none=> rfl
      | some u=> have y:=S.ext p u z n;rw [y] at e;cases e
    exact c.fr p o (S.fr p o e n t) n1 t
  · cases z:h1 a with
    | some u=> exact S.ext a u z n
    | none=>
      have y:H1 a=none:=c.ext a o e z
      cases w:G.H0 a with
      | none=> rfl
      | some u=> obtain ⟨t,q⟩:=S.tr a u w;rw [y] at q;cases q
  · obtain ⟨u,q⟩:=S.tr p o e;exact c.tr p u q
end
def aCall (E:AExc→A0→AH→Prop) (sp:C0) (t:B7):AT:=fun env h Q=> t env h fun ws env1 h1=> sp ws h1 (fun r h2=> match r with
  | .val w=> Q (.val w) env1 h2
  | .own c=> Q (.own c) env1 h2) fun x h2=> E x env1 h2
def L1 (sp:C0):Prop:=∀ws h Q Q' E E',(∀r k,Q r k→Q' r k)→(∀x k,E x k→E' x k)→sp ws h Q E→sp ws h Q' E'
theorem aCall.mono {E:AExc→A0→AH→Prop} {sp:C0} {t:B7} (m:L1 sp) (n:A2 t):A2 (aCall E sp t):=fun env h Q Q' k q=> n env h _ _ (fun ws e g z=> m _ _ _ _ _ _ (fun r f y=> by
  cases r with
  | val w=> exact k _ _ _ y
  | own c=> exact k _ _ _ y) (fun x f y=> y) z) q
def cW (G:Gx) (E:AExc→A0→AH→Prop):WX:=fun cls d σ H=> ∃x env h,BS G env h σ H∧XRep G.K H x cls d∧E x env h
theorem A65 {X:Cx} {G:Gx}:Takes X (cW G fun _ _ _=> False):=takes0.imp fun _ _ _ _ ⟨_,_,_,_,_,z⟩=> z
section
variable {X:Cx} {G:Gx} {sp:C0} {k n:Nat} {f:Addr} {fd:FuncData} {ps:List Str} {x:Str} {p pos:Pos} {e:Expr} {es:List Expr} {t:B7} {E:AExc→A0→AH→Prop}
theorem B0r {σ:L2.St} {H:Hp} {Q:VK} (m:A2 t) (sm:L1 sp) (hn:∀env h (R:List W→A0→AH→Prop),t env h R→t env h fun ws e g=> ws.length=n∧R ws e g) (q:cE G (aCall E sp t) σ H Q):
    tCallS (M9 G.K n sp) (WE (cW G E)) (cA G t) σ H Q:=by
  obtain ⟨env,h,S,q⟩:=q
  refine ⟨env,h,S,m env h _ _ (fun ws env1 h1 ⟨hl,z⟩ vs H1 S1 x1 r1=> ?_) (hn _ _ _ q)⟩
  refine ⟨ws,h1,_,_,hl,S1.hp,S1.tabs,r1,z,fun r h' v H' y c rr=> ?_,fun x h' cls d H' y c xr=> ?_⟩
  · obtain ⟨S2,x2⟩:=S1.after c
    cases r with
    | val w=> exact y v H' S2 (x1.trans x2) rr trivial
    | own c0=>
      obtain ⟨p,e,cr,a,b⟩:=rr
      have nw:H1 p=none:=b
      obtain ⟨_,g0,no⟩:=S1.noAt nw
      exact y v H' S2 (x1.trans x2) ⟨p,e,cr,a,g0,no⟩ fun p' e'=> by
        rw [e] at e';cases e';exact x1.fresh nw
  · obtain ⟨S2,x2⟩:=S1.after c
    exact ⟨x,env1,h',S2,xr,y⟩
theorem B10 (F:FnOk X.prog X.w X.K X.mg X.base (L2.CX X.prog X.w) k f fd ps (M9 G.K n sp)) (sm:L1 sp) (hr:Room k X.A) (hg:Gl X x) (hm:X.mg x=some (.ref f)) (hk:PySem.W.keepIn X.K (.ref f)=true) (hb:Binds X.K fd ps []) (tk:Takes X (cW G E))
    (ha:AA X G (e::es) t) (hn:∀env h (R:List W→A0→AH→Prop),t env h R→t env h fun ws e g=> ws.length=n∧R ws e g)
    (hdb:(x==("__debug__":Str))=false:=by decide) (he:starEach (e::es) X.env=(false,eval e X.env)::starEach es X.env:=by rfl) (hpl:(backTo pos (starEach es X.env)).any (·.1)=false:=by rfl):
    AE X G (.Call (.Name x p) (e::es) [] pos) (aCall E sp t):=
  ⟨aCall.mono sm ha.mono,PE.imp (pe_callS F hr hg hm hk hb (fun σ=> passAt tk σ) ha.pa hdb he hpl) fun _ _ _ q=> B0r ha.mono sm hn q⟩
end
theorem A7G:∀env h (R:List W→A0→AH→Prop),aNil env h R→aNil env h fun ws e g=> ws.length=0∧R ws e g:=fun _ _ _ q=> ⟨rfl,q⟩
theorem B1Q {t:B5} {u:B7} {n:Nat} (mt:A2 t) (hu:∀env h (R:List W→A0→AH→Prop),u env h R→u env h fun ws e g=> ws.length=n∧R ws e g) (mu:A2 u):
    ∀env h (R:List W→A0→AH→Prop),aCons t u env h R→aCons t u env h fun ws e g=> ws.length=n+1∧R ws e g:=fun env h R q=>
  mt env h _ _ (fun w e g z=> mu e g _ _ (fun ws e2 g2 ⟨y1,y2⟩=> ⟨by rw [List.length_cons,y1],y2⟩) (hu e g _ z)) q
structure AEnds where
  nx:A0→AH→Prop
  rt:RV→A0→AH→Prop
  bk:A0→AH→Prop:=fun _ _=> False
  ct:A0→AH→Prop:=fun _ _=> False
structure AEnds.Le (D D':AEnds):Prop where
  nx:∀e h,D.nx e h→D'.nx e h
  rt:∀r e h,D.rt r e h→D'.rt r e h
  bk:∀e h,D.bk e h→D'.bk e h
  ct:∀e h,D.ct e h→D'.ct e h
theorem AEnds.Le.refl (D:AEnds):D.Le D:=⟨fun _ _ q=> q,fun _ _ _ q=> q,fun _ _ q=> q,fun _ _ q=> q⟩
abbrev B4:=AEnds→A0→AH→Prop
def T4 (t:B4):Prop:=∀D D' env h,D.Le D'→t D env h→t D' env h
structure Link (G:Gx) (H0:Hp) (Da:AEnds) (D:Ends):Prop where
  nx:∀env h σ H,BS G env h σ H→Keeps H0 H→Da.nx env h→D.nx σ H
  rt:∀r env h σ H v,BS G env h σ H→Keeps H0 H→RvRep G env h σ H r v→Da.rt r env h→D.rt v H
  bk:∀env h σ H,BS G env h σ H→Keeps H0 H→Da.bk env h→D.bk σ H
  ct:∀env h σ H,BS G env h σ H→Keeps H0 H→Da.ct env h→D.ct σ H
theorem Link.from {G:Gx} {H H1:Hp} {Da:AEnds} {D:Ends} (l:Link G H Da D) (k:Keeps H H1):Link G H1 Da D:=
  ⟨fun e h σ H' S q=> l.nx e h σ H' S (k.trans q),fun r e h σ H' v S q=> l.rt r e h σ H' v S (k.trans q),fun e h σ H' S q=> l.bk e h σ H' S (k.trans q),fun e h σ H' S q=> l.ct e h σ H' S (k.trans q)⟩
def cS (G:Gx) (t:B4):TS:=fun D σ H=> ∃env h Da,BS G env h σ H∧t Da env h∧Link G H Da D
structure AS (X:Cx) (G:Gx) (st:Stmt) (t:B4):Prop where
  mono:T4 t
  ps:PS X st (cS G t)
structure ASs (X:Cx) (G:Gx) (st:List Stmt) (t:B4):Prop where
  mono:T4 t
  ps:PSs X st (cS G t)
def K5:B4:=fun D env h=> D.nx env h
def aSeq (t u:B4):B4:=fun D env h=> t { D with nx:=u D } env h
theorem aSeq.mono {t u:B4} (m:T4 t) (n:T4 u):T4 (aSeq t u):=fun D D' env h l q=> m { D with nx:=u D } { D' with nx:=u D' } env h ⟨fun e g z=> n D D' e g l z,l.rt,l.bk,l.ct⟩ q
section
variable {X:Cx} {G:Gx} {st:Stmt} {rest:List Stmt} {t u:B4} {e:Expr} {te:AT} {tv:B5} {pos:Pos}
theorem L9:ASs X G [] K5:=⟨fun D D' env h l q=> l.nx _ _ q,PSs.imp pss_nil fun D σ H ⟨env,h,Da,S,q,l⟩=> l.nx _ _ _ _ S (.refl _) q⟩
theorem C5 (a:AS X G st t) (b:ASs X G rest u):ASs X G (st::rest) (aSeq t u):=
  ⟨aSeq.mono a.mono b.mono,PSs.imp (pss_cons a.ps b.ps) fun D σ H ⟨env,h,Da,S,q,l⟩=> ⟨env,h,{ Da with nx:=u Da },S,q,⟨fun e g σ' H' S' y z=> ⟨e,g,Da,S',z,l.from y⟩,l.rt,l.bk,l.ct⟩⟩⟩
theorem D6 (a:AS X G st t):ASs X G [st] t:=⟨a.mono,pss_one a.ps⟩
def c5 (t:AT):B4:=fun D env h=> t env h fun _ env1 h1=> D.nx env1 h1
theorem s9 (a:AE X G e te) (hs:swapsWith e none pos.line X.env=pure false:=by rfl):AS X G (.Expr e pos) (c5 te):=
  ⟨fun D D' env h l q=> a.mono env h _ _ (fun _ e g z=> l.nx _ _ z) q,PS.imp (ps_expr a.pe hs) fun D σ H ⟨env,h,Da,S,q,l⟩=> ⟨env,h,S,a.mono env h _ _ (fun r e g z v H1 S1 x1 _ _=> l.nx _ _ _ _ S1 (x1.keeps S) z) q⟩⟩
def K6 (t:AT):B4:=fun D env h=> t env h D.rt
theorem M1 (a:AE X G e te):AS X G (.Return (some e) pos) (K6 te):=
  ⟨fun D D' env h l q=> a.mono env h _ _ l.rt q,PS.imp (ps_ret a.pe) fun D σ H ⟨env,h,Da,S,q,l⟩=> ⟨env,h,S,a.mono env h _ _ (fun r e g z v H1 S1 x1 r1 _=> l.rt _ _ _ _ _ _ S1 (x1.keeps S) r1 z) q⟩⟩
def I8 (c:E4) (t u:B4):B4:=fun D env h=> c env h fun b env1 h1=> if b=true then t D env1 h1 else u D env1 h1
theorem K3 {c:Expr} {a b:List Stmt} {tc:E4} (hc:AP X G c tc) (ha:ASs X G a t) (hb:ASs X G b u):AS X G (.If c a b pos) (I8 tc t u):=by
  refine ⟨fun D D' env h l q=> hc.mono env h _ _ (fun d e g z=> ?_) q,PS.imp (ps_if hc.pt ha.ps hb.ps) fun D σ H ⟨env,h,Da,S,q,l⟩=> ⟨env,h,S,hc.mono env h _ _ (fun d e g z H1 S1 x1=> ?_) q⟩⟩
  · cases d with
    | true=> rw [if_pos rfl] at z ⊢;exact ha.mono _ _ _ _ l z
    | false=> rw [if_neg Bool.false_ne_true] at z ⊢;exact hb.mono _ _ _ _ l z
  · cases d with
    | true=> rw [if_pos rfl] at z ⊢;exact ⟨e,g,Da,S1,z,l.from (x1.keeps S)⟩
    | false=> rw [if_neg Bool.false_ne_true] at z ⊢;exact ⟨e,g,Da,S1,z,l.from (x1.keeps S)⟩
def aNs (t:AT):AT:=fun env h Q=> t env h fun r env' h'=> match r with
  | .slot i=> match env'[i]? with
    | some (some (.val w))=> Q (.val w) env' h'
    | some (some (.own c))=> Q (.val c.fz) (env'.set i (some (.val c.fz))) h'
    | _=> False
  | r=> Q r env' h'
def u2:RV→Prop
  | .slot _=> False
  | _=> True
theorem aNs.mono (m:A2 te):A2 (aNs te):=fun env h Q Q' k q=> by
  refine m env h _ _ (fun r e g z=> ?_) q
  cases r with
  | val w=> exact k _ _ _ z
  | own c=> exact k _ _ _ z
  | slot i=>
    show match e[i]? with
      | some (some (.val w))=> Q' (.val w) e g
      | some (some (.own c))=> Q' (.val c.fz) (e.set i (some (.val c.fz))) g
      | _=> False
    have z:match e[i]? with
      | some (some (.val w))=> Q (.val w) e g
      | some (some (.own c))=> Q (.val c.fz) (e.set i (some (.val c.fz))) g
      | _=> False:=z
    split at z
    · exact k _ _ _ z
    · exact k _ _ _ z
    · exact z
def cN (G:Gx) (t:AT):TE:=fun σ H Q=> ∃env h,BS G env h σ H∧t env h fun r env' h'=> ∀v H',BS G env' h' σ H'→Xt env h σ H env' h' H'→RvRep G env' h' σ H' r v→J9 H r v→u2 r→Q v H'
theorem B39 (a:AE X G e te):PE X e (cN G (aNs te)):=by
  refine ⟨fun pins s σ H Q I ⟨env,h,S,q⟩=> ?_⟩
  refine thn (a.pe.run pins s σ H (fun v H1=> ∃r env' h',BS G env' h' σ H1∧Xt env h σ H env' h' H1∧RvRep G env' h' σ H1 r v∧J9 H r v∧match r with
    | .slot i=> match env'[i]? with
      | some (some (.val w))=> ∀v H',BS G env' h' σ H'→Xt env h σ H env' h' H'→RvRep G env' h' σ H' (.val w) v→J9 H (.val w) v→u2 (.val w)→Q v H'
      | some (some (.own c))=> ∀v H',BS G (env'.set i (some (.val c.fz))) h' σ H'→Xt env h σ H (env'.set i (some (.val c.fz))) h' H'→RvRep G (env'.set i (some (.val c.fz))) h' σ H' (.val c.fz) v→J9 H (.val c.fz) v→u2 (.val c.fz)→Q v H'
      | _=> False
    | r=> ∀v H',BS G env' h' σ H'→Xt env h σ H env' h' H'→RvRep G env' h' σ H' r v→J9 H r v→u2 r→Q v H') I ⟨env,h,S,a.mono env h _ _ (fun r env' h' z v H1 S1 x1 r1 f1=> ⟨r,env',h',S1,x1,r1,f1,z⟩) q⟩) fun v s1 ⟨x,H1,I1,r1,r,env',h',S1,x1,rr,f1,z⟩=> ?_
  cases r with
  | val w=> exact ⟨x,H1,I1,r1,z x H1 S1 x1 rr f1 trivial⟩
  | own c=> exact ⟨x,H1,I1,r1,z x H1 S1 x1 rr f1 trivial⟩
  | slot i=>
    have es:σ[i]? =some (some x):=rr
    have z:match env'[i]? with
      | some (some (.val w))=> ∀v H',BS G env' h' σ H'→Xt env h σ H env' h' H'→RvRep G env' h' σ H' (.val w) v→J9 H (.val w) v→u2 (.val w)→Q v H'
      | some (some (.own c))=> ∀v H',BS G (env'.set i (some (.val c.fz))) h' σ H'→Xt env h σ H (env'.set i (some (.val c.fz))) h' H'→RvRep G (env'.set i (some (.val c.fz))) h' σ H' (.val c.fz) v→J9 H (.val c.fz) v→u2 (.val c.fz)→Q v H'
      | _=> False:=z
    split at z
    · rename_i w e
      obtain ⟨u,e3,r⟩:=S1.val i w e
      rw [es] at e3;cases e3
      exact ⟨x,H1,I1,r1,z x H1 S1 x1 r trivial trivial⟩
    · rename_i c e
      obtain ⟨p,H2,ep,I2,S2,x2,r2⟩:=A3f S1 x1 I1 e
      rw [es] at ep;cases ep
      exact ⟨_,H2,I2,r1,z _ H2 S2 x2 r2 trivial trivial⟩
    · exact z.elim
def RV.sv:RV→SV
  | .val w=> .val w
  | .own c=> .own c
  | .slot _=> .val .non
theorem BS.set {env:A0} {h:AH} {σ:L2.St} {H:Hp} (S:BS G env h σ H) {r:RV} {v:V} (i:Nat) (rr:RvRep G env h σ H r v) (ns:u2 r):BS G (env.set i (some r.sv)) h (σ.set i (some v)) H:=by
  have at_:∀(j:Nat) (sv:SV),(env.set i (some r.sv))[j]? =some (some sv)→(j=i∧sv=r.sv∧(σ.set i (some v))[j]? =some (some v))∨(j≠i∧env[j]? =some (some sv)∧(σ.set i (some v))[j]? =σ[j]?):=fun j sv e=> by
    by_cases hj:j=i
    · subst hj
      have hl:j < env.length:=by
        cases Nat.lt_or_ge j env.length with
        | inl z=> exact z
        | inr z=> rw [List.getElem?_eq_none (by rw [List.length_set];exact z)] at e;cases e
      rw [List.getElem?_set_self hl] at e
      exact .inl ⟨rfl,by injection e with e;injection e with e;exact e.symm,List.getElem?_set_self (by rw [←S.len];exact hl)⟩
    · rw [List.getElem?_set_ne (Ne.symm hj)] at e
      exact .inr ⟨hj,e,List.getElem?_set_ne (Ne.symm hj)⟩
  refine ⟨by rw [List.length_set,List.length_set];exact S.len,fun j w e=> ?_,fun j c e=> ?_,fun j k c c' p e1 e2 f1 f2=> ?_,S.hp,S.fr,S.ext,S.tr,S.tabs⟩
  · rcases at_ j _ e with ⟨rfl,z,y⟩ | ⟨_,z,y⟩
    · cases r with
      | val w'=> cases z;exact ⟨v,y,rr⟩
      | own c=> cases z
      | slot _=> exact ns.elim
    · obtain ⟨u,a,b⟩:=S.val j w z;exact ⟨u,y.trans a,b⟩
  · rcases at_ j _ e with ⟨rfl,z,y⟩ | ⟨_,z,y⟩
    · cases r with
      | val w'=> cases z
      | own c'=> cases z;obtain ⟨p,rfl,a,b,d,_⟩:=rr;exact ⟨p,y,a,b,d⟩
      | slot _=> exact ns.elim
    · obtain ⟨p,a,b⟩:=S.own j c z;exact ⟨p,y.trans a,b⟩
  · have other:∀(m:Nat) (d:Cont),env[m]? =some (some (SV.own d))→σ[m]? =some (some (V.ref p))→r.sv= .own c∨r.sv= .own c'→v= .ref p→False:=fun m d a b z y=> by
      cases r with
      | val w=> rcases z with z | z <;> cases z
      | slot _=> exact ns
      | own c0=> obtain ⟨q,e,_,_,_,no⟩:=rr;rw [e] at y;cases y;exact no ⟨m,d,a,b⟩
    rcases at_ j _ e1 with ⟨j1,z1,y1⟩ | ⟨j1,z1,y1⟩
    · rcases at_ k _ e2 with ⟨k1,z2,y2⟩ | ⟨k1,z2,y2⟩
      · rw [j1,k1]
      · rw [y1] at f1;injection f1 with f1;injection f1 with f1
        rw [y2] at f2
        exact (other k c' z2 f2 (.inl z1.symm) f1).elim
    · rcases at_ k _ e2 with ⟨k1,z2,y2⟩ | ⟨k1,z2,y2⟩
      · rw [y2] at f2;injection f2 with f2;injection f2 with f2
        rw [y1] at f1
        exact (other j c z1 f1 (.inr z2.symm) f2).elim
      · rw [y1] at f1;rw [y2] at f2
        exact S.uni j k c c' p z1 z2 f1 f2
def A0U (i:Nat) (t:AT):B4:=fun D env h=> aNs t env h fun r env1 h1=> D.nx (env1.set i (some r.sv)) h1
theorem A2b {i:Nat} {x:Str} {pos':Pos} (hN:X.N.Nodup) (hi:X.N[i]? =some x) (hx:Loc X.env.scope x) (a:AE X G e te) (hs:swapsWith e (some (.Name x pos')) pos.line X.env=pure false:=by rfl) (hf:X.fn x=true∨X.env.scope.names.lookup x=some .local:=by first | exact .inl rfl | exact .inr rfl | assumption):
    AS X G (.Assign [.Name x pos'] e pos) (A0U i te):=by
  refine ⟨fun D D' env h l q=> aNs.mono a.mono env h _ _ (fun _ e g z=> l.nx _ _ z) q,PS.imp (ps_set hN hi hx (B39 a) hs hf) fun D σ H ⟨env,h,Da,S,q,l⟩=> ?_⟩
  exact ⟨env,h,S,aNs.mono a.mono env h _ _ (fun r e g z v H1 S1 x1 r1 _ ns=> l.nx _ _ _ _ (S1.set i r1 ns) (x1.keeps S) z) q⟩
end
end Ab
namespace Ab
open PySem PySem.Spec PyProof.Rows L2
abbrev E7:=W→A0→AH→(A0→AH→Prop)→Prop
abbrev i8:=List W→A0→AH→(A0→AH→Prop)→Prop
def c4 {α:Type} (g:α→A0→AH→(A0→AH→Prop)→Prop):Prop:=∀w env h Q Q',(∀e k,Q e k→Q' e k)→g w env h Q→g w env h Q'
def But (sl:List Nat) (σ σ':L2.St):Prop:=σ'.length=σ.length∧∀i:Nat,i∉sl→σ'[i]? =σ[i]?
theorem But.refl {sl:List Nat} (σ:L2.St):But sl σ σ:=⟨rfl,fun _ _=> rfl⟩
theorem But.trans {sl sl':List Nat} {σ σ1 σ2:L2.St} (a:But sl σ σ1) (b:But sl' σ1 σ2):But (sl++sl') σ σ2:=
  ⟨b.1.trans a.1,fun i hi=> (b.2 i fun z=> hi (List.mem_append_right _ z)).trans (a.2 i fun z=> hi (List.mem_append_left _ z))⟩
structure Xg (sl:List Nat) (env:A0) (h:AH) (σ:L2.St) (H:Hp) (env':A0) (h':AH) (σ':L2.St) (H':Hp):Prop where
  fr:∀p o,H p=some o→h p=none→¬OwnAt env σ p→NT o→H' p=some o
  hn:∀p o,h' p=some o→h p=none→H p=none
  th:∀p o,H p=some o→∃o',H' p=some o'
  ow:∀p,OwnAt env' σ' p→OwnAt env σ p
  so:∀(i:Nat) (c':Cont),env'[i]? =some (some (SV.own c'))→∃c,env[i]? =some (some (SV.own c))
  bt:But sl σ σ'
theorem Xg.keeps {sl:List Nat} {G:Gx} {env env':A0} {h h':AH} {σ σ':L2.St} {H H':Hp} (x:Xg sl env h σ H env' h' σ' H') (S:BS G env h σ H):Keeps H H':=fun p o e i=> x.fr p o e (S.imm e i).1 (S.imm e i).2 i.nt
theorem Xg.refl {sl:List Nat} {env:A0} {h:AH} {σ:L2.St} {H:Hp}:Xg sl env h σ H env h σ H:=⟨fun _ _ e _ _ _=> e,fun p o e n=> (by rw [n] at e;cases e),fun _ o e=> ⟨o,e⟩,fun _ q=> q,fun i c e=> ⟨c,e⟩,.refl σ⟩
theorem Xg.trans {sl sl':List Nat} {env env1 env2:A0} {h h1 h2:AH} {σ σ1 σ2:L2.St} {H H1 H2:Hp} (a:Xg sl env h σ H env1 h1 σ1 H1) (b:Xg sl' env1 h1 σ1 H1 env2 h2 σ2 H2):Xg (sl++sl') env h σ H env2 h2 σ2 H2:=by
  refine ⟨fun p o e n w t=> ?_,fun p o e n=> ?_,fun p o e=> ?_,fun p q=> a.ow p (b.ow p q),fun i c e=> ?_,a.bt.trans b.bt⟩
  · refine b.fr p o (a.fr p o e n w t) ?_ (fun q=> w (a.ow p q)) t
    cases q:h1 p with
    | none=> rfl
    | some u=> rw [a.hn p u q n] at e;cases e
  · cases q:h1 p with
    | some u=> exact a.hn p u q n
    | none=>
      have z:=b.hn p o e q
      cases q2:H p with
      | none=> rfl
      | some u=> obtain ⟨o',e'⟩:=a.th p u q2;rw [z] at e';cases e'
  · obtain ⟨o',e'⟩:=a.th p o e;exact b.th p o' e'
  · obtain ⟨c1,z⟩:=b.so i c e
    exact a.so i c1 z
theorem Xt.xg {env env':A0} {h h':AH} {σ:L2.St} {H H':Hp} (x:Xt env h σ H env' h' H'):Xg [] env h σ H env' h' σ H':=
  ⟨x.fr,x.hn,x.th,fun _ q=> x.own q,x.sl,.refl σ⟩
def cG (G:Gx) (sl:List Nat) (g:E7):TG:=fun v σ H Q=> ∃w env h,Rep G.K H w v∧BS G env h σ H∧g w env h fun env' h'=> ∀σ' H',BS G env' h' σ' H'→Xg sl env h σ H env' h' σ' H'→Q σ' H'
def cGs (G:Gx) (sl:List Nat) (g:i8):TGs:=fun vs σ H Q=> ∃ws env h,RepL G.K H ws vs∧BS G env h σ H∧g ws env h fun env' h'=> ∀σ' H',BS G env' h' σ' H'→Xg sl env h σ H env' h' σ' H'→Q σ' H'
structure AG (X:Cx) (G:Gx) (tg:Expr) (sl:List Nat) (g:E7):Prop where
  mono:c4 g
  pg:PG X tg (cG G sl g)
structure AGs (X:Cx) (G:Gx) (tg:List Expr) (sl:List Nat) (g:i8):Prop where
  mono:c4 g
  pg:PGs X tg (cGs G sl g)
theorem PG.imp {X:Cx} {e:Expr} {t t':TG} (h:PG X e t) (i:∀v σ H Q,t' v σ H Q→t v σ H Q):PG X e t':=⟨fun pins s σ H v u Q I r q=> h.run pins s σ H v u Q I r (i _ _ _ _ q)⟩
theorem PGs.imp {X:Cx} {e:List Expr} {t t':TGs} (h:PGs X e t) (i:∀v σ H Q,t' v σ H Q→t v σ H Q):PGs X e t':=⟨fun pins s σ H v u Q I r q=> h.run pins s σ H v u Q I r (i _ _ _ _ q)⟩
section
variable {X:Cx} {G:Gx} {pos:Pos} {x:Str}
def K7 (i:Nat):E7:=fun w env h Q=> Q (env.set i (some (.val w))) h
theorem M4 {i:Nat} (hN:X.N.Nodup) (hi:X.N[i]? =some x) (hx:Loc X.env.scope x) (hf:X.fn x=true∨X.env.scope.names.lookup x=some .local:=by first | exact .inl rfl | exact .inr rfl | assumption):AG X G (.Name x pos) [i] (K7 i):=by
  refine ⟨fun w env h Q Q' k q=> k _ _ q,PG.imp (pg_name hN hi hx hf) fun v σ H Q ⟨w,env,h,r,S,q⟩=> ?_⟩
  have ne:∀{j:Nat},j∉[i]→i≠j:=fun hj z=> hj (by simp [z])
  refine q _ H (S.set (r:= .val w) i r trivial) ⟨fun _ _ e _ _ _=> e,fun p o e n=> (by rw [n] at e;cases e),fun _ o e=> ⟨o,e⟩,fun p ⟨j,c,e1,e2⟩=> ?_,fun j c e1=> ?_,List.length_set,fun j hj=> List.getElem?_set_ne (ne hj)⟩
  · by_cases hj:i=j
    · subst hj
      have hl:i < env.length:=by
        have:=(List.getElem?_eq_some_iff.mp e1).1
        rwa [List.length_set] at this
      rw [List.getElem?_set_self hl] at e1
      cases e1
    · rw [List.getElem?_set_ne hj] at e1 e2
      exact ⟨j,c,e1,e2⟩
  · by_cases hj:i=j
    · subst hj
      have hl:i < env.length:=by
        have:=(List.getElem?_eq_some_iff.mp e1).1
        rwa [List.length_set] at this
      rw [List.getElem?_set_self hl] at e1
      cases e1
    · rw [List.getElem?_set_ne hj] at e1
      exact ⟨c,e1⟩
def A2t:i8:=fun ws env h Q=> ws=[]∧Q env h
def u8 (t:E7) (u:i8):i8:=fun ws env h Q=> ∃w r,ws=w::r∧t w env h fun env' h'=> u r env' h' Q
theorem A7P:AGs X G [] [] A2t:=⟨fun w env h Q Q' k q=> ⟨q.1,k _ _ q.2⟩,PGs.imp pgs_nil fun v σ H Q ⟨ws,env,h,r,S,e,q⟩=> by
  subst e
  exact ⟨r.of_nil,q σ H S .refl⟩⟩
theorem A17 {e:Expr} {es:List Expr} {t:E7} {u:i8} {sl sl':List Nat} (a:AG X G e sl t) (b:AGs X G es sl' u) (hs:(assignEach (e::es) X.env).map (·.2)=assign e X.env::(assignEach es X.env).map (·.2):=by rfl):AGs X G (e::es) (sl++sl') (u8 t u):=by
  refine ⟨fun w env h Q Q' k ⟨x,r,e,q⟩=> ⟨x,r,e,a.mono _ _ _ _ _ (fun e g z=> b.mono _ _ _ _ _ k z) q⟩,PGs.imp (pgs_cons a.pg b.pg hs) fun v σ H Q ⟨ws,env,h,r,S,w,rs,e,q⟩=> ?_⟩
  subst e
  obtain ⟨v0,vr,rfl,r0,rr⟩:=r.of_cons
  refine ⟨v0,vr,rfl,w,env,h,r0,S,a.mono _ _ _ _ _ (fun env1 h1 z σ1 H1 S1 x1=> ?_) q⟩
  exact ⟨rs,env1,h1,RepL.mono (x1.keeps S) _ _ rr,S1,b.mono _ _ _ _ _ (fun env2 h2 z2 σ2 H2 S2 x2=> z2 σ2 H2 S2 (x1.trans x2)) z⟩
def gTp (n:Nat) (u:i8):E7:=fun w env h Q=> match w with
  | .tup ws=> ws.length=n∧u ws env h Q
  | _=> False
theorem A7k {es:List Expr} {k n:Nat} {u:i8} {sl:List Nat} (gk:G.K=X.K) (hc:X.calm=true) (b:AGs X G es sl u)
    (hn:(assignEach es X.env).length=n:=by rfl) (hst:(assignEach es X.env).findIdx? (·.1)=none:=by rfl):AG X G (.Tuple es k pos) sl (gTp n u):=by
  refine ⟨fun w env h Q Q' k q=> ?_,PG.imp (pg_tup hc b.pg hn hst) fun v σ H Q ⟨w,env,h,r,S,q⟩=> ?_⟩
  · unfold gTp at q ⊢
    split at q
    · exact ⟨q.1,b.mono _ _ _ _ _ k q.2⟩
    · exact q
  · unfold gTp at q
    split at q
    · obtain ⟨a,vs,rfl,s,r⟩:=Rep.of_tup r
      exact ⟨a,vs,rfl,gk▸s,r.length.symm.trans q.1,_,env,h,r,S,q.2⟩
    · exact q.elim
end
abbrev O7:=A0→AH→(List W→A0→AH→Prop)→Prop
def A0N (K:PySem.W.Frag) (J:It) (H1:Hp) (ws:List W):Prop:=∀H,Keeps H1 H→∀i:Nat,(ws.length≤i→J.stop i H)∧∀w,ws[i]? =some w→J.go i H∧∀x H',J.yld i H x H'→New H H'∧Rep K H' w x
def cI (G:Gx) (t:O7):TI:=fun σ H R=> ∃env h,BS G env h σ H∧t env h fun ws env' h'=> ∀J H',BS G env' h' σ H'→Xt env h σ H env' h' H'→A0N G.K J H' ws→R J H'
structure AI (X:Cx) (G:Gx) (tg iter:Expr) (t:O7):Prop where
  mono:A2 t
  pi:PI X tg iter (cI G t)
theorem PI.imp {X:Cx} {tg e:Expr} {t t':TI} (h:PI X tg e t) (i:∀σ H R,t' σ H R→t σ H R):PI X tg e t':=⟨fun pins s σ H R I q=> h.run pins s σ H R I (i _ _ _ q)⟩
section
variable {X:Cx} {G:Gx} {tg e:Expr} {pos:Pos} {x:Str}
def iLst (t:B5):O7:=fun env h Q=> t env h fun w env' h'=> match w with
  | .lst ws=> Q ws env' h'
  | _=> False
def iTpl (t:B5):O7:=fun env h Q=> t env h fun w env' h'=> match w with
  | .tup ws=> Q ws env' h'
  | _=> False
theorem iLst.mono {t:B5} (m:A2 t):A2 (iLst t):=fun env h Q Q' k q=> m env h _ _ (fun w e g z=> by
  cases w <;> first | exact k _ _ _ z | exact z) q
theorem iTpl.mono {t:B5} (m:A2 t):A2 (iTpl t):=fun env h Q Q' k q=> m env h _ _ (fun w e g z=> by
  cases w <;> first | exact k _ _ _ z | exact z) q
theorem B0Q {K:PySem.W.Frag} {H:Hp} {a:Addr} {ws:List W} {vs:List V} (l:LsF H a vs) (r:RepL K H ws vs):A0N K (Itl K a) H ws:=fun H' k i=> by
  have l':=(k.lsF l).sq (K:=K)
  have r':=RepL.mono k _ _ r
  refine ⟨fun h=> ⟨vs,l',by rw [←r'.length];exact h⟩,fun w e=> ?_⟩
  obtain ⟨v,ev,rv⟩:=r'.get e
  exact ⟨⟨vs,v,l',ev⟩,fun x H2 ⟨e1,q⟩=> by
    subst e1
    have z:=q vs l'
    rw [ev] at z;cases z
    exact ⟨.refl _,rv⟩⟩
theorem B0e {K:PySem.W.Frag} {H:Hp} {a:Addr} {ws:List W} {vs:List V} (l:SqT K H a vs) (r:RepL K H ws vs):A0N K (Itt K a) H ws:=fun H' k i=> by
  have l':=k.sqT l
  have r':=RepL.mono k _ _ r
  refine ⟨fun h=> ⟨vs,l',by rw [←r'.length];exact h⟩,fun w e=> ?_⟩
  obtain ⟨v,ev,rv⟩:=r'.get e
  exact ⟨⟨vs,v,l',ev⟩,fun x H2 ⟨e1,q⟩=> by
    subst e1
    have z:=q vs l'
    rw [ev] at z;cases z
    exact ⟨.refl _,rv⟩⟩
theorem PI.or {t u:TI} (a:PI X tg e t) (b:PI X tg e u):PI X tg e (fun σ H R=> t σ H R∨u σ H R):=⟨fun pins s σ H R I q=> q.elim (fun z=> a.run pins s σ H R I z) fun z=> b.run pins s σ H R I z⟩
def N3 (lo:Int) (n:Nat):List W:=(List.range n).map fun (i:Nat)=> W.int (lo+i)
theorem A9y {K:PySem.W.Frag} {H:Hp} {lo:Int} {n:Nat}:A0N K (Itr lo n) H (N3 lo n):=fun H' k i=> by
  have hl:(N3 lo n).length=n:=by simp [N3]
  refine ⟨fun h=> (show n≤i by omega),fun w e=> ?_⟩
  unfold N3 at e
  rw [List.getElem?_map] at e
  cases q:(List.range n)[i]? with
  | none=> rw [q] at e;cases e
  | some j=>
    rw [q] at e
    obtain ⟨hi,ej⟩:=List.getElem?_eq_some_iff.mp q
    rw [List.getElem_range] at ej
    subst ej
    cases e
    rw [List.length_range] at hi
    exact ⟨hi,fun x H2 ⟨e1,e2⟩=> by subst e1;subst e2;exact ⟨.refl _,.int⟩⟩
def A0R (t:N7):O7:=fun env h Q=> t env h fun rs env' h'=> match rs.map (view env' h') with
  | [.wv (.int j)]=> -(2 ^ 62)≤j∧j < 2 ^ 62∧Q (N3 0 j.toNat) env' h'
  | _=> False
theorem A13 {a:Expr} {ta:N7} {p:Pos} (hg:Gl X "range") (hm:X.mg "range"=none) (ha:AR X G [a] ta) (hs:starEach [a] X.env=[(false,eval a X.env)]:=by rfl):AI X G tg (.Call (.Name "range" p) [a] [] pos) (A0R ta):=by
  refine ⟨fun env h Q Q' k q=> ha.mono env h _ _ (fun rs e g z=> ?_) q,PI.imp (pi_range1 hg hm ha.pa hs) fun σ H R ⟨env,h,S,q⟩=> ?_⟩
  · split at z
    · exact ⟨z.1,z.2.1,k _ _ _ z.2.2⟩
    · exact z
  · refine ⟨env,h,S,ha.mono env h _ _ (fun rs env1 h1 z vs H1 S1 x1 r1=> ?_) q⟩
    have rr:=r1.vrl S1
    split at z
    · rename_i j e
      rw [e] at rr
      obtain ⟨v,rfl,rv⟩:=rr.one
      cases rv.int
      exact ⟨j,rfl,z.1,z.2.1,z.2.2 _ H1 S1 x1 A9y⟩
    · exact z.elim
end
def aLoop (g:E7) (tb:B4) (D:AEnds):List W→A0→AH→Prop
  | []=> D.nx
  | w::ws=> fun env h=> g w env h fun env1 h1=> tb { D with nx:=aLoop g tb D ws,ct:=aLoop g tb D ws,bk:=D.nx } env1 h1
def A0X (ti:O7) (g:E7) (tb:B4):B4:=fun D env h=> ti env h fun ws env1 h1=> aLoop g tb D ws env1 h1
theorem aLoop.mono {g:E7} {tb:B4} (mg:c4 g) (mt:T4 tb) {D D':AEnds} (l:D.Le D'):∀(ws:List W) env h,aLoop g tb D ws env h→aLoop g tb D' ws env h
  | [],env,h,q=> l.nx _ _ q
  | w::ws,env,h,q=> mg w env h _ _ (fun e k z=> mt { D with nx:=aLoop g tb D ws,ct:=aLoop g tb D ws,bk:=D.nx } { D' with nx:=aLoop g tb D' ws,ct:=aLoop g tb D' ws,bk:=D'.nx } e k ⟨aLoop.mono mg mt l ws,l.rt,l.nx,aLoop.mono mg mt l ws⟩ z) q
section
variable {X:Cx} {G:Gx} {tg iter:Expr} {body:List Stmt} {pos:Pos}
theorem A2Y {ti:O7} {g:E7} {tb:B4} {sl:List Nat} (hp:PassesOwn (model X.prog X.w) X.A X.env X.xe) (hc:X.calm=true) (hi:AI X G tg iter ti) (hg:AG X G tg sl g) (hb:ASs X G body tb)
    (hs:∀x,foldedSetIterable iter X.env x=pure x:=by intro _;rfl):AS X G (.For tg iter body [] pos) (A0X ti g tb):=by
  refine ⟨fun D D' env h l q=> hi.mono env h _ _ (fun ws e k z=> aLoop.mono hg.mono hb.mono l ws e k z) q,PS.imp (ps_for hp hc hi.pi hg.pg hb.ps hs) fun D σ H ⟨env,h,Da,S,q,l⟩=> ?_⟩
  refine ⟨env,h,S,hi.mono env h _ _ (fun ws env1 h1 z J H1 S1 x1 gv=> ?_) q⟩
  have kp:=x1.keeps S
  refine ⟨fun i m σ' H'=> ws.length≤i+m∧Keeps H1 H'∧∃e k,BS G e k σ' H'∧aLoop g tb Da (ws.drop i) e k,⟨ws.length,by omega,.refl H1,env1,h1,S1,by simpa using z⟩,?_⟩
  rintro i m σ2 H2 ⟨hm,k2,e2,g2,S2,z2⟩
  have gi:=gv H2 k2 i
  cases e:ws[i]? with
  | none=>
    have hl:=List.getElem?_eq_none_iff.mp e
    rw [List.drop_eq_nil_of_le hl] at z2
    exact .inl ⟨gi.1 hl,l.nx _ _ _ _ S2 (kp.trans k2) z2⟩
  | some w=>
    obtain ⟨hl,ew⟩:=List.getElem?_eq_some_iff.mp e
    have ed:ws.drop i=w::ws.drop (i+1):=by rw [List.drop_eq_getElem_cons hl,ew]
    rw [ed] at z2
    obtain ⟨go,yl⟩:=gi.2 w e
    refine .inr ⟨go,fun σ' H'=> Keeps H1 H'∧∃e k,BS G e k σ' H'∧aLoop g tb Da (ws.drop (i+1)) e k,fun σ' H' n=> ⟨m - 1,by omega,by omega,n.1,n.2⟩,fun x H3 y=> ?_⟩
    obtain ⟨nw,rx⟩:=yl x H3 y
    have k3:=k2.trans nw.keeps
    refine ⟨w,e2,g2,rx,nw.bs S2,hg.mono w e2 g2 _ _ (fun e4 g4 z4 σ4 H4 S4 x4=> ?_) z2⟩
    have k4:=x4.keeps (nw.bs S2)
    refine ⟨e4,g4,_,S4,z4,⟨fun e k σ H S' kk y=> ⟨(k3.trans k4).trans kk,e,k,S',y⟩,fun r e k σ H v S' kk=> l.rt r e k σ H v S' (kp.trans ((k3.trans k4).trans kk)),fun e k σ H S' kk=> l.nx e k σ H S' (kp.trans ((k3.trans k4).trans kk)),fun e k σ H S' kk y=> ⟨(k3.trans k4).trans kk,e,k,S',y⟩⟩⟩
end
end Ab
namespace Ab
open PySem PySem.Spec PyProof.Rows L2
def P6 (env:A0):List Nat→A0
  | []=> env
  | v::vs=> (P6 env vs).set v none
def B3t:Option (Option SV)→Option SV
  | some (some (.val w))=> some (.val w)
  | _=> none
def mend (env e2:A0):List Nat→A0
  | []=> e2
  | v::vs=> (mend env e2 vs).set v (B3t env[v]?)
theorem A6M (env:A0):∀vs,(P6 env vs).length=env.length
  | []=> rfl
  | v::vs=> by rw [P6,List.length_set,A6M env vs]
theorem A6Z (env e2:A0):∀vs,(mend env e2 vs).length=e2.length
  | []=> rfl
  | v::vs=> by rw [mend,List.length_set,A6Z env e2 vs]
theorem p0 {env:A0} {i:Nat} {x:SV}:∀{vs:List Nat},(P6 env vs)[i]? =some (some x)→env[i]? =some (some x)∧i∉vs
  | [],h=> ⟨h,by simp⟩
  | v::vs,h=> by
    rw [P6] at h
    by_cases hi:v=i
    · subst hi
      by_cases hl:v < (P6 env vs).length
      · rw [List.getElem?_set_self hl] at h;cases h
      · rw [List.getElem?_eq_none (by rw [List.length_set];omega)] at h;cases h
    · rw [List.getElem?_set_ne hi] at h
      obtain ⟨a,b⟩:=p0 h
      exact ⟨a,by simp only [List.mem_cons,not_or];exact ⟨fun z=> hi z.symm,b⟩⟩
theorem s8 {env e2:A0} {i:Nat}:∀{vs:List Nat},i∉vs→(mend env e2 vs)[i]? =e2[i]?
  | [],_=> rfl
  | v::vs,h=> by
    rw [mend,List.getElem?_set_ne (fun z=> h (by simp [z])),s8 fun z=> h (List.mem_cons_of_mem _ z)]
theorem t5 {env e2:A0} {i:Nat} {x:SV}:∀{vs:List Nat},i∈vs→(mend env e2 vs)[i]? =some (some x)→∃w,x= .val w∧env[i]? =some (some (.val w))
  | v::vs,hi,h=> by
    rw [mend] at h
    by_cases e:v=i
    · subst e
      by_cases hl:v < (mend env e2 vs).length
      · rw [List.getElem?_set_self hl] at h
        cases q:env[v]? with
        | none=> rw [q] at h;cases h
        | some o=>
          cases o with
          | none=> rw [q] at h;cases h
          | some sv=>
            cases sv with
            | val w=> rw [q] at h;cases h;exact ⟨w,rfl,rfl⟩
            | own c=> rw [q] at h;cases h
      · rw [List.getElem?_eq_none (by rw [List.length_set];omega)] at h;cases h
    · rw [List.getElem?_set_ne e] at h
      rcases List.mem_cons.mp hi with z | z
      · exact absurd z.symm e
      · exact t5 z h
theorem A00 (σ:L2.St) (vs:List Nat):(wipe σ vs).length=σ.length:=wipe_length σ vs
theorem f9 {σ:L2.St} {i:Nat}:∀{vs:List Nat},i∉vs→(wipe σ vs)[i]? =σ[i]?
  | [],_=> rfl
  | v::vs,h=> by
    rw [wipe,List.getElem?_set_ne (fun z=> h (by simp [z])),f9 fun z=> h (List.mem_cons_of_mem _ z)]
theorem A32 {σ:L2.St} {i:Nat}:∀{vs:List Nat},i∈vs→(wipe σ vs)[i]? =if i < σ.length then some none else none
  | v::vs,h=> by
    rw [wipe]
    by_cases e:v=i
    · subst e
      by_cases hl:v < σ.length
      · rw [if_pos hl,List.getElem?_set_self (by rw [A00];exact hl)]
      · rw [if_neg hl,List.getElem?_eq_none (by rw [List.length_set,A00];omega)]
    · rw [List.getElem?_set_ne e]
      rcases List.mem_cons.mp h with z | z
      · exact absurd z.symm e
      · exact A32 z
theorem B03 {σ σ2:L2.St} {vs sl:List Nat} (b:But sl (wipe σ vs) σ2) (h:∀i∈sl,i∈vs):wipe σ2 vs=wipe σ vs:=by
  have hl:σ2.length=σ.length:=b.1.trans (A00 _ _)
  apply List.ext_getElem?
  intro i
  by_cases hi:i∈vs
  · rw [A32 hi,A32 hi,hl]
  · rw [f9 hi,b.2 i fun z=> hi (h i z)]
section
variable {G:Gx} {env e2:A0} {h h2:AH} {σ σ2:L2.St} {H H2:Hp} {vs sl:List Nat}
theorem OwnAt.wiped {p:Addr} (o:OwnAt (P6 env vs) (wipe σ vs) p):OwnAt env σ p:=by
  obtain ⟨i,c,a,b⟩:=o
  obtain ⟨a1,hi⟩:=p0 a
  rw [f9 hi] at b
  exact ⟨i,c,a1,b⟩
theorem BS.wipe (S:BS G env h σ H):BS G (P6 env vs) h (L2.wipe σ vs) H:=by
  refine ⟨by rw [A6M,A00];exact S.len,fun i w e=> ?_,fun i c e=> ?_,fun i j c c' p e1 e2 f1 f2=> ?_,S.hp,S.fr,S.ext,S.tr,S.tabs⟩
  · obtain ⟨a,hi⟩:=p0 e
    rw [f9 hi];exact S.val i w a
  · obtain ⟨a,hi⟩:=p0 e
    rw [f9 hi];exact S.own i c a
  · obtain ⟨a,hi⟩:=p0 e1
    obtain ⟨b,hj⟩:=p0 e2
    rw [f9 hi] at f1;rw [f9 hj] at f2
    exact S.uni i j c c' p a b f1 f2
theorem BS.mend (S:BS G env h σ H) (S2:BS G e2 h2 σ2 H2) (k:Keeps H H2) (b:But sl (L2.wipe σ vs) σ2) (hs:∀i∈sl,i∈vs):BS G (mend env e2 vs) h2 σ H2:=by
  have at_:∀{i:Nat},i∉vs→σ2[i]? =σ[i]? :=fun {i} hi=> (b.2 i fun z=> hi (hs i z)).trans (f9 hi)
  refine ⟨by rw [A6Z,S2.len,b.1,A00],fun i w e=> ?_,fun i c e=> ?_,fun i j c c' p e1 e2 f1 f2=> ?_,S2.hp,S2.fr,S2.ext,S2.tr,S2.tabs⟩
  · by_cases hi:i∈vs
    · obtain ⟨w',e0,a⟩:=t5 hi e
      cases e0
      obtain ⟨v,x,y⟩:=S.val i w a
      exact ⟨v,x,Rep.mono k w v y⟩
    · rw [s8 hi] at e
      obtain ⟨v,x,y⟩:=S2.val i w e
      exact ⟨v,(at_ hi).symm.trans x,y⟩
  · by_cases hi:i∈vs
    · obtain ⟨w',e0,_⟩:=t5 hi e;cases e0
    · rw [s8 hi] at e
      obtain ⟨p,x,y⟩:=S2.own i c e
      exact ⟨p,(at_ hi).symm.trans x,y⟩
  · by_cases hi:i∈vs
    · obtain ⟨w',e0,_⟩:=t5 hi e1;cases e0
    · by_cases hj:j∈vs
      · obtain ⟨w',e0,_⟩:=t5 hj e2;cases e0
      · rw [s8 hi] at e1;rw [s8 hj] at e2
        exact S2.uni i j c c' p e1 e2 ((at_ hi).trans f1) ((at_ hj).trans f2)
theorem BS.unseen (S:BS G env h σ H) {D:Addr} {o o':HO} (e:H D=some o) (m:Mu o) (n:h D=none) (n0:G.H0 D=none) (no:¬OwnAt env σ D):Keeps H (upd H D o')∧BS G env h σ (upd H D o'):=by
  have k:Keeps H (upd H D o'):=fun p u q i=> by
    have ne:p≠D:=fun z=> by subst z;rw [e] at q;cases q;exact m.imm i
    rw [upd_ne ne];exact q
  refine ⟨k,S.len,fun i w z=> ?_,fun i c z=> ?_,S.uni,fun a u z=> ?_,fun p u z y t=> ?_,S.ext,fun p u z=> ?_,S.tabs.upd fun u z=> (by rw [e] at z;cases z;exact m)⟩
  · obtain ⟨v,x,y⟩:=S.val i w z;exact ⟨v,x,Rep.mono k w v y⟩
  · obtain ⟨p,x,y,a,b⟩:=S.own i c z
    have ne:p≠D:=fun q=> no ⟨i,c,z,q▸x⟩
    exact ⟨p,x,y.mono k (upd_ne ne),a,b⟩
  · have ne:a≠D:=fun q=> by rw [q,n] at z;cases z
    exact (S.hp a u z).mono k (upd_ne ne)
  · have ne:p≠D:=fun q=> by rw [q,n0] at z;cases z
    rw [upd_ne ne];exact S.fr p u z y t
  · by_cases q:p=D
    · subst q;exact ⟨_,upd_same⟩
    · obtain ⟨u',y⟩:=S.tr p u z;exact ⟨u',by rw [upd_ne q];exact y⟩
end
def lcLoop (vs:List Nat) (g:E7) (tt:E4) (te:B5) (Q:List W→A0→AH→Prop):List W→List W→A0→AH→Prop
  | [],acc=> fun env h=> Q acc env h
  | w::ws,acc=> fun env h=> g w (P6 env vs) h fun e1 h1=> tt e1 h1 fun b e2 h2=> if b=true then te e2 h2 fun y e3 h3=> acc.length < sizeLine∧lcLoop vs g tt te Q ws (acc++[y]) (mend env e3 vs) h3 else lcLoop vs g tt te Q ws acc (mend env e2 vs) h2
def e9 (vs:List Nat) (ti:O7) (g:E7) (tt:E4) (te:B5):AT:=fun env h Q=> ti env h fun ws e1 h1=> lcLoop vs g tt te (fun acc e h=> Q (.own (.seq acc)) e h) ws [] e1 h1
theorem lcLoop.mono {vs:List Nat} {g:E7} {tt:E4} {te:B5} (mg:c4 g) (mt:A2 tt) (me:A2 te) {Q Q':List W→A0→AH→Prop} (k:∀a e h,Q a e h→Q' a e h):∀(ws acc:List W) env h,lcLoop vs g tt te Q ws acc env h→lcLoop vs g tt te Q' ws acc env h
  | [],acc,env,h,q=> k _ _ _ q
  | w::ws,acc,env,h,q=> mg _ _ _ _ _ (fun e1 h1 z=> mt _ _ _ _ (fun b e2 h2 z=> by
    cases b with
    | true=> rw [if_pos rfl] at z ⊢;exact me _ _ _ _ (fun y e3 h3 z=> ⟨z.1,lcLoop.mono mg mt me k ws _ _ _ z.2⟩) z
    | false=> rw [if_neg Bool.false_ne_true] at z ⊢;exact lcLoop.mono mg mt me k ws _ _ _ z) z) q
structure APs (X:Cx) (G:Gx) (ifs:List Expr) (t:E4):Prop where
  mono:A2 t
  pts:PTs X ifs (cT G t)
def A3C:E4:=fun env h Q=> Q true env h
theorem A7B {X:Cx} {G:Gx}:APs X G [] A3C:=⟨fun env h Q Q' k q=> k _ _ _ q,⟨fun pins s σ H Q I ⟨env,h,S,q⟩=> pts_nil.run pins s σ H Q I (q H S .refl)⟩⟩
theorem B1o {X:Cx} {G:Gx} {c:Expr} {t:E4} (h:AP X G c t):APs X G [c] t:=⟨h.mono,pts_one h.pt⟩
section
variable {X:Cx} {G:Gx} {elt tg iter:Expr} {ifs:List Expr} {scope:Scope} {own:List (Str×Nat)} {pos:Pos} {ti:O7} {g:E7} {tt:E4} {te:B5} {sl:List Nat}
theorem A7X {σ:L2.St} {H:Hp} {Q:VK} (hi:AI X G tg iter ti) (hsl:∀i∈sl,i∈own.map (·.2)) (mg:c4 g) (mt:A2 tt) (me:A2 te) (q:cE G (e9 (own.map (·.2)) ti g tt te) σ H Q):
    tLc (cI G ti) (cG G sl g) (cT G tt) (cV G te) (own.map (·.2)) σ H Q:=by
  obtain ⟨env,h,S,q⟩:=q
  refine ⟨env,h,S,hi.mono env h _ _ (fun ws env1 h1 z J H1 S1 x1 gv=> ?_) q⟩
  intro D nD
  have hD:H D=none:=x1.fresh nD
  obtain ⟨hd1,hd0,hdo⟩:=S1.noAt nD
  have nw0:New H1 (upd H1 D (.lst [])):=New.upd nD
  refine ⟨fun i m H'=> ws.length≤i+m∧Keeps H1 H'∧∃acc vacc e k,H' D=some (.lst vacc)∧RepL G.K H' acc vacc∧BS G e k σ H'∧Xt env h σ H e k H'∧k D=none∧¬OwnAt e σ D∧
    lcLoop (own.map (·.2)) g tt te (fun acc e h'=> ∀v H',BS G e h' σ H'→Xt env h σ H e h' H'→RvRep G e h' σ H' (.own (.seq acc)) v→J9 H (.own (.seq acc)) v→Q v H') (ws.drop i) acc e k,
    ⟨ws.length,by omega,nw0.keeps,[],[],env1,h1,upd_same,.nil,nw0.bs S1,x1.trans nw0.xt,hd1,hdo,by simpa using z⟩,?_⟩
  rintro i m H2 ⟨hm,k2,acc,vacc,e2,g2,d2,r2,S2,x2,n2,no2,z2⟩
  have gi:=gv H2 k2 i
  cases e:ws[i]? with
  | none=>
    have hl:=List.getElem?_eq_none_iff.mp e
    rw [List.drop_eq_nil_of_le hl] at z2
    exact .inl ⟨gi.1 hl,z2 _ H2 S2 x2 ⟨D,rfl,⟨vacc,d2,r2⟩,n2,hd0,no2⟩ fun p ep=> by cases ep;exact hD⟩
  | some w=>
    obtain ⟨hl,ew⟩:=List.getElem?_eq_some_iff.mp e
    have ed:ws.drop i=w::ws.drop (i+1):=by rw [List.drop_eq_getElem_cons hl,ew]
    rw [ed] at z2
    simp only [lcLoop] at z2
    obtain ⟨go,yl⟩:=gi.2 w e
    refine .inr ⟨go,fun H'=> Keeps H1 H'∧∃acc vacc e k,H' D=some (.lst vacc)∧RepL G.K H' acc vacc∧BS G e k σ H'∧Xt env h σ H e k H'∧k D=none∧¬OwnAt e σ D∧
      lcLoop (own.map (·.2)) g tt te (fun acc e h'=> ∀v H',BS G e h' σ H'→Xt env h σ H e h' H'→RvRep G e h' σ H' (.own (.seq acc)) v→J9 H (.own (.seq acc)) v→Q v H') (ws.drop (i+1)) acc e k,fun H' n=> ⟨m - 1,by omega,by omega,n.1,n.2⟩,fun x H3 y=> ?_⟩
    obtain ⟨nw,rx⟩:=yl x H3 y
    have S3:=nw.bs S2
    refine ⟨w,P6 e2 (own.map (·.2)),g2,rx,S3.wipe,mg _ _ _ _ _ (fun e4 g4 z4 σ4 H4 S4 x4=> ?_) z2⟩
    refine ⟨B03 x4.bt hsl,e4,g4,S4,mt _ _ _ _ (fun b e5 g5 z5 H5 S5 x5=> ?_) z4⟩
    have fin:∀{e6:A0} {g6:AH} {H6:Hp},BS G e6 g6 σ4 H6→Xt e4 g4 σ4 H4 e6 g6 H6→H6 D=some (.lst vacc)∧Keeps H2 H6∧BS G (mend e2 e6 (own.map (·.2))) g6 σ H6∧g6 D=none∧¬OwnAt (mend e2 e6 (own.map (·.2))) σ D∧
        ∀ys,Xt env h σ H (mend e2 e6 (own.map (·.2))) g6 (upd H6 D (.lst ys)):=fun {e6 g6 H6} S6 x6=> by
      have xx:=x4.trans x6.xg
      have noW:¬OwnAt (P6 e2 (own.map (·.2))) (wipe σ (own.map (·.2))) D:=fun q=> no2 q.wiped
      have f6:∀p o,H2 p=some o→g2 p=none→¬OwnAt e2 σ p→NT o→H6 p=some o:=fun p o e n q t=> xx.fr p o (nw p o e) n (fun q'=> q q'.wiped) t
      have kk:Keeps H2 H6:=fun p o e i=> f6 p o e (S2.imm e i).1 (S2.imm e i).2 i.nt
      have Sm:=BS.mend (sl:=sl++[]) S2 S6 kk xx.bt fun i hi=> hsl i (by simpa using hi)
      have g6D:g6 D=none:=by
        cases q:g6 D with
        | none=> rfl
        | some u=> have y:=xx.hn D u q n2;rw [nw D _ d2] at y;cases y
      have sameOut:∀{j:Nat},j∉own.map (·.2)→σ4[j]? =σ[j]? :=fun {j} hj=> (x4.bt.2 j fun q=> hj (hsl j q)).trans (f9 hj)
      have oM:∀p,OwnAt (mend e2 e6 (own.map (·.2))) σ p→OwnAt e2 σ p:=fun p ⟨j,c,a,b⟩=> by
        by_cases hj:j∈own.map (·.2)
        · obtain ⟨w',e0,_⟩:=t5 hj a;cases e0
        · rw [s8 hj] at a
          exact (xx.ow p ⟨j,c,a,(sameOut hj).trans b⟩).wiped
      refine ⟨f6 D _ d2 n2 no2 (Mu.nt (o:= .lst vacc) trivial),kk,Sm,g6D,fun q=> no2 (oM D q),fun ys=> ⟨fun p o e n q t=> ?_,fun p o e n=> ?_,fun p o e=> ?_,fun j c e=> ?_⟩⟩
      · have np:p≠D:=fun z=> by rw [z,hD] at e;cases e
        rw [upd_ne np]
        refine f6 p o (x2.fr p o e n q t) ?_ (fun y=> q (x2.own y)) t
        cases y:g2 p with
        | none=> rfl
        | some u=> rw [x2.hn p u y n] at e;cases e
      · cases y:g2 p with
        | some u=> exact x2.hn p u y n
        | none=>
          have y3:=xx.hn p o e y
          cases y4:H p with
          | none=> rfl
          | some u=>
            obtain ⟨u',y5⟩:=x2.th p u y4
            rw [nw p u' y5] at y3;cases y3
      · by_cases hp:p=D
        · subst hp;exact ⟨_,upd_same⟩
        · obtain ⟨u,y⟩:=x2.th p o e
          obtain ⟨u',y'⟩:=xx.th p u (nw p u y)
          exact ⟨u',by rw [upd_ne hp];exact y'⟩
      · by_cases hj:j∈own.map (·.2)
        · obtain ⟨w',e0,_⟩:=t5 hj e;cases e0
        · rw [s8 hj] at e
          obtain ⟨c1,y⟩:=xx.so j _ e
          obtain ⟨y1,_⟩:=p0 y
          exact x2.sl j c1 y1
    cases b with
    | true=>
      rw [if_pos rfl] at z5
      refine iteT ⟨e5,g5,S5,me _ _ _ _ (fun y e6 g6 ⟨hz,z6⟩ v H6 S6 x6 r6=> ?_) z5⟩
      obtain ⟨d6,k6,Sm,n6,no6,xm⟩:=fin S6 (x5.trans x6)
      obtain ⟨k7,S7⟩:=Sm.unseen (o':= .lst (vacc++[v])) d6 trivial n6 hd0 no6
      exact ⟨vacc,d6,by rw [←r2.length];exact hz,(k2.trans k6).trans k7,acc++[y],vacc++[v],_,g6,upd_same,(RepL.mono (k6.trans k7) _ _ r2).append (.cons (Rep.mono k7 _ _ r6) .nil),S7,xm _,n6,no6,z6⟩
    | false=>
      rw [if_neg Bool.false_ne_true] at z5
      refine iteF ?_
      obtain ⟨d6,k6,Sm,n6,no6,xm⟩:=fin S5 x5
      have eu:upd H5 D (.lst vacc)=H5:=by
        funext p
        by_cases hp:p=D
        · subst hp;rw [upd_same,d6]
        · rw [upd_ne hp]
      have xm':=xm vacc
      rw [eu] at xm'
      exact ⟨k2.trans k6,acc,vacc,_,g5,d6,RepL.mono k6 _ _ r2,Sm,xm',n6,no6,z5⟩
theorem B3q (hc:X.calm=true) (hN:X.N.Nodup) (hi:AI X G tg iter ti) (ok:BlkOk X.N X.env.scope scope own) (hsl:∀i∈sl,i∈own.map (·.2))
    (hg:∀(s:Shared) (H:Hp) (C:Addr) (cl:List (Str×Addr)) (fp:List Addr),AG (X.blk s H scope (compEnvC scope cl C X.env) fp) G tg sl g) (ht:∀(s:Shared) (H:Hp) (C:Addr) (cl:List (Str×Addr)) (fp:List Addr),APs (X.blk s H scope (compEnvC scope cl C X.env) fp) G ifs tt)
    (he:∀(s:Shared) (H:Hp) (C:Addr) (cl:List (Str×Addr)) (fp:List Addr),AV (X.blk s H scope (compEnvC scope cl C X.env) fp) G elt te) (mg:c4 g) (mt:A2 tt) (me:A2 te) (hs:∀x,foldedSetIterable iter X.env x=pure x:=by intro _;rfl):
    AE X G (.ListComp elt [⟨tg,iter,ifs,0⟩] scope pos) (e9 (own.map (·.2)) ti g tt te):=by
  exact ⟨fun env h Q Q' k q=> hi.mono env h _ _ (fun ws e1 h1 z=> lcLoop.mono mg mt me (fun a e h q=> k _ _ _ q) ws [] e1 h1 z) q,PE.imp (pe_lc hc hN hi.pi ok (fun s H C cl fp=> (hg s H C cl fp).pg) (fun s H C cl fp=> (ht s H C cl fp).pts) (fun s H C cl fp=> (he s H C cl fp).pe) hs) fun σ H Q q=> A7X hi hsl mg mt me q⟩
end
end Ab
namespace Ab
open PySem PySem.Spec PyProof.Rows L2
def C9 (h:AH) (a:Addr) (o:AO):AH:=fun b=> if b=a then some o else h b
theorem Q8 {h:AH} {a:Addr} {o:AO}:C9 h a o a=some o:=by unfold C9;rw [if_pos rfl]
theorem L8 {h:AH} {a b:Addr} {o:AO} (n:b≠a):C9 h a o b=h b:=by unfold C9;rw [if_neg n]
def K2 (env:A0) (h:AH):RV→Option Cont
  | .slot i=> match env[i]? with
    | some (some (.own c))=> some c
    | _=> none
  | .val (.ref a)=> match h a with
    | some (.cont c)=> some c
    | _=> none
  | _=> none
def W3 (env:A0) (r:RV) (c:Cont):A0:=match r with
  | .slot i=> env.set i (some (.own c))
  | _=> env
def W4 (h:AH) (r:RV) (c:Cont):AH:=match r with
  | .val (.ref a)=> C9 h a (.cont c)
  | _=> h
section
variable {G:Gx} {env:A0} {h:AH} {σ:L2.St} {H:Hp}
theorem A1E (S:BS G env h σ H) {r:RV} {v:V} {c:Cont} (rr:RvRep G env h σ H r v) (e:K2 env h r=some c):∃p,v= .ref p∧CRep G.K H p c∧
    ∀o' c',(Keeps H (upd H p o')→CRep G.K (upd H p o') p c')→BS G (W3 env r c') (W4 h r c') σ (upd H p o')∧Xt env h σ H (W3 env r c') (W4 h r c') (upd H p o'):=by
  have com:∀(p:Addr) (o':HO),(∃u,H p=some u∧Mu u)→Keeps H (upd H p o')∧(∀q o,H q=some o→∃u,upd H p o' q=some u):=fun p o' ⟨u,eu,mu⟩=> by
    refine ⟨fun q o eq i=> ?_,fun q o eq=> ?_⟩
    · have ne:q≠p:=fun z=> by subst z;rw [eu] at eq;cases eq;exact mu.imm i
      rw [upd_ne ne];exact eq
    · by_cases z:q=p
      · subst z;exact ⟨_,upd_same⟩
      · exact ⟨o,by rw [upd_ne z];exact eq⟩
  cases r with
  | own c0=> cases e
  | slot i=>
    have e:(match env[i]? with
      | some (some (.own c))=> some c
      | _=> none)=some c:=e
    split at e
    · rename_i c0 hs
      cases e
      obtain ⟨p,es,cr,n,n0⟩:=S.own i c hs
      have es':σ[i]? =some (some v):=rr
      rw [es] at es';cases es'
      refine ⟨p,rfl,cr,fun o' c' hc=> ?_⟩
      obtain ⟨kp,th⟩:=com p o' cr.there
      have hc:=hc kp
      have at_:∀(j:Nat) (sv:SV),(env.set i (some (SV.own c')))[j]? =some (some sv)→(j=i∧sv= .own c')∨(j≠i∧env[j]? =some (some sv)):=fun j sv z=> by
        rw [A01 hs] at z
        by_cases hj:j=i
        · rw [if_pos hj] at z;cases z;exact .inl ⟨hj,rfl⟩
        · rw [if_neg hj] at z;exact .inr ⟨hj,z⟩
      show BS G (env.set i (some (.own c'))) h σ _∧Xt env h σ H (env.set i (some (.own c'))) h _
      refine ⟨⟨by rw [List.length_set];exact S.len,fun j w z=> ?_,fun j d z=> ?_,fun j k d d' q z1 z2 f1 f2=> ?_,fun a o z=> ?_,fun q o z y t=> ?_,S.ext,fun q o z=> ?_,S.tabs.upd fun o z=> cr.mu_at z⟩,fun q o z y w t=> ?_,fun q o z y=> (by rw [y] at z;cases z),th,fun j d z=> ?_⟩
      · rcases at_ j _ z with ⟨_,z⟩ | ⟨_,z⟩
        · cases z
        · obtain ⟨u,a,b⟩:=S.val j w z;exact ⟨u,a,Rep.mono kp w u b⟩
      · rcases at_ j _ z with ⟨hj,z⟩ | ⟨hj,z⟩
        · cases z;exact ⟨p,hj▸es,hc,n,n0⟩
        · obtain ⟨q,a,b,x,y⟩:=S.own j d z
          have nq:q≠p:=fun z2=> hj (S.uni j i d c p z hs (z2▸a) es)
          exact ⟨q,a,b.mono kp (upd_ne nq),x,y⟩
      · rcases at_ j _ z1 with ⟨hj,y1⟩ | ⟨hj,y1⟩
        · rcases at_ k _ z2 with ⟨hk,y2⟩ | ⟨hk,y2⟩
          · rw [hj,hk]
          · rw [hj] at f1 ⊢;exact S.uni i k c d' q hs y2 f1 f2
        · rcases at_ k _ z2 with ⟨hk,y2⟩ | ⟨hk,y2⟩
          · rw [hk] at f2 ⊢;exact S.uni j i d c q y1 hs f1 f2
          · exact S.uni j k d d' q y1 y2 f1 f2
      · have na:a≠p:=fun y=> by rw [y,n] at z;cases z
        exact (S.hp a o z).mono kp (upd_ne na)
      · have nq:q≠p:=fun x=> by rw [x,n0] at z;cases z
        rw [upd_ne nq];exact S.fr q o z y t
      · obtain ⟨u,y⟩:=S.tr q o z;exact th q u y
      · have nq:q≠p:=fun x=> w ⟨i,c,hs,x▸es⟩
        rw [upd_ne nq];exact z
      · rcases at_ j _ z with ⟨hj,z⟩ | ⟨hj,z⟩
        · exact ⟨c,hj▸hs⟩
        · exact ⟨d,z⟩
    · cases e
  | val w0=>
    cases w0 with
    | ref a=>
      have e:(match h a with
        | some (.cont c)=> some c
        | _=> none)=some c:=e
      split at e
      · rename_i c0 ha
        cases e
        have ev:v= .ref a:=Rep.of_ref (K:=G.K) (H:=H) rr
        have cr:CRep G.K H a c:=S.hp a _ ha
        refine ⟨a,ev,cr,fun o' c' hc=> ?_⟩
        obtain ⟨kp,th⟩:=com a o' cr.there
        have hc:=hc kp
        show BS G env (C9 h a (.cont c')) σ _∧Xt env h σ H env (C9 h a (.cont c')) _
        have neo:∀{j:Nat} {d:Cont} {q:Addr},env[j]? =some (some (SV.own d))→σ[j]? =some (some (V.ref q))→q≠a:=fun z y x=> by
          obtain ⟨q',a',_,n,_⟩:=S.own _ _ z
          rw [y] at a';cases a'
          rw [x,ha] at n;cases n
        refine ⟨⟨S.len,fun j w z=> ?_,fun j d z=> ?_,S.uni,fun b o z=> ?_,fun q o z y t=> ?_,fun b o z y=> ?_,fun q o z=> ?_,S.tabs.upd fun o z=> cr.mu_at z⟩,fun q o z y w t=> ?_,fun q o z y=> ?_,th,fun j d z=> ⟨d,z⟩⟩
        · obtain ⟨u,x,y⟩:=S.val j w z;exact ⟨u,x,Rep.mono kp w u y⟩
        · obtain ⟨q,x,y,n,n0⟩:=S.own j d z
          have nq:=neo z x
          exact ⟨q,x,y.mono kp (upd_ne nq),by rw [L8 nq];exact n,n0⟩
        · by_cases hb:b=a
          · subst hb;rw [Q8] at z;cases z;exact hc
          · rw [L8 hb] at z;exact (S.hp b o z).mono kp (upd_ne hb)
        · have nq:q≠a:=fun x=> by
            subst x
            have:=S.ext q _ ha y
            rw [this] at z;cases z
          rw [upd_ne nq];exact S.fr q o z y t
        · by_cases hb:b=a
          · subst hb;exact S.ext b _ ha y
          · rw [L8 hb] at z;exact S.ext b o z y
        · obtain ⟨u,y⟩:=S.tr q o z;exact th q u y
        · have nq:q≠a:=fun x=> by rw [x,ha] at y;cases y
          rw [upd_ne nq];exact z
        · have nq:q≠a:=fun x=> by rw [x,ha] at y;cases y
          rw [L8 nq,y] at z;cases z
      · cases e
    | _=> cases e
end
abbrev O6:=List W→List W→(List W→W→Prop)→Prop
structure LmOk (K:PySem.W.Frag) (r:V→List V→Hp→VK→Prop) (f:O6):Prop where
  mono:∀xs ws Q Q',(∀a b,Q a b→Q' a b)→f xs ws Q→f xs ws Q'
  ok:∀H p xs vs ws us Qf Q,H p=some (.lst vs)→RepL K H xs vs→RepL K H ws us→f xs ws Qf→(∀xs' vs' w v,Qf xs' w→RepL K H xs' vs'→Rep K H w v→Q v (upd H p (.lst vs')))→r (.ref p) us H Q
def A8c:Option Cont→Prop
  | some (.seq _)=> True
  | _=> False
def aLm (f:O6) (to:AT) (t:B7):AT:=fun env h Q=> to env h fun ro env1 h1=> A8c (K2 env1 h1 ro)∧t env1 h1 fun ws env2 h2=> match K2 env2 h2 ro with
  | some (.seq xs)=> f xs ws fun xs' w=> Q (.val w) (W3 env2 ro (.seq xs')) (W4 h2 ro (.seq xs'))
  | _=> False
theorem aLm.mono {K:PySem.W.Frag} {r:V→List V→Hp→VK→Prop} {f:O6} {to:AT} {t:B7} (lm:LmOk K r f) (a:A2 to) (b:A2 t):A2 (aLm f to t):=fun env h Q Q' k q=> a env h _ _ (fun ro e g z=> ⟨z.1,b e g _ _ (fun ws e2 g2 z=> by
  split at z
  · exact lm.mono _ _ _ _ (fun _ _ q=> k _ _ _ q) z
  · exact z) z.2⟩) q
section
variable {X:Cx} {G:Gx} {o e:Expr} {es:List Expr} {to:AT} {t:B7} {name:Str} {apos cpos:Pos} {id:String} {r:V→List V→Hp→VK→Prop} {f:O6}
theorem B2F {σ:L2.St} {H:Hp} {Q:VK} (gk:G.K=X.K) (lm:LmOk G.K r f) (mo:A2 to) (mt:A2 t) (q:cE G (aLm f to t) σ H Q):tBM X.K "list" r (cE G to) (cA G t) σ H Q:=by
  obtain ⟨env,h,S,q⟩:=q
  refine ⟨env,h,S,mo env h _ _ (fun ro env1 h1 ⟨hs,z⟩ x H1 S1 x1 r1 f1=> ?_) q⟩
  have ty:tyV X.K "list" x H1:=by
    cases e:K2 env1 h1 ro with
    | none=> rw [e] at hs;exact hs.elim
    | some c=>
      cases c with
      | map _=> rw [e] at hs;exact hs.elim
      | seq xs=>
        obtain ⟨p,rfl,⟨vs,l,_⟩,_⟩:=A1E S1 r1 e
        exact .inl ⟨rfl,_,.inl (.inl l)⟩
  refine ⟨ty,env1,h1,S1,mt env1 h1 _ _ (fun ws env2 h2 z vs H2 S2 x2 r2=> ?_) z⟩
  split at z
  · rename_i xs e
    obtain ⟨p,rfl,⟨us,l,rl⟩,put⟩:=A1E S2 (r1.xt S1 x2) e
    refine lm.ok H2 p xs us ws vs _ Q l rl r2 z fun xs' vs' w v q0 ra rw0=> ?_
    have kp:Keeps H2 (upd H2 p (.lst vs')):=fun q o e i=> by
      have ne:q≠p:=fun z=> by subst z;rw [l] at e;cases e;exact i
      rw [upd_ne ne];exact e
    obtain ⟨S3,x3⟩:=put (.lst vs') (.seq xs') fun k=> ⟨vs',upd_same,RepL.mono k _ _ ra⟩
    exact q0 v _ S3 (x1.trans (x2.trans x3)) (show Rep G.K _ w v from Rep.mono kp w v rw0) trivial
  · exact z.elim
theorem A8W (gk:G.K=X.K) (lm:LmOk G.K r f) (pa:PlainAttrs "list") (slot:Slot "list" name id) (hty:typeOf (.builtin id)=pure (.type "method_descriptor")) (hm:MtR X id r) (ho:AE X G o to) (ha:AA X G (e::es) t)
    (hbase:attributeBase o name X.env (eval o X.env)=eval o X.env:=by rfl)
    (hfew:((backTo cpos (starEach (e::es) X.env)).all (fun x=> !x.1) && (backToKw cpos (keywordEach [] X.env)).all (fun x=> x.1.isSome)
      && decide ((e::es).length+([]:List Keyword).length+(if ([]:List Keyword).isEmpty then 0 else 1) < 30))=true:=by rfl)
    (hline:(apos.endLine==cpos.line)=true:=by rfl) (hs:starEach (e::es) X.env=(false,eval e X.env)::starEach es X.env:=by rfl) (hplain:(backTo cpos (starEach es X.env)).any (·.1)=false:=by rfl):
    AE X G (.Call (.Attribute o name apos) (e::es) [] cpos) (aLm f to t):=
  ⟨aLm.mono lm ho.mono ha.mono,PE.imp (pe_bm pa slot hty hm ho.pe ha.pa hbase hfew hline hs hplain) fun _ _ _ q=> B2F gk lm ho.mono ha.mono q⟩
end
section
variable {K:PySem.W.Frag}
def Z7:O6:=fun xs ws Q=> match ws with
  | [y]=> xs.length < sizeLine∧Q (xs++[y]) .non
  | _=> False
theorem A6L:LmOk K rAppend Z7:=
  ⟨fun xs ws Q Q' k q=> by
    unfold Z7 at q ⊢
    split at q
    · exact ⟨q.1,k _ _ q.2⟩
    · exact q,fun H p xs vs ws us Qf Q l rl rw0 q k=> by
    unfold Z7 at q
    split at q
    · obtain ⟨v,t,rfl,rv,rt⟩:=rw0.of_cons
      rw [rt.of_nil]
      exact ⟨p,vs,v,rfl,rfl,l,by rw [←rl.length];exact q.1,k _ _ _ _ q.2 (rl.append (.cons rv .nil)) .non⟩
    · exact q.elim⟩
end
def i5 (to ti:AT):E7:=fun w env h Q=> to env h fun ro env1 h1=> ti env1 h1 fun ri env2 h2=> match view env2 h2 ri with
  | .wv (.int k)=> match K2 env2 h2 ro with
    | some (.seq xs)=> ∃j,ixN xs.length k=some j∧Q (W3 env2 ro (.seq (xs.set j w))) (W4 h2 ro (.seq (xs.set j w)))
    | _=> False
  | _=> False
section
variable {X:Cx} {G:Gx} {o i:Expr} {to ti:AT} {pos:Pos}
theorem v4 (ho:AE X G o to) (hi:AE X G i ti)
    (ha:PG X (.Subscript o i pos) (gSub (cE G to) (cE G ti) rSetL)):AG X G (.Subscript o i pos) [] (i5 to ti):=by
  refine ⟨fun w env h Q Q' k q=> ho.mono env h _ _ (fun ro e g z=> hi.mono e g _ _ (fun ri e g z=> ?_) z) q,PG.imp ha fun v σ H Q ⟨w,env,h,rv,S,q⟩=> ?_⟩
  · split at z
    · split at z
      · obtain ⟨j,e,z⟩:=z;exact ⟨j,e,k _ _ z⟩
      · exact z
    · exact z
  · refine ⟨env,h,S,ho.mono env h _ _ (fun ro env1 h1 z x H1 S1 x1 r1 f1=> ?_) q⟩
    refine ⟨env1,h1,S1,hi.mono env1 h1 _ _ (fun ri env2 h2 z y H2 S2 x2 r2 f2=> ?_) z⟩
    have ry:=r2.vr S2
    split at z
    · rename_i k ek
      rw [ek] at ry
      split at z
      · rename_i xs e
        obtain ⟨j,ej,z⟩:=z
        obtain ⟨p,rfl,⟨us,l,rl⟩,put⟩:=A1E S2 (r1.xt S1 x2) e
        have rv2:Rep G.K H2 w v:=Rep.mono ((x1.keeps S).trans (x2.keeps S1)) w v rv
        refine ⟨p,us,k,j,rfl,ry.int,l,by rw [←rl.length];exact ej,?_⟩
        obtain ⟨S3,x3⟩:=put (.lst (us.set j v)) (.seq (xs.set j w)) fun kk=> ⟨_,upd_same,RepL.mono kk _ _ (rl.set j rv2)⟩
        exact z σ _ S3 (x1.trans (x2.trans x3)).xg
      · exact z.elim
    · exact z.elim
end
section
variable {X:Cx} {G:Gx} {tg e:Expr} {tv:B5} {g:E7} {sl:List Nat} {pos:Pos} {st:Stmt} {t:B4}
def G3 (tv:B5) (g:E7):B4:=fun D env h=> tv env h fun w env1 h1=> g w env1 h1 D.nx
theorem I0 (he:AV X G e tv) (hg:AG X G tg sl g) (hs:swapsWithSole [tg] e pos.line X.env=pure false:=by rfl) (hw:swappedStores [tg] e X.env=pure none:=by rfl) (h1:(assignEach [tg] X.env).map (·.2)=[assign tg X.env]:=by rfl):AS X G (.Assign [tg] e pos) (G3 tv g):=by
  refine ⟨fun D D' env h l q=> he.mono env h _ _ (fun w e g z=> hg.mono _ _ _ _ _ l.nx z) q,PS.imp (ps_asg he.pe hg.pg hs hw h1) fun D σ H ⟨env,h,Da,S,q,l⟩=> ?_⟩
  refine ⟨env,h,S,he.mono env h _ _ (fun w env1 h1 z v H1 S1 x1 r1=> ?_) q⟩
  exact ⟨w,env1,h1,r1,S1,hg.mono _ _ _ _ _ (fun env2 h2 z σ2 H2 S2 x2=> l.nx _ _ _ _ S2 ((x1.keeps S).trans (x2.keeps S1)) z) z⟩
def A0P (i:Nat) (t:B4):B4:=fun D env h=> match env[i]? with
  | some (some (.own c))=> ∀p,h p=none→t D (env.set i (some (.val (.ref p)))) (C9 h p (.cont c))
  | _=> False
theorem B12 (i:Nat) (a:AS X G st t):AS X G st (A0P i t):=by
  refine ⟨fun D D' env h l q=> ?_,PS.imp a.ps fun D σ H ⟨env,h,Da,S,q,l⟩=> ?_⟩
  · unfold A0P at q ⊢
    split at q
    · exact fun p n=> a.mono _ _ _ _ l (q p n)
    · exact q
  · unfold A0P at q
    split at q
    · rename_i c e
      obtain ⟨p,es,cr,n,n0⟩:=S.own i c e
      refine ⟨_,_,Da,?_,q p n,l⟩
      have at_:∀(j:Nat) (sv:SV),(env.set i (some (SV.val (.ref p))))[j]? =some (some sv)→(j=i∧sv= .val (.ref p))∨(j≠i∧env[j]? =some (some sv)):=fun j sv z=> by
        rw [A01 e] at z
        by_cases hj:j=i
        · rw [if_pos hj] at z;cases z;exact .inl ⟨hj,rfl⟩
        · rw [if_neg hj] at z;exact .inr ⟨hj,z⟩
      refine ⟨by rw [List.length_set];exact S.len,fun j w z=> ?_,fun j d z=> ?_,fun j k d d' q z1 z2 f1 f2=> ?_,fun a o z=> ?_,S.fr,fun a o z y=> ?_,S.tr,S.tabs⟩
      · rcases at_ j _ z with ⟨hj,z⟩ | ⟨_,z⟩
        · cases z;exact ⟨_,hj▸es,.ref⟩
        · exact S.val j w z
      · rcases at_ j _ z with ⟨_,z⟩ | ⟨hj,z⟩
        · cases z
        · obtain ⟨q,a,b,x,y⟩:=S.own j d z
          have nq:q≠p:=fun z2=> hj (S.uni j i d c p z e (z2▸a) es)
          exact ⟨q,a,b,by rw [L8 nq];exact x,y⟩
      · rcases at_ j _ z1 with ⟨_,y⟩ | ⟨_,y1⟩
        · cases y
        · rcases at_ k _ z2 with ⟨_,y⟩ | ⟨_,y2⟩
          · cases y
          · exact S.uni j k d d' q y1 y2 f1 f2
      · by_cases ha:a=p
        · subst ha;rw [Q8] at z;cases z;exact cr
        · rw [L8 ha] at z;exact S.hp a o z
      · by_cases ha:a=p
        · subst ha;exact n0
        · rw [L8 ha] at z;exact S.ext a o z y
    · exact q.elim
end
def G2 (n:Nat) (ws:List W):A0:=ws.map (fun w=> some (.val w))++List.replicate (n - ws.length) none
def AH.Le (h h':AH):Prop:=∀a o,h a=some o→h' a=some o
def C1 (Qa:RR→AH→Prop):AEnds where
  nx:=fun _ h=> ∃h',AH.Le h' h∧Qa (.val .non) h'
  rt:=fun r env h=> ∃h',AH.Le h' h∧match r with
    | .val w=> Qa (.val w) h'
    | .own c=> Qa (.own c) h'
    | .slot i=> match env[i]? with
      | some (some (.val w))=> Qa (.val w) h'
      | some (some (.own c))=> Qa (.own c) h'
      | _=> False
def C7 (Ea:AExc→AH→Prop):AExc→A0→AH→Prop:=fun x _ h=> ∃h',AH.Le h' h∧Ea x h'
theorem BS.begin {K:PySem.W.Frag} {h:AH} {H:Hp} {ws:List W} {vs:List V} {N:List Str} (hp:∀a o,h a=some o→ORep K H a o) (tb:TabsK K H) (r:RepL K H ws vs) (hl:ws.length≤N.length):BS ⟨K,h,H⟩ (G2 N.length ws) h (L2.start N vs) H:=by
  have e1:(G2 N.length ws).length=N.length:=by simp [G2];omega
  have e2:(L2.start N vs).length=N.length:=by simp [L2.start,←r.length];omega
  have at_:∀(i:Nat) (sv:SV),(G2 N.length ws)[i]? =some (some sv)→∃w,sv= .val w∧ws[i]? =some w:=fun i sv e=> by
    unfold G2 at e
    by_cases hi:i < ws.length
    · rw [List.getElem?_append_left (by simpa using hi),List.getElem?_map] at e
      cases q:ws[i]? with
      | none=> rw [q] at e;cases e
      | some w=> rw [q] at e;cases e;exact ⟨w,rfl,rfl⟩
    · rw [List.getElem?_append_right (by simpa using hi),List.getElem?_replicate] at e
      split at e <;> cases e
  refine ⟨by rw [e1,e2],fun i w e=> ?_,fun i c e=> ?_,fun i j c c' p e=> ?_,hp,fun p o e _ _=> e,fun a o e n=> (by have n:h a=none:=n;rw [n] at e;cases e),fun p o e=> ⟨o,e⟩,tb⟩
  · obtain ⟨w',z,y⟩:=at_ i _ e
    cases z
    obtain ⟨v,ev,rv⟩:=r.get y
    refine ⟨v,?_,rv⟩
    have hi:i < vs.length:=(List.getElem?_eq_some_iff.mp ev).1
    unfold L2.start
    rw [List.getElem?_append_left (by simpa using hi),List.getElem?_map,ev]
    rfl
  · obtain ⟨w',z,_⟩:=at_ i _ e;cases z
  · obtain ⟨w',z,_⟩:=at_ i _ e;cases z
section
variable {P:Program} {w:World} {K:PySem.W.Frag} {mg:Str→Option Value} {base:Heap} {x qual:Str} {params:Arguments} {body:List Stmt} {scope:Scope} {f:Addr} {fd:FuncData} {N ps:List Str} {k n:Nat} {sp:C0}
abbrev bx (P:Program) (w:World) (K:PySem.W.Frag) (mg:Str→Option Value) (base:Heap) (N:List Str) (qual:Str) (scope:Scope) (f:Addr) (cdv:Value) (A:Around) (outer:List Env) (s:Shared) (H:Hp) (E:XK):Cx:=
  cxOf (L2.CX P w) P w K mg base N qual scope f cdv A outer s H E
theorem HS.le {G:Gx} {h h':AH} {H:Hp} (a:HS G h H) (l:AH.Le h' h):HS G h' H:=⟨fun p o e=> a.hp p o (l p o e),a.fr,fun p o e=> a.ext p o (l p o e),a.tr,a.tabs⟩
theorem A4I {t:(AExc→A0→AH→Prop)→B4} (dvs:List V) (kws:List (Str×V)) (F:FunD K x qual params body scope dvs kws f fd) (S:FnScope N ps scope) (hn:ps.length=n)
    (hb:∀(cdv:Value) (A:Around) (outer:List Env) (s:Shared) (H:Hp) (E:XK) (G:Gx) (E':AExc→A0→AH→Prop),Room k (A.deeper (envOfC qual scope s.heap.objs.size f cdv))→G.K=K→Takes (bx P w K mg base N qual scope f cdv A outer s H E) (cW G E')→
      ASs (bx P w K mg base N qual scope f cdv A outer s H E) G body (t E'))
    (hq:∀ws h Qa Ea,ws.length=n→sp ws h Qa Ea→t (C7 Ea) (C1 Qa) (G2 N.length ws) h):
    FnOk P w K mg base (L2.CX P w) (k+1) f fd ps (M9 K n sp):=by
  refine F.ok S (fun vs H Q E ⟨ws,h,Qa,Ea,hl,_,_,r,_⟩=> by rw [←r.length,hl,hn]) (fun cdv A outer s H vs Q E hr ⟨ws,h,Qa,Ea,hl,hp,tb,r,q,kq,ke⟩=> ?_)
  have hwN:ws.length≤N.length:=by
    have z:=congrArg List.length S.pre
    rw [List.length_take] at z
    omega
  have tk:Takes (bx P w K mg base N qual scope f cdv A outer s H E) (cW ⟨K,h,H⟩ (C7 Ea)):=Takes.imp (W:=fun cls d _ H'=> E cls d H') (takes_of rfl rfl rfl rfl) fun cls d σ H' ⟨x,env,h',SB,xr,h'',le,e⟩=>
    ke x h'' cls d H' e (HS.le (G:=⟨K,h,H⟩) ⟨SB.hp,SB.fr,SB.ext,SB.tr,SB.tabs⟩ le) xr
  refine ⟨_,(hb cdv A outer s H E ⟨K,h,H⟩ (C7 Ea) hr rfl tk).ps,G2 N.length ws,h,C1 Qa,BS.begin hp tb r hwN,hq ws h Qa Ea hl q,?_⟩
  have hs:∀{env h' σ' H'},BS ⟨K,h,H⟩ env h' σ' H'→HS ⟨K,h,H⟩ h' H':=fun SB=> ⟨SB.hp,SB.fr,SB.ext,SB.tr,SB.tabs⟩
  refine ⟨fun env h' σ' H' SB _ ⟨h'',le,e⟩=> kq (.val .non) h'' .non H' e ((hs SB).le le) (show Rep K H' .non .non from .non),fun r0 env h' σ' H' v SB _ rr ⟨h'',le,e⟩=> ?_,fun _ _ _ _ _ _ z=> z.elim,fun _ _ _ _ _ _ z=> z.elim⟩
  have own_end:∀{p:Addr} {c:Cont},v= .ref p→CRep K H' p c→h' p=none→H p=none→v8 ⟨K,h,H⟩ h'' H' (.own c) v:=fun {p c} e1 e2 e3 e4=> by
    have e5:h'' p=none:=by
      cases z:h'' p with
      | none=> rfl
      | some u=> rw [le p u z] at e3;cases e3
    exact ⟨p,e1,e2,e5,e4⟩
  cases r0 with
  | val w0=> exact kq (.val w0) h'' v H' e ((hs SB).le le) rr
  | own c=>
    obtain ⟨p,e1,cr,a,b,_⟩:=rr
    exact kq (.own c) h'' v H' e ((hs SB).le le) (own_end e1 cr a b)
  | slot i=>
    have es:σ'[i]? =some (some v):=rr
    have e:match env[i]? with
      | some (some (.val w))=> Qa (.val w) h''
      | some (some (.own c))=> Qa (.own c) h''
      | _=> False:=e
    split at e
    · rename_i w0 ei
      obtain ⟨u,e3,rv⟩:=SB.val i w0 ei
      rw [es] at e3;cases e3
      exact kq (.val w0) h'' v H' e ((hs SB).le le) rv
    · rename_i c ei
      obtain ⟨p,e3,cr,a,b⟩:=SB.own i c ei
      rw [es] at e3;cases e3
      exact kq (.own c) h'' _ H' e ((hs SB).le le) (own_end rfl cr a b)
    · exact e.elim
end
end Ab
namespace Ab
open PySem PySem.Spec PyProof.Rows L2 RZ
def A0O (ta tb:AT):AT:=fun env h Q=> ta env h fun r env1 h1=> match view env1 h1 r with
  | .wv (.bl c)=> if c=true then tb env1 h1 Q else Q (.val (.bl false)) env1 h1
  | _=> False
def A4y (ta:AT):AT:=fun env h Q=> ta env h fun r env1 h1=> match view env1 h1 r with
  | .wv (.bl c)=> Q (.val (.bl (!c))) env1 h1
  | _=> False
section
variable {X:Cx} {G:Gx} {a b:Expr} {ta tb:AT} {pos:Pos} {rest:List Expr}
theorem B06 {env env1:A0} {h h1:AH} {σ:L2.St} {H H1:Hp} (x1:Xt env h σ H env1 h1 H1) {r:RV} {v:V} (f:J9 H1 r v):J9 H r v:=by
  cases r with
  | own c=> exact fun p e=> x1.fresh (f p e)
  | _=> trivial
theorem B2S {t:AT} {env env1:A0} {h h1:AH} {σ:L2.St} {H H1:Hp} {Q:VK} (m:A2 t) (S1:BS G env1 h1 σ H1) (x1:Xt env h σ H env1 h1 H1)
    (z:t env1 h1 fun r env' h'=> ∀v H',BS G env' h' σ H'→Xt env h σ H env' h' H'→RvRep G env' h' σ H' r v→J9 H r v→Q v H'):cE G t σ H1 Q:=
  ⟨env1,h1,S1,m env1 h1 _ _ (fun r env2 h2 z2 v H2 S2 x2 r2 f2=> z2 v H2 S2 (x1.trans x2) r2 (B06 x1 f2)) z⟩
theorem A3s (ha:AE X G a ta):AE X G (.BoolOp .And [a] pos) ta:=⟨ha.mono,pe_one ha.pe⟩
theorem A2h (ha:AE X G a ta) (hb:AE X G (.BoolOp .And (b::rest) pos) tb):AE X G (.BoolOp .And (a::b::rest) pos) (A0O ta tb):=by
  refine ⟨fun env h Q Q' k q=> ha.mono env h _ _ (fun r e g z=> ?_) q,PE.imp (pe_and ha.pe hb.pe) fun σ H Q ⟨env,h,S,q⟩=> ⟨env,h,S,ha.mono env h _ _ (fun r e g z v H1 S1 x1 r1 f1=> ?_) q⟩⟩
  · split at z
    · rename_i c _
      cases c with
      | true=> exact iteT (hb.mono e g _ _ k (by simpa using z))
      | false=> exact iteF (k _ _ _ (by simpa using z))
    · exact z
  · have rv:=r1.vr S1
    split at z
    · rename_i c ec
      rw [ec] at rv
      refine ⟨c,rv.bl,?_⟩
      cases c with
      | true=> rw [if_pos rfl] at z;exact iteT (B2S hb.mono S1 x1 z)
      | false=> rw [if_neg Bool.false_ne_true] at z;exact iteF (z (.bl false) H1 S1 x1 (show Rep G.K H1 (.bl false) (.bl false) from .bl) trivial)
    · exact z.elim
theorem B2e (ha:AE X G a ta):AE X G (.UnaryOp .Not a pos) (A4y ta):=by
  refine ⟨fun env h Q Q' k q=> ha.mono env h _ _ (fun r e g z=> ?_) q,PE.imp (pe_not ha.pe) fun σ H Q ⟨env,h,S,q⟩=> ⟨env,h,S,ha.mono env h _ _ (fun r e g z v H1 S1 x1 r1 f1=> ?_) q⟩⟩
  · split at z
    · exact k _ _ _ z
    · exact z
  · have rv:=r1.vr S1
    split at z
    · rename_i c ec
      rw [ec] at rv
      exact ⟨c,rv.bl,z (.bl (!c)) H1 S1 x1 (show Rep G.K H1 (.bl (!c)) (.bl (!c)) from .bl) trivial⟩
    · exact z.elim
theorem A4P (ha:AE X G a ta) (hb:AE X G b tb):AE X G (.BinOp a .Pow b pos) (aOp2 (oII CPow fun i j=> .int (i ^ j.toNat)) ta tb):=A1I op_pow (A34 fun _ _ _=> .int) ha hb
end
structure AK (X:Cx) (G:Gx) (kws:List Keyword) (t:B7):Prop where
  mono:A2 t
  pk:PK X kws (cA G t)
theorem PK.imp {X:Cx} {e:List Keyword} {t t':TA} (h:PK X e t) (i:∀σ H Q,t' σ H Q→t σ H Q):PK X e t':=⟨fun pos pins s σ H Q I q=> h.run pos pins s σ H Q I (i σ H Q q)⟩
section
variable {X:Cx} {G:Gx} {k n:Nat} {f:Addr} {fd:FuncData} {ps ks:List Str} {sp:C0} {x:Str} {p pos kpos:Pos} {e:Expr} {es:List Expr} {kws:List Keyword} {nm:Option Str} {t tk:B7} {tv:B5} {E:AExc→A0→AH→Prop}
theorem A7v:AK X G [] aNil:=⟨aNil.mono,PK.imp pk_nil fun σ H Q ⟨env,h,S,q⟩=> q [] H S .refl .nil⟩
theorem A60 (a:AV X G e tv) (b:AK X G kws tk):AK X G (⟨nm,e,kpos⟩::kws) (aCons tv tk):=by
  refine ⟨aCons.mono a.mono b.mono,PK.imp (pk_cons a.pe b.pk) fun σ H Q ⟨env,h,S,q⟩=> ?_⟩
  refine ⟨env,h,S,a.mono env h _ _ (fun w env1 h1 z v H1 S1 x1 r1=> ?_) q⟩
  refine ⟨env1,h1,S1,b.mono env1 h1 _ _ (fun ws env2 h2 z vs H2 S2 x2 r2=> ?_) z⟩
  exact z (v::vs) H2 S2 (x1.trans x2) (.cons (Rep.mono (x2.keeps S1) w v r1) r2)
structure AKB (K:PySem.W.Frag) (fd:FuncData) (ps ks:List Str) (n:Nat) (gW:List W→List W→List W) where
  g:List Value→List Value→List Value
  gV:List V→List V→List V
  kb:KBinds K fd ps ks g gV
  rep:∀(H:Hp) (ws zs:List W) (vs us:List V),(gW ws zs).length=n→RepL K H ws vs→RepL K H zs us→RepL K H (gW ws zs) (gV vs us)
theorem B2Z {CX:CXT} {sp:Sp} {g:List Value→List Value→List Value} {gV:List V→List V→List V} {pins:List (Addr×Obj)} {σ:L2.St} {H:Hp} {s:Shared} {Q:VK} {E:XK} {us ws:List Value} {vs zs:List V} (F:FnOk X.prog X.w X.K X.mg X.base CX k f fd ps sp) (hr:Room k X.A) (hb:KBinds X.K fd ps ks g gV)
    (hx:PassesAt CX X σ E) (I:Inv X pins σ H s) (r:Vals vs us) (rz:Vals zs ws) (h:sp (gV vs zs) H Q E):wpAny (model X.prog X.w) X.A (call (.ref f) us (ks.zip ws)) (EP X pins σ Q) X.xe s:=by
  have r2:=hb.rel r rz
  have hl:(g us ws).length=ps.length:=r2.length.symm.trans (F.len _ _ _ _ h)
  refine wpAny_call (codeAny_mono (F.run X.A X.stack s H ⟨us,ks.zip ws⟩ _ _ Q E hr I.env0 (hb.to s us ws I.kIn hl) r2 h) fun r s' hq=> ?_)
  cases r with
  | error e=> exact hx pins H s e s' I hq
  | ok fl=> cases fl <;> first | exact I.after hq | exact False.elim hq
def aCallK (E:AExc→A0→AH→Prop) (sp:C0) (n:Nat) (gW:List W→List W→List W) (t tk:B7):AT:=fun env h Q=> t env h fun ws env1 h1=> tk env1 h1 fun zs env2 h2=> (gW ws zs).length=n∧sp (gW ws zs) h2 (fun r h3=> match r with
  | .val w=> Q (.val w) env2 h3
  | .own c=> Q (.own c) env2 h3) fun x h3=> E x env2 h3
theorem aCallK.mono {gW:List W→List W→List W} (m:L1 sp) (a:A2 t) (b:A2 tk):A2 (aCallK E sp n gW t tk):=fun env h Q Q' k q=> a env h _ _ (fun ws e g z=> b e g _ _ (fun zs e g z=> ⟨z.1,m _ _ _ _ _ _ (fun r f y=> by
  cases r with
  | val w=> exact k _ _ _ y
  | own c=> exact k _ _ _ y) (fun x f y=> y) z.2⟩) z) q
theorem B0t {gW:List W→List W→List W} {g:List V→List V→List V} {env env2:A0} {h h2:AH} {σ:L2.St} {H H2:Hp} {ws zs:List W} {vs us:List V} {Q:VK} (S2:BS G env2 h2 σ H2) (x2:Xt env h σ H env2 h2 H2) (r:RepL G.K H2 (gW ws zs) (g vs us))
    (z:(gW ws zs).length=n∧sp (gW ws zs) h2 (fun r h3=> match r with
      | .val w=> ∀v H',BS G env2 h3 σ H'→Xt env h σ H env2 h3 H'→RvRep G env2 h3 σ H' (.val w) v→J9 H (.val w) v→Q v H'
      | .own c=> ∀v H',BS G env2 h3 σ H'→Xt env h σ H env2 h3 H'→RvRep G env2 h3 σ H' (.own c) v→J9 H (.own c) v→Q v H') fun x h3=> E x env2 h3):M9 G.K n sp (g vs us) H2 Q (WE (cW G E) σ):=by
  refine ⟨_,h2,_,_,z.1,S2.hp,S2.tabs,r,z.2,fun r h' v H' y c rr=> ?_,fun x h' cls d H' y c xr=> ?_⟩
  · obtain ⟨S3,x3⟩:=S2.after c
    cases r with
    | val w=> exact y v H' S3 (x2.trans x3) rr trivial
    | own c0=>
      obtain ⟨p,e,cr,a,b⟩:=rr
      have nw:H2 p=none:=b
      obtain ⟨_,g0,no⟩:=S2.noAt nw
      exact y v H' S3 (x2.trans x3) ⟨p,e,cr,a,g0,no⟩ fun p' e'=> by
        rw [e] at e';cases e';exact x2.fresh nw
  · obtain ⟨S3,x3⟩:=S2.after c
    exact ⟨x,env2,h',S3,xr,y⟩
theorem A70 {K K':PySem.W.Frag} {H:Hp} {ws:List W} {vs:List V} (e:K=K') (r:RepL K H ws vs):RepL K' H ws vs:=e▸r
theorem B0f {gW:List W→List W→List W} (gk:G.K=X.K) (F:FnOk X.prog X.w X.K X.mg X.base (L2.CX X.prog X.w) k f fd ps (M9 G.K n sp)) (sm:L1 sp) (hr:Room k X.A) (hg:Gl X x) (hm:X.mg x=some (.ref f)) (hk:PySem.W.keepIn X.K (.ref f)=true) (kb:AKB X.K fd ps ks n gW) (tkk:Takes X (cW G E))
    (hkw:AK X G kws tk) (hall:(backToKw pos (keywordEach kws X.env)).all (·.1.isSome)=true:=by rfl) (hks:(backToKw pos (keywordEach kws X.env)).filterMap (·.1)=ks:=by rfl) (hdb:(x==("__debug__":Str))=false:=by decide)
    (hpl:((backTo pos (starEach [] X.env)).any (·.1) || (backToKw pos (keywordEach kws X.env)).any (·.1.isNone))=false:=by rfl):
    AE X G (.Call (.Name x p) [] kws pos) (aCallK E sp n gW aNil tk):=by
  refine ⟨aCallK.mono sm aNil.mono hkw.mono,⟨fun pins s σ H Q I ⟨env,h,S,q⟩=> ?_⟩⟩
  refine wpAny_Call_Name_kw (ld_glob I hg hm ?_ hdb)
  refine PySem.W.callWith_KW0 (h₀:=X.base) I.ok.mod.kin hk hall ?_ hpl
  refine thn (hkw.pk.run pos pins s σ H (fun zs H2=> M9 G.K n sp (kb.gV [] zs) H2 Q (WE (cW G E) σ)) I ⟨env,h,S,hkw.mono env h _ _ (fun zs env2 h2 z us H2 S2 x2 r2=> ?_) q⟩) fun ws s2 ⟨zs,H2,I2,rz,q2⟩=> ⟨I2.kIn,?_⟩
  · have rr:=kb.rep H2 [] zs [] us z.1 .nil (A70 gk r2)
    exact B0t (g:=kb.gV) S2 x2 (A70 gk.symm rr) z
  · rw [hks,List.append_nil]
    exact B2Z F hr kb.kb (passAt tkk σ) I2 .nil rz q2
end
end Ab
namespace Ab
open PySem PySem.Spec PyProof.Rows L2 RZ
section
variable {X:Cx} {G:Gx} {a b c:Expr} {ta tb tc:AT} {t:E4} {pos p:Pos}
theorem A1S (h:AE X G a ta) (he:∀whole,isTrue a X.env whole=(do let v ←whole;standAt a.pos;holding [v] (truthy v)):=by intro _;rfl):AP X G a (aTst ta):=B22 h fun t k=> pt_val k he
theorem A4q (ha:AE X G a ta) (hb:AE X G b tb):AP X G (.Compare a [.Lt] [b] pos) (aTst (aOp2 (oII (fun _ _=> True) fun i j=> .bl (decide (i < j))) ta tb)):=u5 op_lt (A19 fun _ _ _=> .bl) ha hb (nomark _)
theorem A8S (ha:AE X G a ta) (hb:AE X G b tb):AP X G (.Compare a [.Gt] [b] pos) (aTst (aOp2 (oII (fun _ _=> True) fun i j=> .bl (decide (j < i))) ta tb)):=u5 op_gt (A19 fun _ _ _=> .bl) ha hb (nomark _)
theorem A8R (ha:AE X G a ta) (hb:AE X G b tb):AP X G (.Compare a [.GtE] [b] pos) (aTst (aOp2 (oII (fun _ _=> True) fun i j=> .bl (decide (j≤i))) ta tb)):=u5 op_ge (A19 fun _ _ _=> .bl) ha hb (nomark _)
theorem A21 (gk:G.K=X.K) (hu:X.A.units+64 < cLine) (ha:AE X G a ta) (hb:AE X G b tb):AP X G (.Compare a [.Eq] [b] pos) (aTst (aOp2 (C6 false) ta tb)):=u5 (A71 hu) (gk▸A4R) ha hb (nomark _)
theorem A0I (gk:G.K=X.K) (hu:X.A.units+64 < cLine) (ha:AE X G a ta) (hb:AE X G b tb):AP X G (.Compare a [.NotEq] [b] pos) (aTst (aOp2 (C6 true) ta tb)):=u5 (B3I hu) (gk▸A4R) ha hb (nomark _)
theorem B3M (ha:AE X G a ta) (hb:AE X G b tb):AE X G (.Compare a [.Is] [b] pos) (aOp2 (H9 false) ta tb):=A7p op_isN A62 ha hb (nomark _)
theorem B3J (ha:AE X G a ta) (hb:AE X G b tb):AP X G (.Compare a [.Is] [b] pos) (aTst (aOp2 (H9 false) ta tb)):=u5 op_isN A62 ha hb (nomark _)
theorem B1z (ha:AE X G a ta) (hb:AE X G b tb):AP X G (.Compare a [.IsNot] [b] pos) (aTst (aOp2 (H9 true) ta tb)):=u5 op_notN B1U ha hb (nomark _)
def v9 (ta:AT):AT:=fun env h Q=> ta env h fun r env1 h1=> match view env1 h1 r with
  | .wv (.int i)=> Q (.val (.int (-i))) env1 h1
  | _=> False
theorem A1F (ha:AE X G a ta):AE X G (.UnaryOp .USub a pos) (v9 ta):=by
  refine ⟨fun env h Q Q' k q=> ha.mono env h _ _ (fun r e g z=> ?_) q,PE.imp (pe_un un_neg ha.pe) fun σ H Q ⟨env,h,S,q⟩=> ⟨env,h,S,ha.mono env h _ _ (fun r e g z v H1 S1 x1 r1 f1=> ?_) q⟩⟩
  · split at z
    · exact k _ _ _ z
    · exact z
  · have rv:=r1.vr S1
    split at z
    · rename_i i ei
      rw [ei] at rv
      exact ⟨i,rv.int,z _ H1 S1 x1 (show Rep G.K H1 _ _ from .int) trivial⟩
    · exact z.elim
def aChn (P P':Int→Int→Bool) (ta tb tc:AT):AT:=fun env h Q=> ta env h fun ra env1 h1=> tb env1 h1 fun rb env2 h2=> match view env2 h2 ra,view env2 h2 rb with
  | .wv (.int i),.wv (.int j)=> if P i j=true then tc env2 h2 fun rc env3 h3=> (match view env3 h3 rc with
      | .wv (.int k)=> Q (.val (.bl (P' j k))) env3 h3
      | _=> False) else Q (.val (.bl false)) env2 h2
  | _,_=> False
theorem aChn.mono {P P':Int→Int→Bool} (ma:A2 ta) (mb:A2 tb) (mc:A2 tc):A2 (aChn P P' ta tb tc):=fun env h Q Q' k q=> ma env h _ _ (fun ra e g z=> mb e g _ _ (fun rb e g z=> by
  split at z
  · refine ite2 (fun y=> ?_) fun y=> k _ _ _ (by rw [if_neg y] at z;exact z)
    rw [if_pos y] at z
    refine mc _ _ _ _ (fun rc e g z=> ?_) z
    split at z
    · exact k _ _ _ z
    · exact z
  · exact z) z) q
theorem B09 {P P':Int→Int→Bool} {σ:L2.St} {H:Hp} {Q:VK} (ma:A2 ta) (mb:A2 tb) (mc:A2 tc) (q:cE G (aChn P P' ta tb tc) σ H Q):
    tChain (rI0 fun i j=> .bl (P i j)) (rI0 fun i j=> .bl (P' i j)) (cE G ta) (cE G tb) (cE G tc) σ H Q:=by
  obtain ⟨env,h,S,q⟩:=q
  refine ⟨env,h,S,ma env h _ _ (fun ra env1 h1 z v H1 S1 x1 r1 f1=> ?_) q⟩
  refine ⟨env1,h1,S1,mb env1 h1 _ _ (fun rb env2 h2 z u H2 S2 x2 r2 f2=> ?_) z⟩
  have va:=(r1.xt S1 x2).vr S2
  have vb:=r2.vr S2
  split at z
  · rename_i i j ei ej
    rw [ei] at va
    rw [ej] at vb
    refine ⟨i,j,va.int,vb.int,P i j,rfl,ite2 (fun y=> ?_) fun y=> ?_⟩
    · rw [if_pos y] at z
      refine ⟨env2,h2,S2,mc env2 h2 _ _ (fun rc env3 h3 z w H3 S3 x3 r3 f3=> ?_) z⟩
      have vc:=r3.vr S3
      split at z
      · rename_i k ek
        rw [ek] at vc
        exact ⟨j,k,vb.int,vc.int,z _ H3 S3 (x1.trans (x2.trans x3)) (show Rep G.K H3 _ _ from .bl) trivial⟩
      · exact z.elim
    · rw [if_neg y] at z
      exact z _ H2 S2 (x1.trans x2) (show Rep G.K H2 _ _ from .bl) trivial
  · exact z.elim
theorem A09 {op op':CmpOp} {P P':Int→Int→Bool} (ho:OpR X (compareOp op) (rI0 fun i j=> .bl (P i j))) (ho':OpR X (compareOp op') (rI0 fun i j=> .bl (P' i j))) (ha:AE X G a ta) (hb:AE X G b tb) (hc:AE X G c tc)
    (hm:lastMarks [op,op'] [b,c]=false:=by with_unfolding_all rfl):AP X G (.Compare a [op,op'] [b,c] pos) (aTst (aChn P P' ta tb tc)):=by
  refine ⟨aTst.mono (aChn.mono ha.mono hb.mono hc.mono),PT.imp (pt_chain ho ho' ha.pe hb.pe hc.pe hm) fun σ H Q ⟨env,k,S,q⟩=> ?_⟩
  refine B09 ha.mono hb.mono hc.mono ⟨env,k,S,aChn.mono ha.mono hb.mono hc.mono env k _ _ (fun r env1 h1 z v H1 S1 x1 r1 f1=> ?_) q⟩
  have r2:=r1.vr S1
  split at z
  · rename_i b e
    rw [e] at r2
    exact ⟨b,r2.bl,z H1 S1 x1⟩
  · exact z.elim
end
structure Ok (P:Program) (w:World) (K:PySem.W.Frag) (mg:Str→Option Value) (base:Heap) (x:Str) (st:Stmt) (k n:Nat) (ps:List Str) (sp:C0):Prop where
  m:L1 sp
  ex:∃f fd,mg x=some (.ref f)∧FunD K x x (defArgs st) (defBody st) (defScope st) [] [] f fd∧FnOk P w K mg base (L2.CX P w) k f fd ps (M9 K n sp)
def Q5 (x:Str) (st:Stmt) (ps:List Str):Prop:=∀(kV doc pm:Value) (an:Option Addr) (cdv ct:Value) (us:List Value),us.length=ps.length→bindArgs (PySem.W.fnOf x x (defArgs st) (defBody st) (defScope st) .none kV doc pm an cdv ct) ⟨us,[]⟩=pure (ps.zip us)
section
variable {X:Cx} {G:Gx} {sp:C0} {st:Stmt} {k j n:Nat} {ps:List Str} {x:Str} {p pos:Pos} {e:Expr} {es:List Expr} {t:B7} {E:AExc→A0→AH→Prop}
theorem B0m (gk:G.K=X.K) (O:Ok X.prog X.w X.K X.mg X.base x st k n ps sp) (bd:Q5 x st ps) (hr:Room j X.A) (kj:k≤j) (hg:Gl X x) (tk:Takes X (cW G E))
    (ha:AA X G (e::es) t) (hn:∀env h (R:List W→A0→AH→Prop),t env h R→t env h fun ws e g=> ws.length=n∧R ws e g)
    (hdb:(x==("__debug__":Str))=false:=by decide) (he:starEach (e::es) X.env=(false,eval e X.env)::starEach es X.env:=by rfl) (hpl:(backTo pos (starEach es X.env)).any (·.1)=false:=by rfl):
    AE X G (.Call (.Name x p) (e::es) [] pos) (aCall E sp t):=by
  obtain ⟨f,fd,hm,FD,F⟩:=O.ex
  exact B10 (G:=G) (gk▸F) O.m (hr.mono kj) hg hm FD.kp (FD.bindsN bd) tk ha hn hdb he hpl
structure AN (X:Cx) (G:Gx) (es:List Expr) (n:Nat) (t:B7):Prop where
  aa:AA X G es t
  ln:∀env h (R:List W→A0→AH→Prop),t env h R→t env h fun ws e g=> ws.length=n∧R ws e g
theorem F9:AN X G [] 0 aNil:=⟨J8,A7G⟩
theorem D1 {tv:B5} (a:AV X G e tv) (b:AN X G es n t) (hs:starEach (e::es) X.env=(false,eval e X.env)::starEach es X.env:=by rfl):AN X G (e::es) (n+1) (aCons tv t):=
  ⟨D8 a b.aa hs,B1Q a.mono b.ln b.aa.mono⟩
theorem I9 (gk:G.K=X.K) (O:Ok X.prog X.w X.K X.mg X.base x st k n ps sp) (bd:Q5 x st ps) (hr:Room j X.A) (kj:k≤j) (hg:Gl X x) (tk:Takes X (cW G E))
    (ha:AN X G (e::es) n t) (hdb:(x==("__debug__":Str))=false:=by decide) (he:starEach (e::es) X.env=(false,eval e X.env)::starEach es X.env:=by rfl) (hpl:(backTo pos (starEach es X.env)).any (·.1)=false:=by rfl):
    AE X G (.Call (.Name x p) (e::es) [] pos) (aCall E sp t):=B0m gk O bd hr kj hg tk ha.aa ha.ln hdb he hpl
end
abbrev E0:AExc→A0→AH→Prop:=fun _ _ _=> False
theorem B1r {P:Program} {w:World} {K:PySem.W.Frag} {mg:Str→Option Value} {base:Heap} {x:Str} {st:Stmt} {f:Addr} {fd:FuncData} {ps:List Str} {n:Nat} (hm:mg x=some (.ref f)) (F:FunD K x x (defArgs st) (defBody st) (defScope st) [] [] f fd):Ok P w K mg base x st 0 n ps (fun _ _ _ _=> False):=
  ⟨fun _ _ _ _ _ _ _ _ z=> z,f,fd,hm,F,⟨fun _ _ _ _ ⟨_,_,_,_,_,_,_,_,z,_⟩=> z.elim,fun _ _ _ _ _ _ _ _ _ _ _ _ _ ⟨_,_,_,_,_,_,_,_,z,_⟩=> z.elim⟩⟩
section
variable {P:Program} {w:World} {K:PySem.W.Frag} {mg:Str→Option Value} {base:Heap} {x:Str} {st:Stmt} {f:Addr} {fd:FuncData} {N ps:List Str} {k n:Nat} {sp:C0}
theorem Ok.mk' {t:(AExc→A0→AH→Prop)→B4} (sm:L1 sp) (hm:mg x=some (.ref f)) (F:FunD K x x (defArgs st) (defBody st) (defScope st) [] [] f fd) (S:FnScope N ps (defScope st)) (hn:ps.length=n)
    (hb:∀(cdv:Value) (A:Around) (outer:List Env) (s:Shared) (H:Hp) (E:XK) (G:Gx) (E':AExc→A0→AH→Prop),Room k (A.deeper (envOfC x (defScope st) s.heap.objs.size f cdv))→G.K=K→Takes (bx P w K mg base N x (defScope st) f cdv A outer s H E) (cW G E')→
      ASs (bx P w K mg base N x (defScope st) f cdv A outer s H E) G (defBody st) (t E'))
    (hq:∀ws h Qa Ea,ws.length=n→sp ws h Qa Ea→t (C7 Ea) (C1 Qa) (G2 N.length ws) h):Ok P w K mg base x st (k+1) n ps sp:=
  ⟨sm,f,fd,hm,F,A4I [] [] F S hn hb hq⟩
end
end Ab
namespace Ab
open PySem PySem.Spec PyProof.Rows L2 RZ
theorem R4:bootBuiltins "len"=some (.builtin "len"):=by decide+kernel
theorem B3E:bootBuiltins "all"=some (.builtin "all"):=by decide+kernel
theorem U8:bootBuiltins "isinstance"=some (.builtin "isinstance"):=by decide+kernel
theorem A2F:bootBuiltins "tuple"=some (.type "tuple"):=by decide+kernel
theorem A30:bootBuiltins "list"=some (.type "list"):=by decide+kernel
theorem A31:bootBuiltins "bool"=some (.type "bool"):=by decide+kernel
theorem A7w:bootBuiltins "int"=some (.type "int"):=by decide+kernel
theorem A76:bootBuiltins "str"=some (.type "str"):=by decide+kernel
section
variable {X:Cx} {G:Gx}
theorem W1 {x:Str} {T:String} {pos:Pos} (hg:Gl X x) (hm:X.mg x=none) (hv:bootBuiltins x=some (.type T)) (hn:x≠"__name__":=by decide) (hd:(x==("__debug__":Str))=false:=by decide):AE X G (.Name x pos) (aC (.ty T)):=
  A0W (v:=V.ty T) (pe_bltn (v:=V.ty T) hg hm hv (show _=_ from rfl) hn hd) fun _=> .ty
variable {elt tg iter:Expr} {ifs:List Expr} {scope:Scope} {own:List (Str×Nat)} {pos:Pos} {ti:O7} {g:E7} {tt:E4} {te:B5} {sl:List Nat}
theorem A7f (hc:X.calm=true) (hN:X.N.Nodup) (hi:AI X G tg iter ti) (ok:BlkOk X.N X.env.scope scope own) (hsl:∀i∈sl,i∈own.map (·.2))
    (hg:∀(s:Shared) (H:Hp) (C:Addr) (cl:List (Str×Addr)) (fp:List Addr),AG (X.blk s H scope (compEnvC scope cl C X.env) fp) G tg sl g) (ht:∀(s:Shared) (H:Hp) (C:Addr) (cl:List (Str×Addr)) (fp:List Addr),APs (X.blk s H scope (compEnvC scope cl C X.env) fp) G ifs tt)
    (he:∀(s:Shared) (H:Hp) (C:Addr) (cl:List (Str×Addr)) (fp:List Addr),AV (X.blk s H scope (compEnvC scope cl C X.env) fp) G elt te) (hs:∀x,foldedSetIterable iter X.env x=pure x:=by intro _;rfl):
    AE X G (.ListComp elt [⟨tg,iter,ifs,0⟩] scope pos) (e9 (own.map (·.2)) ti g tt te):=
  B3q hc hN hi ok hsl hg ht he (hg X.s_0 X.H_0 0 [] []).mono (ht X.s_0 X.H_0 0 [] []).mono (he X.s_0 X.H_0 0 [] []).mono hs
end
def d9 {α:Type} (d:α) (perm:List Nat) (us ws:List α):List α:=if us.isEmpty && ws.length==perm.length then perm.map fun i=> ws.getD i d else []
abbrev gKw (perm:List Nat):List W→List W→List W:=d9 W.non perm
def A4u (x:Str) (st:Stmt) (ps ks:List Str) (perm:List Nat):Prop:=∀(kV doc pm:Value) (an:Option Addr) (cdv ct:Value) (ws:List Value),ws.length=perm.length→
  bindArgs (PySem.W.fnOf x x (defArgs st) (defBody st) (defScope st) .none kV doc pm an cdv ct) ⟨[],ks.zip ws⟩=pure (ps.zip (perm.map fun i=> ws.getD i .none))
theorem RepL.getD' {K:PySem.W.Frag} {H:Hp}:∀{ws:List W} {vs:List V} (i:Nat),RepL K H ws vs→Rep K H (ws.getD i .non) (vs.getD i .non)
  | [],vs,i,r=> by rw [r.of_nil];simpa using Rep.non
  | w::ws,vs,i,r=> by
    obtain ⟨v,t,rfl,a,b⟩:=r.of_cons
    cases i with
    | zero=> simpa using a
    | succ i=> simpa using b.getD' i
theorem Vals.getD':∀{vs:List V} {us:List Value} (i:Nat),Vals vs us→RelV (vs.getD i .non) (us.getD i .none)
  | _,_,i,.nil=> by cases i <;> rfl
  | _,_,0,.cons a b=> by simpa using a
  | _,_,i+1,.cons a b=> by simpa using Vals.getD' i b
theorem B1X {K:PySem.W.Frag} {H:Hp} {perm:List Nat} {ws zs:List W} {vs us:List V} (r:RepL K H ws vs) (q:RepL K H zs us):RepL K H (d9 .non perm ws zs) (d9 .non perm vs us):=by
  unfold d9
  have e1:ws.isEmpty=vs.isEmpty:=by
    have:=r.length
    cases ws <;> cases vs <;> simp_all
  rw [e1,q.length]
  split
  · clear e1
    induction perm with
    | nil=> exact .nil
    | cons i t ih=>
      rename_i hh
      refine .cons (q.getD' i) ?_
      have:∀t:List Nat,RepL K H (t.map fun i=> zs.getD i .non) (t.map fun i=> us.getD i .non):=fun t=> by
        induction t with
        | nil=> exact .nil
        | cons i t ih=> exact .cons (q.getD' i) ih
      exact this t
  · exact .nil
theorem B00 {perm:List Nat} {vs:List V} {us:List Value} {zs:List V} {ws:List Value} (r:Vals vs us) (q:Vals zs ws):Vals (d9 .non perm vs zs) (d9 .none perm us ws):=by
  unfold d9
  have e1:vs.isEmpty=us.isEmpty:=by cases r <;> rfl
  rw [e1,q.length]
  split
  · have:∀t:List Nat,Vals (t.map fun i=> zs.getD i .non) (t.map fun i=> ws.getD i .none):=fun t=> by
      induction t with
      | nil=> exact .nil
      | cons i t ih=> exact .cons (Vals.getD' i q) ih
    exact this perm
  · exact .nil
theorem AKB.all {K:PySem.W.Frag} {x:Str} {st:Stmt} {f:Addr} {fd:FuncData} {ps ks:List Str} {perm:List Nat} (F:FunD K x x (defArgs st) (defBody st) (defScope st) [] [] f fd) (hp:ps.length=perm.length) (h0:0 < perm.length) (h:A4u x st ps ks perm):Nonempty (AKB K fd ps ks perm.length (gKw perm)):=by
  refine ⟨⟨d9 .none perm,d9 .non perm,⟨fun s us ws X hl=> ?_,fun r q=> B00 r q⟩,fun H ws zs vs us _ r q=> B1X r q⟩⟩
  obtain ⟨oc,od,dV,kV,doc,pm,an,cdv,ct,osl,rfl,lk,hcd,hD,hK⟩:=F.ex
  rcases hD with ⟨_,rfl⟩ | ⟨e,_⟩
  · unfold d9 at hl ⊢
    split at hl
    · rename_i hc
      rw [if_pos hc]
      simp only [Bool.and_eq_true,List.isEmpty_iff,beq_iff_eq] at hc
      rw [hc.1]
      exact .of_eq (h kV doc pm an cdv ct ws hc.2)
    · rw [hp] at hl
      exact absurd hl (by simp;omega)
  · exact absurd rfl e
section
variable {X:Cx} {G:Gx} {sp:C0} {st:Stmt} {k j:Nat} {ps ks:List Str} {x:Str} {p pos:Pos} {kws:List Keyword} {tk:B7} {E:AExc→A0→AH→Prop} {perm:List Nat}
theorem B0y (gk:G.K=X.K) (O:Ok X.prog X.w X.K X.mg X.base x st k perm.length ps sp) (kw:A4u x st ps ks perm) (hr:Room j X.A) (kj:k≤j) (hg:Gl X x) (tkk:Takes X (cW G E)) (hkw:AK X G kws tk)
    (hp:ps.length=perm.length:=by rfl) (h0:0 < perm.length:=by decide) (hall:(backToKw pos (keywordEach kws X.env)).all (·.1.isSome)=true:=by rfl) (hks:(backToKw pos (keywordEach kws X.env)).filterMap (·.1)=ks:=by rfl) (hdb:(x==("__debug__":Str))=false:=by decide)
    (hpl:((backTo pos (starEach [] X.env)).any (·.1) || (backToKw pos (keywordEach kws X.env)).any (·.1.isNone))=false:=by rfl):
    AE X G (.Call (.Name x p) [] kws pos) (aCallK E sp perm.length (gKw perm) aNil tk):=by
  obtain ⟨f,fd,hm,FD,F⟩:=O.ex
  obtain ⟨kb⟩:=AKB.all FD hp h0 kw
  exact B0f (G:=G) gk (gk▸F) O.m (hr.mono kj) hg hm FD.kp kb tkk hkw hall hks hdb hpl
end
theorem Ok.up {P:Program} {w:World} {K:PySem.W.Frag} {mg:Str→Option Value} {base:Heap} {x:Str} {st:Stmt} {ps:List Str} {k k' n:Nat} {sp sp':C0} (O:Ok P w K mg base x st k n ps sp) (h:k≤k') (m:L1 sp') (i:∀ws h Q E,sp' ws h Q E→sp ws h Q E):Ok P w K mg base x st k' n ps sp':=by
  obtain ⟨f,fd,hm,FD,F⟩:=O.ex
  exact ⟨m,f,fd,hm,FD,(F.imp fun vs H Q E ⟨ws,h,Qa,Ea,hl,hp,tb,r,q,z⟩=> ⟨ws,h,Qa,Ea,hl,hp,tb,r,i _ _ _ _ q,z⟩).mono h⟩
end Ab
namespace Ab
open PySem PySem.Spec PyProof.Rows L2 RZ
def pureSp (P:List W→RR→Prop):C0:=fun ws h Q _=> ∃r,P ws r∧Q r h
theorem pureSp.m {P:List W→RR→Prop}:L1 (pureSp P):=fun _ _ _ _ _ _ k _ ⟨r,p,q⟩=> ⟨r,p,k _ _ q⟩
def Bt (p:Addr) (h h':AH):Prop:=∀q,q≠p→h' q=h q
theorem Bt.refl {p:Addr} {h:AH}:Bt p h h:=fun _ _=> rfl
theorem Bt.trans {p:Addr} {h h1 h2:AH} (a:Bt p h h1) (b:Bt p h1 h2):Bt p h h2:=fun q n=> (b q n).trans (a q n)
theorem Bt.upd {p:Addr} {h:AH} {o:AO}:Bt p h (C9 h p o):=fun q n=> by unfold C9;rw [if_neg n]
section
variable {vs:List Nat} {g:E7} {tt:E4} {te:B5} {env:A0} {h:AH} {Q:List W→A0→AH→Prop}
inductive All2 {α β:Type} (P:α→β→Prop):List α→List β→Prop where
  | nil:All2 P [] []
  | cons {a:α} {b:β} {as:List α} {bs:List β}:P a b→All2 P as bs→All2 P (a::as) (b::bs)
theorem All2.length {α β:Type} {P:α→β→Prop} {as:List α} {bs:List β} (r:All2 P as bs):as.length=bs.length:=by
  induction r with
  | nil=> rfl
  | cons _ _ ih=> rw [List.length_cons,List.length_cons,ih]
end
section
variable {g:E7} {tb:B4} {D:AEnds}
end
end Ab
namespace Ab
open PySem PySem.Spec PyProof.Rows L2 RZ
section
variable {xs ys:List W} {i j:Int} {Q:RV→Prop} {v:Vw} {a b c d e w:W} {n:String}
def ixK (v:Vw) (i:Int) (Q:RV→Prop):Prop:=match v.items.bind fun xs=> atI xs i with
  | some w=> Q (.val w)
  | none=> False
theorem A4J {v:Vw}:(∃xs w,v.items=some xs∧atI xs i=some w∧Q (.val w))=ixK v i Q:=by
  unfold ixK
  refine propext ⟨fun ⟨xs,w,e,f,q⟩=> ?_,fun q=> ?_⟩
  · rw [e]
    show match atI xs i with
      | some w=> Q (.val w)
      | none=> False
    rw [f];exact q
  · split at q
    · rename_i w e
      obtain ⟨xs,e1,e2⟩:=Option.bind_eq_some_iff.mp e
      exact ⟨xs,w,e1,e2,q⟩
    · exact q.elim
theorem B4X {v b:Vw}:oIx v b Q=(match b with
  | .wv (.int i)=> match v with
    | .wv (.str x)=> x.length≤sizeLine∧∃c,L2.atI x.cps.toList i=some c∧Q (.val (.str ⟨#[c]⟩))
    | v=> ixK v i Q
  | _=> False):=by
  cases b with
  | wv w=> cases w with
    | int i=> cases v with
      | wv u=> cases u <;> first | rfl | exact A4J
      | cv c=> exact A4J
      | bad=> exact A4J
    | _=> rfl
  | _=> rfl
theorem A24:C4 [v] Q=(match v with
  | .wv (.str x)=> x.length≤sizeLine∧Q (.val (.int x.length))
  | v=> match v.items with
    | some xs=> Q (.val (.int xs.length))
    | none=> False):=by
  cases v with
  | wv w=> cases w <;> simp [C4,Vw.items]
  | cv c=> cases c <;> simp [C4,Vw.items]
  | bad=> simp [C4,Vw.items]
theorem A4D:O5 [v] Q=(match v.items with
    | some xs=> Q (.val (.tup xs))
    | none=> False):=by
  unfold O5
  cases e:v.items <;> simp [e]
theorem A4L:Q7 [v] Q=(match v.items with
    | some xs=> Q (.own (.seq xs))
    | none=> False):=by
  unfold Q7
  cases e:v.items <;> simp [e]
theorem B4O {v:Vw} {neg:Bool}:H9 neg v (.wv .non) Q=(v≠ .bad∧Q (.val (.bl (if neg then !v.isNon else v.isNon)))):=by
  simp only [H9,true_and]
end
theorem v5 {i j:Int} (h0:0≤i) (h1:i < 2 ^ 200) (g0:0≤j) (g1:j < 2 ^ 200):CMulW i j:=
  wide_mul (a:=200) (b:=200) (by omega) (by omega) (by decide) (by decide) (by decide)
theorem A4A {xs:List W} {k:Nat}:N4 xs none (some (k:Int))=xs.take k:=by
  unfold N4
  rw [HT.sIx_none,HT.sIx_nat]
  simp only [List.drop_zero,Nat.sub_zero]
  rcases Nat.le_total k xs.length with h | h
  · rw [Nat.min_eq_left h]
  · rw [Nat.min_eq_right h,List.take_of_length_le (Nat.le_refl _),List.take_of_length_le h]
theorem B4R {v:Vw} {T:String} {Q:RV→Prop}:B6 [v,.wv (.ty T)] Q=(match v.tyName with
  | some n=> match i4 n T with
    | some b=> Q (.val (.bl b))
    | none=> False
  | none=> False):=by
  refine propext ⟨fun q=> ?_,fun q=> ?_⟩
  · obtain ⟨n,b,e,f,q⟩:∃n b,v.tyName=some n∧i4 n T=some b∧Q (.val (.bl b)):=q
    simp only [e,f]
    exact q
  · show ∃n b,v.tyName=some n∧i4 n T=some b∧Q (.val (.bl b))
    split at q
    · rename_i n e
      split at q
      · rename_i b f
        exact ⟨n,b,e,f,q⟩
      · exact q.elim
    · exact q.elim
mutual
def W.fit:Nat→W→Bool
  | _,.non=> true
  | _,.bl _=> true
  | _,.int _=> true
  | _,.str _=> true
  | n+1,.tup xs=> decide (xs.length≤100000) && W.fitL n xs
  | n+1,.lst xs=> decide (xs.length≤100000) && W.fitL n xs
  | _,_=> false
def W.fitL:Nat→List W→Bool
  | _,[]=> true
  | n,x::xs=> W.fit n x && W.fitL n xs
end
theorem A0z {lo:Int} {n:Nat}:(N3 lo n).length=n:=by simp [N3]
end Ab
namespace Ab
open PySem PySem.Spec PyProof.Rows L2 RZ
section
variable {P:Program} {w:World} {A:Around} {E:Value→Shared→Prop}
end
section
variable {X:Cx} {G:Gx} {e t1 t2:Expr} {sp pos tpos:Pos} {kk:Nat}
end
end Ab
namespace Ab
open PySem PySem.Spec PyProof.Rows L2 RZ
def aStar (i j:Nat) (tv:B5):B4:=fun D env h=> tv env h fun w env1 h1=> match w with
  | .tup (x::r)=> D.nx ((env1.set i (some (.val x))).set j (some (.own (.seq r)))) h1
  | .lst (x::r)=> D.nx ((env1.set i (some (.val x))).set j (some (.own (.seq r)))) h1
  | _=> False
section
variable {X:Cx} {G:Gx} {e:Expr} {tv:B5} {px py sp pos tpos:Pos} {kk i j:Nat} {x y:Str}
theorem aStar.mono (m:A2 tv):T4 (aStar i j tv):=fun D D' env h l q=> m env h _ _ (fun w env1 h1 z=> by
  split at z
  · exact l.nx _ _ z
  · exact l.nx _ _ z
  · exact z) q
end
def A06:B4:=fun _ _ _=> False
theorem A3p {X:Cx} {G:Gx} {st:Stmt}:AS X G st A06:=⟨fun _ _ _ _ _ z=> z,PS.imp ps_never fun _ _ _ ⟨_,_,_,_,z,_⟩=> z.elim⟩
theorem Z8 {X:Cx} {G:Gx} {x:Str} {i:Int} {pos:Pos} (hg:Gl X x) (hm:∃t,X.mg x=some (.int i t)) (hd:(x==("__debug__":Str))=false:=by decide):AE X G (.Name x pos) (aC (.int i)):=by
  obtain ⟨t,hm⟩:=hm
  exact A0W (v:= .int i) (pe_glob (v:= .int i) hg hm ⟨t,rfl⟩ hd) fun _=> .int
end Ab
namespace Ab
open PySem PySem.Spec PyProof.Rows L2 RZ
open Sem (wp)
structure Itr (v:Value) (C:Heap→Prop) (at_:Heap→Addr) (nx:Heap→Heap):Prop where
  go:∀(P:Program) (w:World) (A:Around) (E:Value→Shared→Prop) (s:Shared) (Q:Value→Shared→Prop),C s.heap→Q (.ref (at_ s.heap)) { s with heap:=nx s.heap }→wpAny (model P w) A (pyIter v) Q E s
abbrev A4i (it:Addr):Obj:={ cls:= .type "enumerate",data:= .fields #[.none,.bool false,.ref it,rawInt 0,.none,.none] }
theorem B05 {v:Value} {C:Heap→Prop} {at_:Heap→Addr} {nx:Heap→Heap} (B:Itr v C at_ nx):
    Meets (Builtin.«enumerate.__new__» ⟨[.type "enumerate",v],[]⟩) (fun _ R s=> C s.heap∧R (.ok (.ret (.ref (nx s.heap).objs.size))) { s with heap:=(nx s.heap).push (A4i (at_ s.heap)) }):=
  .of_wp fun P w A R s h=> by
    obtain ⟨hp,gs,dr,tk,os⟩:=s
    obtain ⟨c1,h⟩:=h
    have hsub:=sub_enumerate
    have step:∀{B':Around} {E:Value→Shared→Prop} {Q:Value→Shared→Prop},Q (.ref (at_ hp)) ⟨nx hp,gs,dr,tk,os⟩→wpAny (model P w) B' (pyIter v) Q E ⟨hp,gs,dr,tk,os⟩:=
      fun q=> B.go P w _ _ ⟨hp,gs,dr,tk,os⟩ _ c1 q
    wp_walk using step
    refine wpAny_stack_any fun st=> wpAny_pure ?_
    split
    · rename_i c _ _ _ _ _
      cases (c==Value.type "enumerate") <;> (wp_walk using step;exact ⟨_,rfl,h⟩)
    · wp_walk using step
      exact ⟨_,rfl,h⟩
section
variable {P:Program} {w:World} {A:Around} {E:Value→Shared→Prop} {s:Shared}
theorem A7M {v:Value} {C:Heap→Prop} {at_:Heap→Addr} {nx:Heap→Heap} (B:Itr v C at_ nx) (c:C s.heap) {Q:Value→Shared→Prop}
    (h:∀h',h'=(nx s.heap).push (A4i (at_ s.heap))→IsEnum h' (nx s.heap).objs.size (at_ s.heap) 0 .none→Q (.ref (nx s.heap).objs.size) { s with heap:=h' }):
    wpAny (model P w) A (call (.type "enumerate") [v]) Q E s:=by
  refine callType_new F.called_enumerate (by decide) (F.typeCall_enumerate_1 _) (F.newCall_enumerate_1 _) (fun obj=> F.args_object_init_2 obj _) F.entry_enumerate_new (B05 B) ⟨c,?_⟩
  have g:IsEnum ((nx s.heap).push (A4i (at_ s.heap))) (nx s.heap).objs.size (at_ s.heap) 0 .none:=Heap.get?_push_size _ rfl
  exact ⟨⟨_,g,rfl⟩,h _ rfl g⟩
end
theorem B0i (a:Addr) (xs:Array Value):Itr (.ref a) (fun h=> h.IsTuple a xs) (fun h=> h.objs.size) (fun h=> h.push { cls:= .type "tuple_iterator",data:= .fields #[.ref a,.int 0 0] }):=
  ⟨fun P w A E s Q c q=> wpAny_pyIter_tuple c q⟩
theorem B1h (a:Addr) (xs:Array Value):Itr (.ref a) (fun h=> h.IsList a xs) (fun h=> h.objs.size) (fun h=> h.push { cls:= .type "list_iterator",data:= .fields #[.ref a,.int 0 0] }):=
  ⟨fun P w A E s Q c q=> wpAny_pyIter_list c q⟩
def A42 (K:PySem.W.Frag) (a:Addr):It:=
  ⟨fun i H=> ∃(xs:List V) (x:V),SqT K H a xs∧xs[i]? =some x,fun i H v H'=> ∃T x,v= .ref T∧H T=none∧H'=upd H T (.tup [.int (i:Nat),x])∧∀xs,SqT K H a xs→xs[i]? =some x,fun i H=> ∃xs:List V,SqT K H a xs∧xs.length≤i⟩
theorem B1f {P:Program} {w:World} {K:PySem.W.Frag} {elts:List Expr} {kk:Nat} {tpos:Pos} (a en it:Addr):
    Turn P w K (.Tuple elts kk tpos) (A42 K a) [en,it] en (fun i h=> (∃old,IsEnum h en it ((i:Nat):Int) old)∧h.IsTupleIter it a i∧en≠it) where
  mem:=by simp
  obj:=fun i h st b hb=> by
    obtain ⟨⟨old,g⟩,⟨o,ho,hc,hd⟩,_⟩:=st
    rcases (show b=en∨b=it by simpa using hb) with z | z
    · rw [z];exact ⟨_,g,fun v q=> nomatch q⟩
    · rw [z];exact ⟨o,ho,fun v q=> by rw [hd] at q;cases q⟩
  keep:=fun i h h' ⟨⟨old,g⟩,hi,ne⟩ k=> ⟨⟨old,k en (by simp) _ g⟩,hi.at fun o q=> k it (by simp) o q,ne⟩
  item:=by
    intro X hP hw hK hc i pins s σ H E I hf ⟨⟨old,g⟩,hit,ne⟩ ⟨xs,x,hq,hx⟩
    subst hP hw hK
    obtain ⟨its,rv,tp,hz⟩:=I.tuple hq
    obtain ⟨u,hu,ru⟩:=rv.get hx
    have hel:en < s.heap.objs.size:=Heap.lt_size g
    have hil:it < s.heap.objs.size:=by obtain ⟨_,q,_⟩:=hit;exact Heap.lt_size q
    have ai:a≠it:=fun z=> by
      obtain ⟨o1,e1,c1,_⟩:=tp
      obtain ⟨o2,e2,c2,_⟩:=hit
      rw [z,e2] at e1
      cases e1
      rw [c2] at c1
      exact absurd (Value.type.inj c1) (by decide)
    have ae:en∉[it,a]:=fun z=> by
      rcases (show en=it∨en=a by simpa using z) with z | z
      · exact ne z
      · obtain ⟨o1,e1,c1,_⟩:=tp
        rw [←z] at e1
        rw [show s.heap.get? en=_ from g] at e1
        cases e1
        exact absurd (Value.type.inj c1) (by decide)
    have hlt:i < its.toArray.size:=by
      have:=(List.getElem?_eq_some_iff.mp hu).1
      simpa using this
    refine wpAny_pyNext_enum_itemD (Draws.tuple (show X.A.in1.handled=none from I.ok.hd hc) it a ai its.toArray) g ⟨hit,tp⟩ hlt ne ae fun y h1 tk py out st2 hT hsz keep=> ?_
    have ey:y=u:=by
      have py:its.toArray[i]? =some y:=py
      have:its[i]? =some y:=by simpa using py
      rw [hu] at this
      exact (Option.some.inj this).symm
    subst ey
    refine ⟨_,rfl,wpAny_letOwnedTupleGo_enum (s:={ s with heap:=h1,toks:=tk+1 }) out fun h2 g2 sb=> ?_⟩
    have hT2:h2.get? s.heap.objs.size=some { cls:= .type "tuple",data:= .seq #[.int i tk,y] }:=(sb.2 _ (Nat.ne_of_gt hel)).trans hT
    have new:ObjOk X.prog X.w (upd H s.heap.objs.size (.tup [.int (i:Nat),x])) h2 s.heap.objs.size (.tup [.int (i:Nat),x]):=
      ⟨by show 2≤sizeLine;decide,[.int i tk,y],.cons ⟨_,rfl⟩ (.cons ru .nil),⟨_,hT2,rfl,_,rfl⟩⟩
    have I1:Inv X pins σ (upd H s.heap.objs.size (.tup [.int (i:Nat),x])) { s with heap:=h2,toks:=tk+1 }:=
      I.turnedNew (ch:=[en,it]) (fun b ob hb q=> (sb.2 b (fun z=> hb (by simp [z]))).trans (keep b ob (fun z=> hb (by simp [z])) (fun z=> hb (by simp [z])) q)) hf (Nat.le_refl _) new
    refine ⟨.ref s.heap.objs.size,_,I1,rfl,⟨_,x,rfl,I.hok.fresh (Nat.le_refl _),rfl,fun ys hy=> by rw [I.tuple_inj hy hq];exact hx⟩,⟨⟨y,?_⟩,st2.1.at fun o q=> (sb.2 it (Ne.symm ne)).trans q,ne⟩,fun b hb=> ?_⟩
    · rw [show ((i+1:Nat):Int)=(i:Int)+1 by omega];exact g2
    · have lt:b < s.heap.objs.size:=by
        rcases (show b=en∨b=it by simpa using hb) with z | z
        · rw [z];exact hel
        · rw [z];exact hil
      rw [upd_ne (Nat.ne_of_lt lt)]
      exact (hf b hb).1
  done:=by
    intro X hP hw hK hc i pins s σ H E I hf ⟨⟨old,g⟩,hit,ne⟩ ⟨xs,hq,hx⟩
    subst hP hw hK
    obtain ⟨its,rv,tp,hz⟩:=I.tuple hq
    obtain ⟨f0,f1,f2,f3,f4,f5⟩:=hf it (by simp)
    have ai:a≠it:=fun z=> by
      obtain ⟨o1,e1,c1,_⟩:=tp
      obtain ⟨o2,e2,c2,_⟩:=hit
      rw [z,e2] at e1
      cases e1
      rw [c2] at c1
      exact absurd (Value.type.inj c1) (by decide)
    have hn:its.toArray[i]? =none:=by
      have:=rv.length
      rw [Array.getElem?_eq_none_iff]
      simp
      omega
    have D:Draws X.prog X.w X.A.in1 it [it,a] i (fun _ _=> False) (fun j h=> j=i∧h.IsTupleIter it a i∧h.IsTuple a its.toArray):=
      ⟨fun j h ⟨_,⟨o,ho,_⟩,_⟩=> ⟨o,ho⟩,fun j h h' ⟨e,x1,x2⟩ k=> ⟨e,x1.at fun o q=> k it (by simp) o q,x2.at fun o q=> k a (by simp) o q⟩,fun j t Q E lt ⟨e,_⟩=> absurd lt (by rw [e];exact Nat.lt_irrefl _),
        fun t Q E ⟨_,x1,x2⟩ hE=> wpAny_nextOf_tuple_end (show X.A.in1.handled=none from I.ok.hd hc) x1 x2 hn hE⟩
    exact wpAny_pyNext_enum_endD D g ⟨rfl,hit,tp⟩ fun h' eb=> ⟨rfl,I.turned (t':=s.toks) (fun b o hb q=> eb b o hb q) f0 f1 f3 f4 f5⟩
  self:=fun A i s Q E ⟨⟨_,g⟩,_⟩ q=> wpAny_pyIter_enum g q
def B4V (K:PySem.W.Frag) (ta:TA):TI:=fun σ H R=> ta σ H fun vs H1=> ∃a xs,vs=[.ref a]∧((SqT K H1 a xs∧R (A42 K a) H1)∨(SqL K H1 a xs∧R (Ite K a) H1))
theorem B21 {X:Cx} {e:Expr} {ta:TA} {p pos tpos:Pos} {elts:List Expr} {kk:Nat} (hg:Gl X "enumerate") (hm:X.mg "enumerate"=none) (ha:PA X [e] ta) (hs:starEach [e] X.env=[(false,eval e X.env)]:=by rfl):
    PI X (.Tuple elts kk tpos) (.Call (.Name "enumerate" p) [e] [] pos) (B4V X.K ta):=by
  refine ⟨fun pins s σ H R I h=> ?_⟩
  refine Call_ (ld_blt I hg hm boot_enumerate (PyProof.Rows.callWith_type1 (thn (ha.run pos pins s σ H _ I h) fun us s1 ⟨vs,H1,I1,r1,a,xs,ex,hqq⟩=> ?_) hs rfl))
  subst ex
  cases r1 with
  | cons r rr=>
    cases rr
    cases r
    rcases hqq with ⟨hq,q⟩ | ⟨hq,q⟩
    · obtain ⟨its,rv,tp,hz⟩:=I1.tuple hq
      refine A7M (B0i a its.toArray) tp fun h' eh g=> wpAny_pyIter_enum g ?_
      have sz:(s1.heap.push { cls:= .type "tuple_iterator",data:= .fields #[.ref a,.int 0 0] }).objs.size=s1.heap.objs.size+1:=Heap.size_push ..
      have I2:Inv X pins σ H1 { s1 with heap:=h' }:=I1.kept (t':=s1.toks) fun b o y=> by rw [eh];exact Heap.get?_push_of_some _ (Heap.get?_push_of_some _ y)
      have hit:h'.IsTupleIter s1.heap.objs.size a 0:=⟨_,by rw [eh];exact Heap.get?_push_of_some _ (Heap.get?_push_size _ rfl),rfl,rfl⟩
      rw [sz] at g ⊢
      refine ⟨s1.heap.objs.size+1,[s1.heap.objs.size+1,s1.heap.objs.size],_,_,H1,rfl,I2,B1f a (s1.heap.objs.size+1) s1.heap.objs.size,⟨⟨.none,g⟩,hit,Nat.succ_ne_self _⟩,fun b hb=> ?_,q⟩
      have le:s1.heap.objs.size≤b:=by
        rcases (show b=s1.heap.objs.size+1∨b=s1.heap.objs.size by simpa using hb) with z | z
        · rw [z];exact Nat.le_succ _
        · rw [z];exact Nat.le_refl _
      exact I1.fpOk le (I1.hok.fresh le)
    · obtain ⟨its,rv,tp,hz⟩:=I1.list hq
      refine A7M (B1h a its.toArray) tp.isList fun h' eh g=> wpAny_pyIter_enum g ?_
      have sz:(s1.heap.push { cls:= .type "list_iterator",data:= .fields #[.ref a,.int 0 0] }).objs.size=s1.heap.objs.size+1:=Heap.size_push ..
      have I2:Inv X pins σ H1 { s1 with heap:=h' }:=I1.kept (t':=s1.toks) fun b o y=> by rw [eh];exact Heap.get?_push_of_some _ (Heap.get?_push_of_some _ y)
      have hit:h'.IsListIter s1.heap.objs.size a 0:=⟨_,by rw [eh];exact Heap.get?_push_of_some _ (Heap.get?_push_size _ rfl),rfl,rfl⟩
      rw [sz] at g ⊢
      refine ⟨s1.heap.objs.size+1,[s1.heap.objs.size+1,s1.heap.objs.size],_,_,H1,rfl,I2,turn_enum a (s1.heap.objs.size+1) s1.heap.objs.size,⟨⟨.none,g⟩,hit,Nat.succ_ne_self _⟩,fun b hb=> ?_,q⟩
      have le:s1.heap.objs.size≤b:=by
        rcases (show b=s1.heap.objs.size+1∨b=s1.heap.objs.size by simpa using hb) with z | z
        · rw [z];exact Nat.le_succ _
        · rw [z];exact Nat.le_refl _
      exact I1.fpOk le (I1.hok.fresh le)
section
variable {K:PySem.W.Frag}
def N5 (ws:List W):List W:=(List.range ws.length).map fun (i:Nat)=> W.tup [.int (i:Int),ws.getD i .non]
theorem A7I {ws:List W} {i:Nat} {w:W} (h:(N5 ws)[i]? =some w):∃u,ws[i]? =some u∧w= .tup [.int i,u]:=by
  unfold N5 at h
  rw [List.getElem?_map] at h
  cases q:(List.range ws.length)[i]? with
  | none=> rw [q] at h;cases h
  | some j=>
    rw [q] at h
    obtain ⟨hj,e⟩:=List.getElem?_eq_some_iff.mp q
    simp at hj e
    subst e
    cases h
    exact ⟨ws[i],List.getElem?_eq_getElem hj,by simp [List.getD_eq_getElem?_getD,hj]⟩
theorem A7Y {ws:List W}:(N5 ws).length=ws.length:=by simp [N5]
theorem B0a {H:Hp} {a:Addr} {ws:List W} {vs:List V} (l:SqT K H a vs) (r:RepL K H ws vs):A0N K (A42 K a) H (N5 ws):=fun H' k i=> by
  refine ⟨fun h=> ⟨vs,k.sqT l,by rw [←r.length];rw [A7Y] at h;exact h⟩,fun w e=> ?_⟩
  obtain ⟨u,eu,rfl⟩:=A7I e
  obtain ⟨v,ev,rv⟩:=r.get eu
  refine ⟨⟨vs,v,k.sqT l,ev⟩,fun x H2 ⟨T,y,ex,nT,e2,f⟩=> ?_⟩
  subst ex e2
  have ey:y=v:=Option.some.inj ((f vs (k.sqT l)).symm.trans ev)
  subst ey
  have nw:New H' (upd H' T (.tup [.int (i:Nat),y])):=New.upd nT
  exact ⟨nw,.tup (.inl upd_same) (.cons .int (.cons (Rep.mono (k.trans nw.keeps) _ _ rv) .nil))⟩
theorem B0h {H:Hp} {a:Addr} {ws:List W} {vs:List V} (l:LsF H a vs) (r:RepL K H ws vs):A0N K (Ite K a) H (N5 ws):=fun H' k i=> by
  have l':=(k.lsF l).sq (K:=K)
  refine ⟨fun h=> ⟨vs,l',by rw [←r.length];rw [A7Y] at h;exact h⟩,fun w e=> ?_⟩
  obtain ⟨u,eu,rfl⟩:=A7I e
  obtain ⟨v,ev,rv⟩:=r.get eu
  refine ⟨⟨vs,v,l',ev⟩,fun x H2 ⟨T,y,ex,nT,e2,f⟩=> ?_⟩
  subst ex e2
  have ey:y=v:=Option.some.inj ((f vs l').symm.trans ev)
  subst ey
  have nw:New H' (upd H' T (.tup [.int (i:Nat),y])):=New.upd nT
  exact ⟨nw,.tup (.inl upd_same) (.cons .int (.cons (Rep.mono (k.trans nw.keeps) _ _ rv) .nil))⟩
end
def iEn (t:B5):O7:=fun env h Q=> t env h fun w env' h'=> match w with
  | .tup ws=> Q (N5 ws) env' h'
  | .lst ws=> Q (N5 ws) env' h'
  | _=> False
section
variable {X:Cx} {G:Gx} {e:Expr} {tv:B5} {p pos tpos:Pos} {elts:List Expr} {kk:Nat}
theorem iEn.mono (m:A2 tv):A2 (iEn tv):=fun env h Q Q' k q=> m env h _ _ (fun w e g z=> by
  split at z
  · exact k _ _ _ z
  · exact k _ _ _ z
  · exact z) q
theorem A7F (gk:G.K=X.K) (hg:Gl X "enumerate") (hm:X.mg "enumerate"=none) (ha:AV X G e tv) (hs:starEach [e] X.env=[(false,eval e X.env)]:=by rfl):AI X G (.Tuple elts kk tpos) (.Call (.Name "enumerate" p) [e] [] pos) (iEn tv):=by
  have pa:PA X [e] (cA G (aCons tv aNil)):=(D8 (es:=[]) ha J8 hs).pa
  refine ⟨iEn.mono ha.mono,PI.imp (B21 hg hm pa hs) fun σ H R ⟨env,h,S,q⟩=> ⟨env,h,S,ha.mono env h _ _ (fun w e g z vs H1 S1 x1 r1=> ?_) q⟩⟩
  obtain ⟨v,t,rfl,r2,r3⟩:=r1.of_cons
  rw [r3.of_nil]
  split at z
  · obtain ⟨a,xs,ev,hq,rl⟩:=Rep.of_tup (K:=G.K) (H:=H1) r2
    subst ev
    exact ⟨a,xs,rfl,.inl ⟨gk▸hq,z _ H1 S1 x1 (gk▸B0a hq rl)⟩⟩
  · obtain ⟨a,xs,ev,hq,rl⟩:=Rep.of_lst (K:=G.K) (H:=H1) r2
    subst ev
    exact ⟨a,xs,rfl,.inr ⟨hq.sq,z _ H1 S1 x1 (gk▸B0h hq rl)⟩⟩
  · exact z.elim
end
end Ab
namespace Ab
open PySem PySem.Spec PyProof.Rows L2 RZ
open Sem (wp)
section
variable {P:Program} {w:World} {A:Around} {E:Value→Shared→Prop} {s:Shared} {z TI TO i1 i2:Addr} {fp1 fp2:List Addr} {n1 n2 i:Nat} {P1 P2:Nat→Value→Prop} {St1 St2:Nat→Heap→Prop} {a1 a2 f0 f1:Value}
end
end Ab
namespace Ab
open PySem PySem.Spec PyProof.Rows L2 RZ
open Sem (wp)
section
variable {P:Program} {w:World} {A:Around} {E:Value→Shared→Prop} {s:Shared} {en it:Addr} {old:Value} {ch:List Addr}
end
section
variable {P:Program} {w:World} {A:Around} {E:Value→Shared→Prop} {s:Shared} {z TI TO i1 i2:Addr} {fp1 fp2:List Addr} {n1 n2 i:Nat} {P1 P2:Nat→Value→Prop} {St1 St2:Nat→Heap→Prop} {a1 a2 f0 f1:Value}
end
end Ab
namespace Ab
open PySem PySem.Spec PyProof.Rows L2 RZ
open Sem (wp)
def ItAt (k:Bool) (h:Heap) (it a:Addr) (i:Nat):Prop:=if k=true then h.IsTupleIter it a i else h.IsListIter it a i
def HpAt (k:Bool) (h:Heap) (a:Addr) (xs:Array Value):Prop:=if k=true then h.IsTuple a xs else h.IsList a xs
theorem ItAt.keep {k:Bool} {h h':Heap} {it a:Addr} {i:Nat} (x:ItAt k h it a i) (y:∀o,h.get? it=some o→h'.get? it=some o):ItAt k h' it a i:=by
  cases k with
  | true=> exact Heap.IsTupleIter.at (show h.IsTupleIter it a i from x) y
  | false=> exact Heap.IsListIter.at (show h.IsListIter it a i from x) y
theorem ItAt.obj {k:Bool} {h:Heap} {it a:Addr} {i:Nat} (x:ItAt k h it a i):∃o,h.get? it=some o∧∀v,o.data≠ .cell v:=by
  cases k with
  | true=>
    obtain ⟨o,e,_,d⟩:h.IsTupleIter it a i:=x
    exact ⟨o,e,fun v q=> by rw [d] at q;cases q⟩
  | false=>
    obtain ⟨o,e,_,d⟩:h.IsListIter it a i:=x
    exact ⟨o,e,fun v q=> by rw [d] at q;cases q⟩
theorem HpAt.keep {k:Bool} {h h':Heap} {a:Addr} {xs:Array Value} (x:HpAt k h a xs) (y:∀o,h.get? a=some o→h'.get? a=some o):HpAt k h' a xs:=by
  cases k with
  | true=> exact Heap.IsTuple.at (show h.IsTuple a xs from x) y
  | false=> exact Heap.IsList.at (show h.IsList a xs from x) y
theorem HpAt.lt {k:Bool} {h:Heap} {a:Addr} {xs:Array Value} (x:HpAt k h a xs):a < h.objs.size:=by
  cases k with
  | true=> obtain ⟨o,e,_⟩:h.IsTuple a xs:=x;exact Heap.lt_size e
  | false=> obtain ⟨o,e,_⟩:h.IsList a xs:=x;exact Heap.lt_size e
structure EzSep (en z TI TO i1 i2 a b:Addr):Prop where
  S:ZipSep2 z TI TO i1 i2 [i1,a] [i2,b]
  ez:en≠z
  eT:en≠TI
  eO:en≠TO
  e1:en≠i1
  e2:en≠i2
  a1:a≠i1
  b2:b≠i2
def ezW (ws us:List W):List W:=N5 (List.zipWith (fun a b=> W.tup [a,b]) ws us)
def W.items:W→Option (List W)
  | .tup xs=> some xs
  | .lst xs=> some xs
  | _=> none
def iEz (t:B7):O7:=fun env h Q=> t env h fun ws env' h'=> match ws with
  | [a,b]=> match a.items,b.items with
    | some xs,some ys=> Q (ezW xs ys) env' h'
    | _,_=> False
  | _=> False
section
variable {X:Cx} {G:Gx} {e e2:Expr} {ta:B7} {p p2 pos pos2 tpos:Pos} {elts:List Expr} {kk:Nat}
theorem iEz.mono (m:A2 ta):A2 (iEz ta):=fun env h Q Q' k q=> m env h _ _ (fun ws e g z=> by
  split at z
  · split at z
    · exact k _ _ _ z
    · exact z
  · exact z) q
end
end Ab
namespace Ab
open PySem PySem.Spec PyProof.Rows L2 RZ
section
variable {X:Cx} {G:Gx} {a b:Expr} {ta tb:AT} {pos:Pos}
end
def B3k (K:PySem.W.Frag):V→V→Hp→VK→Prop:=fun x y H Q=> ∃p xs k z,x= .ref p∧y= .int k∧SqL K H p xs∧0≤k∧k < 2 ^ 63∧xs[k.toNat]? =some z∧Q z H
theorem B0l {X:Cx}:PGet X (B3k X.K):=by
  intro pins s σ H o i ov iv Q I ro ri h
  obtain ⟨p,xs,k,z,rfl,rfl,hq,k0,k1,he,q⟩:=h
  cases ro
  obtain ⟨t,rfl⟩:=ri
  obtain ⟨its,r,pl,hz⟩:=I.list hq
  obtain ⟨w,ew,rw'⟩:=r.get he
  exact wpAny_getItem_list pl.isList k0 k1 (by simpa using ew) ⟨z,H,I,rw',q⟩
def aAugS (f:Int→Int→Int) (to ti te:AT):B4:=fun D env h=> to env h fun ro env1 h1=> ti env1 h1 fun ri env2 h2=> match view env2 h2 ri with
  | .wv (.int k)=> (0≤k∧k < 2 ^ 62)∧(match K2 env2 h2 ro with
    | some (.seq xs)=> (match xs[k.toNat]? with
      | some (.int x)=> te env2 h2 fun re env3 h3=> (match view env3 h3 re with
        | .wv (.int y)=> (match K2 env3 h3 ro with
          | some (.seq ys)=> k.toNat < ys.length∧D.nx (W3 env3 ro (.seq (ys.set k.toNat (.int (f x y))))) (W4 h3 ro (.seq (ys.set k.toNat (.int (f x y)))))
          | _=> False)
        | _=> False)
      | _=> False)
    | _=> False)
  | _=> False
section
variable {X:Cx} {G:Gx} {o i e:Expr} {to ti te:AT} {tpos pos:Pos} {op:Operator} {f:Int→Int→Int}
theorem aAugS.mono (mo:A2 to) (mi:A2 ti) (me:A2 te):T4 (aAugS f to ti te):=fun D D' env h l q=> mo env h _ _ (fun ro e g z=> mi e g _ _ (fun ri e g z=> by
  split at z
  · refine ⟨z.1,?_⟩
    have z:=z.2
    split at z
    · split at z
      · refine me e g _ _ (fun re e g z=> ?_) z
        split at z
        · split at z
          · exact ⟨z.1,l.nx _ _ z.2⟩
          · exact z
        · exact z
      · exact z
    · exact z
  · exact z) z) q
theorem A7H (hp:PIp X op (ipI f)) (ho:AE X G o to) (hi:AE X G i ti) (he:AE X G e te)
    (ha:∀ov iv new,augStore i ov iv new=(do holding [new,ov,iv] (setItem ov iv new);release [new,ov,iv] [];pure .next):=by intros;rfl):AS X G (.AugAssign (.Subscript o i tpos) op e pos) (aAugS f to ti te):=by
  refine ⟨aAugS.mono ho.mono hi.mono he.mono,PS.imp (ps_augS ho.pe hi.pe B0l he.pe hp set_list ha) fun D σ H ⟨env,h,Da,S,q,l⟩=> ?_⟩
  refine ⟨env,h,S,ho.mono env h _ _ (fun ro env1 h1 z x H1 S1 x1 r1 f1=> ?_) q⟩
  refine ⟨env1,h1,S1,hi.mono env1 h1 _ _ (fun ri env2 h2 z y H2 S2 x2 r2 f2=> ?_) z⟩
  have ry:=r2.vr S2
  split at z
  · rename_i k ek
    rw [ek] at ry
    obtain ⟨⟨k0,k1⟩,z⟩:=z
    have ey:y= .int k:=ry.int
    split at z
    · rename_i xs ex
      obtain ⟨p,rfl,⟨us,lu,rl⟩,_⟩:=A1E S2 (r1.xt S1 x2) ex
      split at z
      · rename_i a ea
        obtain ⟨va,eva,rva⟩:=rl.get ea
        refine ⟨p,us,k,va,rfl,ey,.inl (.inl lu),k0,by omega,eva,env2,h2,S2,he.mono env2 h2 _ _ (fun re env3 h3 z w H3 S3 x3 r3 f3=> ?_) z⟩
        have rw3:=r3.vr S3
        split at z
        · rename_i y3 ey3
          rw [ey3] at rw3
          split at z
          · rename_i ys eys
            obtain ⟨p',ep,⟨us3,lu3,rl3⟩,put⟩:=A1E S3 (((r1.xt S1 x2)).xt S2 x3) eys
            cases ep
            obtain ⟨lt,z⟩:=z
            refine ⟨a,y3,rva.of_int,rw3.int,p,us3,k,k.toNat,rfl,ey,lu3,?_,?_⟩
            · have e1:us3.length=ys.length:=rl3.length.symm
              unfold ixN
              rw [if_pos k0,if_pos (by rw [e1];omega)]
            · obtain ⟨S4,x4⟩:=put (.lst (us3.set k.toNat (.int (f a y3)))) (.seq (ys.set k.toNat (.int (f a y3)))) fun kk=> ⟨_,upd_same,RepL.mono kk _ _ (rl3.set _ .int)⟩
              exact l.nx _ _ _ _ S4 ((x1.keeps S).trans ((x2.keeps S1).trans ((x3.keeps S2).trans (x4.keeps S3)))) z
          · exact z.elim
        · exact z.elim
      · exact z.elim
    · exact z.elim
  · exact z.elim
end
section
variable {X:Cx} {G:Gx} {a b:Expr} {ta tb:AT} {pos p p2 pos2:Pos}
end
def aExt (to te:AT):AT:=fun env h Q=> to env h fun ro env1 h1=> A8c (K2 env1 h1 ro)∧te env1 h1 fun re env2 h2=> match view env2 h2 re with
  | .cv (.seq ys)=> (match K2 env2 h2 ro with
    | some (.seq xs)=> xs.length+ys.length≤sizeLine∧Q (.val .non) (W3 env2 ro (.seq (xs++ys))) (W4 h2 ro (.seq (xs++ys)))
    | _=> False)
  | _=> False
section
variable {X:Cx} {G:Gx} {o e:Expr} {to te:AT} {apos cpos:Pos}
theorem aExt.mono (mo:A2 to) (me:A2 te):A2 (aExt to te):=fun env h Q Q' k q=> mo env h _ _ (fun ro e g ⟨i,z⟩=> ⟨i,me e g _ _ (fun re e g z=> by
  split at z
  · split at z
    · exact ⟨z.1,k _ _ _ z.2⟩
    · exact z
  · exact z) z⟩) q
end
end Ab
namespace Ab
open PySem PySem.Spec PyProof.Rows L2 RZ
def A4E (i:Nat) (t:AT):B4:=fun D env h=> t env h fun r env1 h1=> match r with
  | .own c=> D.nx (env1.set i (some (.own c))) h1
  | _=> False
section
variable {X:Cx} {G:Gx} {i:Nat} {y:Str} {py:Pos} {elt tg iter:Expr} {ifs:List Expr} {scope:Scope} {own:List (Str×Nat)} {pos spos:Pos} {ti:O7} {g:E7} {tt:E4} {te:B5} {sl:List Nat}
theorem B1E (hc:X.calm=true) (hN:X.N.Nodup) (hy:X.N[i]? =some y) (hk:X.env.scope.kind= .function) (hyl:X.env.scope.names.lookup y=some .local) (hi:AI X G tg iter ti) (ok:BlkOk X.N X.env.scope scope own) (hsl:∀i∈sl,i∈own.map (·.2))
    (hg:∀(s:Shared) (H:Hp) (C:Addr) (cl:List (Str×Addr)) (fp:List Addr),AG (X.blk s H scope (compEnvC scope cl C X.env) fp) G tg sl g) (ht:∀(s:Shared) (H:Hp) (C:Addr) (cl:List (Str×Addr)) (fp:List Addr),APs (X.blk s H scope (compEnvC scope cl C X.env) fp) G ifs tt)
    (he:∀(s:Shared) (H:Hp) (C:Addr) (cl:List (Str×Addr)) (fp:List Addr),AV (X.blk s H scope (compEnvC scope cl C X.env) fp) G elt te)
    (hl:(py.line==pos.line)=true:=by rfl) (hany:(scope.names.any fun (n,k)=> n==y && (k== .local || k== .cell))=false:=by rfl) (hs:∀x,foldedSetIterable iter X.env x=pure x:=by intro _;rfl):
    AS X G (.Assign [.Name y py] (.ListComp elt [⟨tg,iter,ifs,0⟩] scope pos) spos) (A4E i (e9 (own.map (·.2)) ti g tt te)):=by
  have mg:=(hg X.s_0 X.H_0 0 [] []).mono
  have mt:=(ht X.s_0 X.H_0 0 [] []).mono
  have me:=(he X.s_0 X.H_0 0 [] []).mono
  have mo:A2 (e9 (own.map (·.2)) ti g tt te):=fun env h Q Q' k q=> hi.mono env h _ _ (fun ws e1 h1 z=> lcLoop.mono mg mt me (fun a e h q=> k _ _ _ q) ws [] e1 h1 z) q
  refine ⟨fun D D' env h l q=> mo env h _ _ (fun r e k z=> ?_) q,PS.imp (ps_setLc hc hN hy hyl (sw_true hk hyl hl hany) hi.pi ok (fun s H C cl fp=> (hg s H C cl fp).pg) (fun s H C cl fp=> (ht s H C cl fp).pts) (fun s H C cl fp=> (he s H C cl fp).pe) hs) fun D σ H ⟨env,h,Da,S,q,l⟩=> ?_⟩
  · split at z
    · exact l.nx _ _ z
    · exact z
  · refine A7X hi hsl mg mt me ⟨env,h,S,mo env h _ _ (fun r env1 h1 z v H1 S1 x1 r1 f1=> ?_) q⟩
    split at z
    · exact l.nx _ _ _ _ (S1.set i r1 trivial) (x1.keeps S) z
    · exact z.elim
end
end Ab
namespace Ab
open PySem PySem.Spec PyProof.Rows L2 RZ
section
variable {X:Cx} {G:Gx} {es:List Expr} {k n:Nat} {u:i8} {sl:List Nat} {pos:Pos}
theorem PG.or {tg:Expr} {t t':TG} (a:PG X tg t) (b:PG X tg t'):PG X tg (fun v σ H Q=> t v σ H Q∨t' v σ H Q):=⟨fun pins s σ H v u Q I r q=> q.elim (fun z=> a.run pins s σ H v u Q I r z) fun z=> b.run pins s σ H v u Q I r z⟩
end
end Ab
namespace Ab
open PySem PySem.Spec PyProof.Rows L2 RZ
section
variable (l:Addr) (items:Array Value) (n:Nat) (dd:Option Addr) (sl:Array (Option Value)) (x:Int) (u:Tok)
abbrev A8v:Obj:={ cls:= .type "tuple",dict:=dd,data:= .seq items n,slots:=sl }
theorem B1G (u:Tok):Meets (Builtin.«tuple.__mul__» ⟨[.ref l,.int 1 u],[]⟩)
    (fun _ R s=> s.heap.get? l=some (A8v items n dd sl)∧R (.ok (.ret (Value.ref l))) s):=
  .of_wp fun prog w A R s h=> by
    obtain ⟨hp,g,d,tk,os⟩:=s
    obtain ⟨hl,h⟩:=h
    have f1:=AutoSeq1.idx_int
    have c0:(decide ((1:Int) < -(2 ^ 63)) || decide ((1:Int)≥2 ^ 63))=false:=by decide
    have c1:(items.isEmpty || (1:Int)==1)=true:=by simp
    wp_walk using wpAny_loadPart' hl
    repeat (first
      | (apply wpAny_ite_false (decide_eq_false (by rw [c0];decide));wp_walk using wpAny_loadPart' hl)
      | (apply wpAny_ite_true (decide_eq_true c1);wp_walk using wpAny_loadPart' hl))
    all_goals first | exact ⟨_,rfl,h⟩ | skip
theorem B1R (hx:x≤0) (hx2: -(2 ^ 63)≤x) (hi:items.isEmpty=false):Meets (Builtin.«tuple.__mul__» ⟨[.ref l,.int x u],[]⟩)
    (fun _ R s=> s.heap.get? l=some (A8v items n dd sl)∧
      R (.ok (.ret (Value.ref s.heap.objs.size))) { s with heap:=s.heap.push { cls:=Value.type "tuple",data:=Data.seq #[] },toks:=s.toks }):=
  .of_wp fun prog w A R s h=> by
    obtain ⟨hp,g,d,tk,os⟩:=s
    obtain ⟨hl,h⟩:=h
    have f1:=AutoSeq1.idx_int
    have c0:(decide (x < -(2 ^ 63)) || decide (x≥2 ^ 63))=false:=by
      rw [decide_eq_false (by omega),decide_eq_false (by omega)]
      rfl
    have c1:(items.isEmpty || x==1)=false:=by
      rw [hi,Bool.false_or]
      exact beq_eq_false_iff_ne.mpr (by omega)
    have c2:(decide (x≤0) || items.isEmpty)=true:=by
      rw [decide_eq_true hx]
      rfl
    wp_walk using wpAny_loadPart' hl
    repeat (first
      | (apply wpAny_ite_false (decide_eq_false (by rw [c0];decide));wp_walk using wpAny_loadPart' hl)
      | (apply wpAny_ite_false (decide_eq_false (by rw [c1];decide));wp_walk using wpAny_loadPart' hl)
      | (apply wpAny_ite_true (decide_eq_true c2);wp_walk using wpAny_loadPart' hl))
    all_goals first | exact ⟨_,rfl,h⟩ | skip
end
def A8F (K:PySem.W.Frag):R2:=fun x y H Q=> ∃l k xs,x= .ref l∧y= .int k∧SqT K H l xs∧xs≠[]∧ -(2 ^ 63)≤k∧k≤1000∧xs.length≤1000∧
  (k=1→Q (.ref l) H)∧(k≠1→∀p,H p=none→Q (.ref p) (upd H p (.tup (List.replicate k.toNat xs).flatten)))
theorem B2R {X:Cx}:OpR X (binaryOp .Mult) (A8F X.K):=by
  intro pins s σ H x y v u Q I rx ry h
  obtain ⟨l,k,xs,rfl,rfl,hT,hne,h1,h2,hz,q1,q⟩:=h
  by_cases k2:2≤k
  · exact op_repT pins s σ H _ _ v u Q I rx ry ⟨l,k,xs,rfl,rfl,hT,hne,k2,h2,hz,q (by omega)⟩
  cases rx
  obtain ⟨t,rfl⟩:=ry
  obtain ⟨its,r,⟨⟨cls,dd,data,sl⟩,ho,hc,n,hd⟩,hs⟩:=I.tuple hT
  simp only at hc hd
  subst hc hd
  have hle:its.length=xs.length:=r.length.symm
  have hi:its.toArray.isEmpty=false:=by
    cases its with
    | nil=> exact absurd (List.eq_nil_of_length_eq_zero hle.symm) hne
    | cons a b=> rfl
  have road:∀{R:Value→Shared→Prop} {E:Value→Shared→Prop},wpAny (model X.prog X.w) X.A (call (.builtin "tuple.__mul__") [.ref l,.int k t]) R E s→wpAny (model X.prog X.w) X.A (binaryOp .Mult (.ref l) (.int k t)) R E s:=fun {R E} z=>
    wpAny_binaryOp_repeat_ref (T:="tuple") (U:="int") (by decide) ⟨_,ho,rfl⟩ (fun s'=> typeIs_int s' k t) noFill_tuple_mul F.fills_int_mul F.slot_int_rmul repeat_tuple F.slot_int_index.lookup
      (call_meets F.slot_int_rmul (typeIs_int s k t) F.entry_int_rmul (F.args_int_rmul_2 _ _) (int_rmul_tuple k t l its.toArray n dd sl) ⟨ho,rfl,⟨_,ho,rfl⟩,z⟩)
  by_cases k1:k=1
  · subst k1
    exact road (call_meets F.slot_tuple_mul ⟨_,ho,rfl⟩ F.entry_tuple_mul (F.args_tuple_mul_2 _ _) (B1G l its.toArray n dd sl t) ⟨ho,.ref l,H,I,rfl,q1 rfl⟩)
  · refine road (call_meets F.slot_tuple_mul ⟨_,ho,rfl⟩ F.entry_tuple_mul (F.args_tuple_mul_2 _ _) (B1R l its.toArray n dd sl k t (by omega) h1 hi) ⟨ho,?_⟩)
    have ek:k.toNat=0:=by omega
    have z:=q k1 s.heap.objs.size (I.hok.fresh (Nat.le_refl _))
    rw [ek] at z
    exact ⟨.ref s.heap.objs.size,_,I.laid (t':=s.toks) (o:= .tup []) (fun b ob q=> Heap.get?_push_of_some _ q) (Nat.le_refl _) ⟨by decide,_,.nil,IsTup.new _ _⟩,rfl,z⟩
def oMulT:E9:=fun a b Q=> match b with
  | .wv (.int j)=> match a with
    | .wv (.int i)=> CMulW i j∧Q (.val (.int (i*j)))
    | .cv (.seq xs)=> (-(2 ^ 63)≤j∧j < 2 ^ 63∧xs.length*j.toNat≤sizeLine)∧Q (.own (.seq (List.replicate j.toNat xs).flatten))
    | .wv (.tup xs)=> (-(2 ^ 63)≤j∧j≤1000∧1≤xs.length∧xs.length≤1000)∧Q (.val (.tup (List.replicate j.toNat xs).flatten))
    | _=> False
  | _=> False
theorem oMulT.mono (a b:Vw) (Q Q':RV→Prop) (k:∀r,Q r→Q' r) (q:oMulT a b Q):oMulT a b Q':=by
  unfold oMulT at q ⊢
  split at q
  · split at q
    · exact ⟨q.1,k _ q.2⟩
    · exact ⟨q.1,k _ q.2⟩
    · exact ⟨q.1,k _ q.2⟩
    · exact q
  · exact q
theorem B1I {K:PySem.W.Frag}:OpA K (fun x y H Q=> (rI CMulW (fun i j=> .int (i*j)) x y H Q∨rRep x y H Q)∨A8F K x y H Q) oMulT:=
  ⟨oMulT.mono,fun a b x y H Q0 Q ra rb q k=> by
    unfold oMulT at q
    split at q
    · rename_i j
      have ey:y= .int j:=rb.int
      split at q
      · rename_i i
        have ex:x= .int i:=ra.int
        exact .inl (.inl ⟨i,j,ex,ey,q.1,k _ _ (.val q.2 .int)⟩)
      · rename_i xs
        obtain ⟨p,ex,vs,l,rl⟩:=ra
        exact .inl (.inr ⟨p,j,vs,ex,ey,l,q.1.1,q.1.2.1,by rw [←rl.length];exact q.1.2.2,fun p' n=> k _ _ (.lst n q.2 (rl.rep _))⟩)
      · rename_i xs
        obtain ⟨p,vs,ex,l,rl⟩:=Rep.of_tupT (K:=K) (H:=H) ra
        refine .inr ⟨p,j,vs,ex,ey,l.sq,fun e=> ?_,q.1.1,q.1.2.1,by rw [←rl.length];exact q.1.2.2.2,fun e=> ?_,fun _ p' n=> k _ _ (.tup n q.2 (rl.rep _))⟩
        · have:=rl.length
          rw [e] at this
          have:=q.1.2.2.1
          simp_all
        · subst e
          have q2:=q.2
          rw [show (1:Int).toNat=1 from rfl] at q2
          simp only [List.replicate,List.flatten_cons,List.flatten_nil,List.append_nil] at q2
          exact k _ _ (.val q2 (.tup l rl))
      · exact q.elim
    · exact q.elim⟩
theorem V0 {X:Cx} {G:Gx} {a b:Expr} {ta tb:AT} {pos:Pos} (gk:G.K=X.K) (ha:AE X G a ta) (hb:AE X G b tb):AE X G (.BinOp a .Mult b pos) (aOp2 oMulT ta tb):=A1I ((op_mulW.or op_rep).or B2R) (gk▸B1I) ha hb
end Ab
namespace HT
open PySem PySem.Spec PyProof.Rows
section
variable {prog:Program} {w:World} {A:Around} {E:Value→Shared→Prop} {s:Shared}
end
end HT
namespace Ab
open PySem PySem.Spec PyProof.Rows L2 RZ
section
variable {X:Cx} {e st:Expr} {te ts:TE} {pos p2:Pos}
end
theorem RepL.reverse {K:PySem.W.Frag} {H:Hp}:∀{ws:List W} {vs:List V},RepL K H ws vs→RepL K H ws.reverse vs.reverse
  | [],vs,h=> by rw [h.of_nil];exact .nil
  | w::ws,vs,h=> by
    obtain ⟨v,r,rfl,a,t⟩:=h.of_cons
    rw [List.reverse_cons,List.reverse_cons]
    exact t.reverse.append (.cons a .nil)
def oBack:G5:=fun as Q=> match as with
  | [.wv (.tup xs),.wv (.int i)]=> i= -1∧Q (.val (.tup xs.reverse))
  | _=> False
theorem oBack.mono {as:List Vw} {Q Q':RV→Prop} (k:∀r,Q r→Q' r) (q:oBack as Q):oBack as Q':=by
  unfold oBack at q ⊢
  split at q
  · exact ⟨q.1,k _ q.2⟩
  · exact q.elim
section
variable {X:Cx} {G:Gx} {a st:Expr} {ta ts:AT} {pos p2:Pos}
end
end Ab
namespace Ab
open PySem PySem.Spec PyProof.Rows L2 RZ
def ins (a:Int):List Int→List Int
  | []=> [a]
  | b::r=> if a≤b then a::b::r else b::ins a r
def srt:List Int→List Int
  | []=> []
  | a::r=> ins a (srt r)
def A7C:G5:=oInts fun ns Q=> Q (.own (.seq ((srt ns).map W.int)))
end Ab
namespace Ab
open PySem PySem.Spec PyProof.Rows L2 RZ
section
variable {G:Gx} {env env' env2:A0} {h h':AH} {σ:L2.St} {H H1 H2:Hp} {p:Addr}
end
def A4k {α:Type}:List (α×α)→List α
  | []=> []
  | p::r=> p.1::p.2::A4k r
structure AD (X:Cx) (G:Gx) (pos:Pos) (keys:List (Option Expr)) (values:List Expr) (t:B7):Prop where
  mono:A2 t
  all:keys.all (·.isSome)=true
  len:keys.length=values.length
  pp:∃trs,PPs X pos keys values trs∧∀σ H Q env h,BS G env h σ H→(t env h fun ws env' h'=> ∀ps H',BS G env' h' σ H'→Xt env h σ H env' h' H'→RepL G.K H' ws (A4k ps)→Q ps H')→tPairs trs σ H Q
section
variable {X:Cx} {G:Gx} {pos:Pos}
end
end Ab
namespace Ab
open PySem PySem.Spec PyProof.Rows L2 RZ
def A8Z (kvs:List (W×W)) (k:Key) (d:W):W:=((kvs.find? fun p=> decide (d5 p.1=some k)).map (·.2)).getD d
def A8H (kvs:List (W×W)):Prop:=kvs≠[]∧∀p∈kvs,(d5 p.1).isSome=true
def aGetD (i:Nat) (tk td:B5):AT:=fun env h Q=> (∃kvs,env[i]? =some (some (.own (.map kvs))))∧tk env h fun w env1 h1=> td env1 h1 fun d env2 h2=>
  ∃kvs key,env2[i]? =some (some (.own (.map kvs)))∧A8H kvs∧d5 w=some key∧Q (.val (A8Z kvs key d)) env2 h2
theorem aGetD.mono {i:Nat} {tk td:B5} (m:A2 tk) (n:A2 td):A2 (aGetD i tk td):=fun env h Q Q' k q=>
  ⟨q.1,m env h _ _ (fun w e g z=> n e g _ _ (fun d e g ⟨kvs,key,z1,z2,z3,z4⟩=> ⟨kvs,key,z1,z2,z3,k _ _ _ z4⟩) z) q.2⟩
section
variable {X:Cx} {G:Gx}
end
end Ab
namespace Ab
open PySem PySem.Spec PyProof.Rows L2 RZ
section
variable {X:Cx} {G:Gx}
def aPrm (t:AT):B5:=fun env h Q=> t env h fun r env' h'=> match r with
  | .own c=> ∀p,h' p=none→Q (.ref p) env' (C9 h' p (.cont c))
  | _=> False
theorem aPrm.mono {t:AT} (m:A2 t):A2 (aPrm t):=fun env h Q Q' k q=> m env h _ _ (fun r e g z=> by
  cases r with
  | own c=> exact fun p n=> k _ _ _ (z p n)
  | val w=> exact z.elim
  | slot i=> exact z.elim) q
theorem A2f {e:Expr} {t:AT} (a:AE X G e t):AV X G e (aPrm t):=by
  refine ⟨aPrm.mono a.mono,PE.imp a.pe fun σ H Q ⟨env,h,S,q⟩=> ?_⟩
  refine ⟨env,h,S,a.mono env h _ _ (fun r env1 h1 z v H1 S1 x1 r1 f1=> ?_) q⟩
  cases r with
  | val w=> exact z.elim
  | slot i=> exact z.elim
  | own c=>
    obtain ⟨p,rfl,cr,n,n0,no⟩:=r1
    have fr:H p=none:=f1 p rfl
    refine z p n (.ref p) H1 ⟨S1.len,S1.val,fun j d z=> ?_,S1.uni,fun a o z=> ?_,S1.fr,fun a o z y=> ?_,S1.tr,S1.tabs⟩ ⟨x1.fr,fun q o z y=> ?_,x1.th,x1.sl⟩ .ref
    · obtain ⟨q,a,b,x,y⟩:=S1.own j d z
      have nq:q≠p:=fun z2=> no ⟨j,d,z,by rw [a,z2]⟩
      exact ⟨q,a,b,by rw [L8 nq];exact x,y⟩
    · by_cases ha:a=p
      · subst ha;rw [Q8] at z;cases z;exact cr
      · rw [L8 ha] at z;exact S1.hp a o z
    · by_cases ha:a=p
      · subst ha;exact n0
      · rw [L8 ha] at z;exact S1.ext a o z y
    · by_cases hq:q=p
      · subst hq;exact fr
      · rw [L8 hq] at z;exact x1.hn q o z y
def B2t (h:AH) (p:Addr):AH:=fun b=> if b=p then none else h b
def demL:List W→AH→(List W→AH→Prop)→Prop
  | [],h,Q=> Q [] h
  | w::ws,h,Q=> match w with
    | .ref p=> (match h p with
      | some (.cont c)=> demL ws (B2t h p) fun us h'=> Q (c.fz::us) h'
      | _=> False)
    | _=> False
theorem demL.mono:∀{ws:List W} {h:AH} {Q Q':List W→AH→Prop},(∀us h',Q us h'→Q' us h')→demL ws h Q→demL ws h Q'
  | [],h,Q,Q',k,q=> k _ _ q
  | w::ws,h,Q,Q',k,q=> by
    cases w with
    | ref p=>
      unfold demL at q ⊢
      dsimp only at q ⊢
      split at q
      · exact demL.mono (fun us h' q=> k _ _ q) q
      · exact q.elim
    | _=> exact q.elim
end
end Ab
namespace Ab
open PySem PySem.Spec PyProof.Rows L2 LamX
def d3 (f:Addr) (q:Str) (params:Arguments) (body:Expr) (scope:Scope) (cl:List (Str×Addr)) (c:Addr):HO:=
  .ext fun h=> ∃pm ctv:Value,h.get? f=some (PySem.W.kla_obj "<lambda>" q params body scope cl pm c ctv)
theorem A3u {f c:Addr} {q:Str} {params:Arguments} {body:Expr} {scope:Scope} {cl:List (Str×Addr)}:NT (d3 f q params body scope cl c):=fun ps e=> by
  unfold d3 at e;cases e
theorem A2E {c:Addr} {q:Str}:NT (CodeO c q):=fun ps e=> by
  unfold CodeO at e;cases e
section
variable {X:Cx} {pins:List (Addr×Obj)} {σ:L2.St} {H:Hp} {s:Shared} {T:List (Addr×Str)} {c P:Addr} {params:Arguments} {body:Expr} {scope:Scope} {pos:Pos}
structure Made (X:Cx) (T:List (Addr×Str)) (P:Addr) (params:Arguments) (body:Expr) (scope:Scope) (H H1:Hp) (f c:Addr):Prop where
  but:∀b o,H b=some o→b≠P→H1 b=some o
  tab:∃ps,H1 P=some (.tbl ps)
  tabs:Tabs T H1
  new:H f=none
  lam:H1 f=some (d3 f (X.env.qual++"<lambda>") params body scope (cloFrom X.env.cells scope.names []) c)
  code:H1 c=some (CodeO c (X.env.qual++"<lambda>"))
theorem A6l {h':Heap} {H1:Hp} {c':Addr} {pm ctv:Value} {tk:Nat} {cl:List (Str×Addr)} {q:Str} (I:Inv X pins σ H1 { s with heap:=h',toks:=tk }):
    Inv X pins σ (upd H1 h'.objs.size (d3 h'.objs.size q params body scope cl c')) { s with heap:=h'.push (PySem.W.kla_obj "<lambda>" q params body scope cl pm c' ctv),toks:=tk }:=
  I.laid (a:=h'.objs.size) (t':=tk) (fun b u e=> Heap.get?_push_of_some _ e) (Nat.le_refl _) ⟨⟨pm,ctv,Heap.get?_push_size _ rfl⟩,⟨_,Heap.get?_push_size _ rfl⟩,fun h1 h2 ⟨a,b,e⟩ st=> ⟨a,b,st _ e⟩⟩
theorem B1p {E:Value→Shared→Prop} {Q:Value→Shared→Prop} (I:Inv X pins σ H s) (TB:TabB X.base X.mg c P) (hcode:X.env.code= .ref c)
    (hm:(P,X.env.qual++"<lambda>")∈T) (hu:∀p∈T,p.1=P→p.2=X.env.qual++"<lambda>") (hT:Tabs T H) (hdef:defaultsOf params X.env=([],[])) (hfree:∀y∈scope.names,y.2= .free→∃c,X.env.cells.lookup y.1=some c)
    (h:∀(f c':Addr) (H1:Hp) (s':Shared),Inv X pins σ H1 s'→Made X T P params body scope H H1 f c'→Q (.ref f) s'):
    wpAny (model X.prog X.w) X.A (eval (.Lambda params body scope pos) X.env) Q E s:=by
  obtain ⟨ps,hP,ht,ha⟩:=hT _ hm
  refine PySem.W.kla_eval hdef ?_
  have bP:s.heap.BuiltinsAt X.mg P:=TB.bm.keeps I.bk
  have oP:s.heap.get? P=some { cls:= .none,data:= .fields ps }:=I.hok P _ hP
  have gl:=I.mod.glob.keeps I.bk
  have ch:=TB.code.keeps I.bk
  have clo:=closure_ok hfree
  cases hc:codeAmong pos ps.toList with
  | some cv=>
    obtain ⟨c',e,hco⟩:=ha pos cv hc
    subst e
    refine PySem.W.kla_makeFunctionHit (c:=c) (ps:=ps) clo I.ok.glob gl hcode ch oP ht hc bP fun ctv h' tk hx hsz=> ?_
    have J:=A6l (params:=params) (body:=body) (scope:=scope) (c':=c') (pm:=(X.mg "__name__").getD .none) (ctv:=ctv) (cl:=cloFrom X.env.cells scope.names []) (q:=X.env.qual++"<lambda>") (I.kept (t':=tk) hx)
    have nf:H h'.objs.size=none:=I.hok.fresh hsz
    have st:∀b o,H b=some o→upd H h'.objs.size (d3 h'.objs.size (X.env.qual++"<lambda>") params body scope (cloFrom X.env.cells scope.names []) c') b=some o:=fun b o e=> by
      rw [upd_ne (ne_of_none e nf)];exact e
    exact h _ c' _ _ J ⟨fun b o e _=> st b o e,⟨ps,st _ _ hP⟩,hT.ext st,nf,upd_same,st _ _ hco⟩
  | none=>
    refine PySem.W.kla_makeFunction (c:=c) (ps:=ps) clo I.ok.glob gl hcode ch oP ht hc TB.gP bP fun c' ctv h' tk hx hge hlt hrec htb=> ?_
    obtain ⟨c2,oc,vs,t,e2,hoc,hd,hv⟩:=hrec
    cases e2
    have nC:H c'=none:=I.hok.fresh hge
    have J0:=inv_table (t':=tk) (q:=X.env.qual++"<lambda>") (more:=#[rawInt pos.line,rawInt pos.col,.ref c']) I hP hx htb hge ⟨oc,vs,t,hoc,hd,hv⟩
    have J:=A6l (params:=params) (body:=body) (scope:=scope) (c':=c') (pm:=(X.mg "__name__").getD .none) (ctv:=ctv) (cl:=cloFrom X.env.cells scope.names []) (q:=X.env.qual++"<lambda>") J0
    have sz:s.heap.objs.size≤h'.objs.size:=Nat.le_trans hge (Nat.le_of_lt hlt)
    have nf:H h'.objs.size=none:=I.hok.fresh sz
    have fc:c'≠h'.objs.size:=Nat.ne_of_lt hlt
    have fP:P≠h'.objs.size:=Nat.ne_of_lt (Nat.lt_of_lt_of_le (Heap.lt_size oP) sz)
    have cP:P≠c':=ne_of_none hP nC
    have st:∀b o,H b=some o→b≠P→upd (upd (upd H P (.tbl (ps++#[rawInt pos.line,rawInt pos.col,.ref c']))) c' (CodeO c' (X.env.qual++"<lambda>"))) h'.objs.size (d3 h'.objs.size (X.env.qual++"<lambda>") params body scope (cloFrom X.env.cells scope.names []) c') b=some o:=fun b o e n=> by
      rw [upd_ne (ne_of_none e nf),upd_ne (ne_of_none e nC),upd_ne n];exact e
    have aC:upd (upd (upd H P (.tbl (ps++#[rawInt pos.line,rawInt pos.col,.ref c']))) c' (CodeO c' (X.env.qual++"<lambda>"))) h'.objs.size (d3 h'.objs.size (X.env.qual++"<lambda>") params body scope (cloFrom X.env.cells scope.names []) c') c'=some (CodeO c' (X.env.qual++"<lambda>")):=by
      rw [upd_ne fc,upd_same]
    have aP:upd (upd (upd H P (.tbl (ps++#[rawInt pos.line,rawInt pos.col,.ref c']))) c' (CodeO c' (X.env.qual++"<lambda>"))) h'.objs.size (d3 h'.objs.size (X.env.qual++"<lambda>") params body scope (cloFrom X.env.cells scope.names []) c') P=some (.tbl (ps++#[rawInt pos.line,rawInt pos.col,.ref c'])):=by
      rw [upd_ne fP,upd_ne cP,upd_same]
    refine h _ c' _ _ J ⟨st,⟨_,aP⟩,fun p hp=> ?_,nf,upd_same,aC⟩
    have eL:(ps++#[rawInt pos.line,rawInt pos.col,Value.ref c']).toList=ps.toList++[rawInt pos.line,rawInt pos.col,.ref c']:=by simp
    by_cases hb:p.1=P
    · refine ⟨_,by rw [hb];exact aP,by rw [eL];exact PySem.TriplesOk_snoc _ _ _ _ ht,fun p' cv z=> ?_⟩
      rw [eL] at z
      rw [hu p hp hb]
      rcases among_app _ ht z with z | z
      · obtain ⟨c0,e1,e2⟩:=ha p' cv z
        refine ⟨c0,e1,st _ _ e2 fun y=> ?_⟩
        rw [y,hP] at e2
        exact A2E _ (Option.some.inj e2).symm
      · exact ⟨c',z,aC⟩
    · obtain ⟨ps',a1,a2,a3⟩:=hT p hp
      refine ⟨ps',st _ _ a1 hb,a2,fun p' cv z=> ?_⟩
      obtain ⟨c0,e1,e2⟩:=a3 p' cv z
      refine ⟨c0,e1,st _ _ e2 fun y=> ?_⟩
      rw [y,hP] at e2
      exact A2E _ (Option.some.inj e2).symm
def B3o (X:Cx) (T:List (Addr×Str)) (P:Addr) (params:Arguments) (body:Expr) (scope:Scope):TE:=fun _ H Q=> Tabs T H∧∀f c' H1,Made X T P params body scope H H1 f c'→Q (.ref f) H1
theorem B1x (TB:TabB X.base X.mg c P) (hcode:X.env.code= .ref c) (hm:(P,X.env.qual++"<lambda>")∈T) (hu:∀p∈T,p.1=P→p.2=X.env.qual++"<lambda>") (hdef:defaultsOf params X.env=([],[]))
    (hfree:X.Ok→∀y∈scope.names,y.2= .free→∃c,X.env.cells.lookup y.1=some c):PE X (.Lambda params body scope pos) (B3o X T P params body scope):=
  ⟨fun pins s σ H Q I ⟨hT,h⟩=> B1p I TB hcode hm hu hT hdef (hfree I.ok) fun f c' H1 s' I1 M=> ⟨.ref f,H1,I1,rfl,h f c' H1 M⟩⟩
end
end Ab
namespace Ab
open PySem PySem.Spec PyProof.Rows L2 LamX
abbrev m9:=A0→AH→(Addr→List W→A0→AH→Prop)→Prop
def B3X (t:m9):Prop:=∀env h Q Q',(∀f ws e k,Q f ws e k→Q' f ws e k)→t env h Q→t env h Q'
def s4 (t:B7):m9:=fun env h Q=> ∀f:Addr,t env h fun ws env1 h1=> Q f (.ref f::ws) env1 h1
structure LamD where
  params:Arguments
  body:Expr
  scope:Scope
def LamF (X:Cx) (d:LamD) (H:Hp) (f:Addr):Prop:=
  ∃c,H f=some (d3 f (X.env.qual++"<lambda>") d.params d.body d.scope (cloFrom X.env.cells d.scope.names []) c)∧H c=some (CodeO c (X.env.qual++"<lambda>"))
def cL (X:Cx) (G:Gx) (d:LamD) (t:m9):TA:=fun σ H Q=> ∃env h,BS G env h σ H∧t env h fun f ws env' h'=> ∀vs H',BS G env' h' σ H'→Xt env h σ H env' h' H'→RepL G.K H' ws vs→LamF X d H' f→Q vs H'
structure AL (X:Cx) (G:Gx) (d:LamD) (es:List Expr) (n:Nat) (t:m9):Prop where
  mono:B3X t
  pa:PA X es (cL X G d t)
  ln:∀env h (R:Addr→List W→A0→AH→Prop),t env h R→t env h fun f ws e g=> ws.length=n∧R f ws e g
theorem BS.nmu {G:Gx} {env:A0} {h:AH} {σ:L2.St} {H:Hp} (S:BS G env h σ H) {p:Addr} {o:HO} (e:H p=some o) (i:¬Mu o):h p=none∧¬OwnAt env σ p:=by
  refine ⟨?_,fun ⟨j,c,a,b⟩=> ?_⟩
  · cases q:h p with
    | none=> rfl
    | some u=>
      obtain ⟨o',e',m⟩:=(S.hp p u q).there
      rw [e] at e';cases e'
      exact absurd m i
  · obtain ⟨p',b',cr,_⟩:=S.own j c a
    rw [b] at b';cases b'
    exact i (cr.mu_at e)
theorem BS.but {G:Gx} {env:A0} {h:AH} {σ:L2.St} {H H1:Hp} (S:BS G env h σ H) (b:∀p o,H p=some o→NT o→H1 p=some o) (th:∀p o,H p=some o→∃u,H1 p=some u) (t:TabsK G.K H1):
    BS G env h σ H1∧Xt env h σ H env h H1:=by
  have k:Keeps H H1:=fun p o e i=> b p o e i.nt
  refine ⟨⟨S.len,fun i w e=> ?_,fun i c e=> ?_,S.uni,fun a o e=> ?_,fun p o e n y=> b p o (S.fr p o e n y) y,S.ext,fun p o e=> ?_,t⟩,⟨fun p o e _ _ y=> b p o e y,fun p o e n=> (by rw [n] at e;cases e),th,fun i c e=> ⟨c,e⟩⟩⟩
  · obtain ⟨v,x,y⟩:=S.val i w e
    exact ⟨v,x,Rep.mono k w v y⟩
  · obtain ⟨p,x,y,n,n0⟩:=S.own i c e
    obtain ⟨o,eo,m⟩:=y.there
    exact ⟨p,x,y.mono k ((b p o eo m.nt).trans eo.symm),n,n0⟩
  · obtain ⟨u,eu,m⟩:=(S.hp a o e).there
    exact (S.hp a o e).mono k ((b a u eu m.nt).trans eu.symm)
  · obtain ⟨u,y⟩:=S.tr p o e
    exact th p u y
section
variable {X:Cx} {G:Gx} {d:LamD} {e:Expr} {es:List Expr} {c P:Addr} {pos:Pos} {n:Nat}
theorem A6F {f c:Addr} {q:Str} {params:Arguments} {body:Expr} {scope:Scope} {cl:List (Str×Addr)}:¬Mu (d3 f q params body scope cl c):=fun z=> z
theorem A59 {c:Addr} {q:Str}:¬Mu (CodeO c q):=fun z=> z
theorem LamF.xt {env env':A0} {h h':AH} {σ:L2.St} {H H':Hp} {f:Addr} (S:BS G env h σ H) (x:Xt env h σ H env' h' H') (l:LamF X d H f):LamF X d H' f:=by
  obtain ⟨c,a,b⟩:=l
  obtain ⟨a1,a2⟩:=S.nmu a A6F
  obtain ⟨b1,b2⟩:=S.nmu b A59
  exact ⟨c,x.fr _ _ a a1 a2 A3u,x.fr _ _ b b1 b2 A2E⟩
structure LamAt (X:Cx) (d:LamD) (c P:Addr):Prop where
  TB:TabB X.base X.mg c P
  code:X.env.code= .ref c
  mem:(P,X.env.qual++"<lambda>")∈A0E X.K
  uni:∀p∈A0E X.K,p.1=P→p.2=X.env.qual++"<lambda>"
  dfl:defaultsOf d.params X.env=([],[])
  free:X.Ok→∀y∈d.scope.names,y.2= .free→∃c,X.env.cells.lookup y.1=some c
theorem B2Q {t:B7} (gk:G.K=X.K) (L:LamAt X d c P) (b:AN X G es n t) (hs:starEach (.Lambda d.params d.body d.scope pos::es) X.env=(false,eval (.Lambda d.params d.body d.scope pos) X.env)::starEach es X.env:=by rfl):
    AL X G d (.Lambda d.params d.body d.scope pos::es) (n+1) (s4 t):=by
  refine ⟨fun env h Q Q' k q f=> b.aa.mono env h _ _ (fun ws e g z=> k _ _ _ _ z) (q f),PA.imp (pa_cons (B1x (T:=A0E X.K) L.TB L.code L.mem L.uni L.dfl L.free) b.aa.pa hs) fun σ H Q ⟨env,h,S,q⟩=> ?_,fun env h R q f=> b.aa.mono env h _ _ (fun ws e g ⟨l,z⟩=> ⟨by rw [List.length_cons,l],z⟩) (b.ln env h _ (q f))⟩
  have tb:TabsK X.K H:=gk▸S.tabs
  obtain ⟨ps,hP,_⟩:=tb _ L.mem
  refine ⟨tb,fun f c' H1 M=> ?_⟩
  have bt:∀p o,H p=some o→NT o→H1 p=some o:=fun p o e y=> M.but p o e fun z=> by
    rw [z,hP] at e
    exact y ps (Option.some.inj e).symm
  have th:∀p o,H p=some o→∃u,H1 p=some u:=fun p o e=> by
    by_cases z:p=P
    · obtain ⟨ps',y⟩:=M.tab
      exact ⟨_,z▸y⟩
    · exact ⟨o,M.but p o e z⟩
  have tb1:TabsK G.K H1:=gk▸M.tabs
  obtain ⟨S1,x1⟩:=S.but bt th tb1
  refine ⟨env,h,S1,b.aa.mono env h _ _ (fun ws env2 h2 z vs H2 S2 x2 r2=> ?_) (q f)⟩
  exact z (.ref f::vs) H2 S2 (x1.trans x2) (.cons .ref r2) (LamF.xt S1 x2 ⟨c',M.lam,M.code⟩)
end
structure LamP (sc scope:Scope) (N ps:List Str):Prop where
  kind:scope.kind= .function
  co:scope.isCoroutine=false
  gen:scope.isGenerator=false
  own:∀y∈scope.names,y.2≠ .cell∧(y.2= .local→y.1∈ps)
  par:∀x∈ps,scope.names.lookup x=some .local∧x∉N
  nd:ps.Nodup
  free:∀y∈scope.names,y.2= .free→sc.names.lookup y.1=some .cell∨sc.names.lookup y.1=some .free
theorem LamP.has {X:Cx} {scope:Scope} {N ps:List Str} (L:LamP X.env.scope scope N ps) (ok:X.Ok):∀y∈scope.names,y.2= .free→∃c,X.env.cells.lookup y.1=some c:=fun y hy e=>
  (L.free y hy e).elim (fun k=> ok.has _ (.inl k)) fun k=> ok.has _ (.inr k)
abbrev m5 (X:Cx) (A:Around) (outer:List Env) (s:Shared) (H:Hp) (E:XK) (scope:Scope) (f c:Addr) (ps:List Str):Cx:={ lamCx X A outer s H E scope f c with N:=X.N++ps }
theorem A6p {us:List Value}:∀{ps:List Str} {us:List Value} {j:Nat} {x:Str} {u:Value},ps.Nodup→ps[j]? =some x→us[j]? =some u→(ps.zip us).reverse.lookup x=some u
  | [],_,_,_,_,_,e,_=> by simp at e
  | p::ps,[],_,_,_,_,_,e=> by simp at e
  | p::ps,v::us,0,x,u,nd,e1,e2=> by
    simp at e1 e2
    subst e1 e2
    have z:(ps.zip us).reverse.lookup p=none:=by
      rw [List.lookup_eq_none_iff]
      intro y hy
      have m:=List.of_mem_zip (List.mem_reverse.mp hy)
      rw [bne_iff_ne]
      intro e
      exact (List.nodup_cons.mp nd).1 (e▸m.1)
    rw [List.zip_cons_cons,List.reverse_cons,List.lookup_append,z]
    simp
  | p::ps,v::us,j+1,x,u,nd,e1,e2=> by
    rw [List.zip_cons_cons,List.reverse_cons,List.lookup_append,A6p (us:=us) (List.nodup_cons.mp nd).2 (by simpa using e1) (by simpa using e2)]
    rfl
end Ab
namespace Ab
open PySem PySem.Spec PyProof.Rows L2 LamX
section
variable {X:Cx} {pins:List (Addr×Obj)} {σ:L2.St} {H HZ:Hp} {s s1:Shared}
theorem t6 {scope:Scope} {N ps:List Str} (L:LamP X.env.scope scope N ps) (ok:X.Ok) {y:Str} {c:Addr} (e:(cloFrom X.env.cells scope.names []).lookup y=some c):X.env.cells.lookup y=some c:=by
  rcases cloFrom_mem (PySem.mem_of_lookup e) with m | ⟨a,b⟩
  · cases m
  · obtain ⟨c1,k⟩:=L.has ok _ a rfl
    have k:X.env.cells.lookup y=some c1:=k
    have z:c=c1:=by rw [b,k] <;> rfl
    rw [z];exact k
theorem A6W {scope:Scope} {y:Str} (h:scope.names.lookup y=some .free):∃c,(cloFrom X.env.cells scope.names []).lookup y=some c:=by
  have m:(y,NameKind.free)∈scope.names:=PySem.mem_of_lookup h
  exact mem_lookup (cloFrom_has (cells:=X.env.cells) (acc:=[]) m)
theorem B0p {A:Around} {outer:List Env} {E:XK} {scope:Scope} {f c:Addr} {ps:List Str} {g:Heap} {tk:Nat} {us:List Value} {vs:List V} (I:Inv X pins σ H s) (L:LamP X.env.scope scope X.N ps) (e0:Env0 X.prog X.w X.K X.mg X.base A outer s1 HZ) (hd:A.handled=none)
    (un:Un (frs X.stack) [] H HZ s.heap s1.heap) (hns:g.Ns s1.heap.objs.size fun y=> (ps.zip us).reverse.lookup y) (kp:∀b o,s1.heap.get? b=some o→g.get? b=some o) (rv:Vals vs us) (hl:vs.length=ps.length):
    Inv (m5 X A outer s1 HZ E scope f c ps) [] (σ++vs.map some) HZ { s1 with heap:=g,toks:=tk }:=by
  have cellK:∀{b:Addr} {v:Option Value},H b=none→s.heap.IsCell b v→g.IsCell b v:=fun {b v} n ⟨o,ho,hd⟩=> by
    obtain ⟨sl,q⟩:=un.any ho n (by simp)
    exact ⟨_,kp _ _ q,hd⟩
  have noA:∀b:Addr,b∉(m5 X A outer s1 HZ E scope f c ps).ex:=fun b z=> by
    have z:b∈([]:List Addr):=z
    cases z
  have okX:(m5 X A outer s1 HZ E scope f c ps).Ok:=
    { mod:=e0.mod,kind:=L.kind,glob:=rfl,blt:=rfl,above:=Nat.le_refl _
      inj:=fun y z b e1 e2=> I.ok.inj y z b (t6 L I.ok e1) (t6 L I.ok e2)
      has:=fun y hy=> by
        have hy:scope.names.lookup y=some .cell∨scope.names.lookup y=some .free:=hy
        rcases hy with hy | hy
        · exact absurd rfl (L.own _ (PySem.mem_of_lookup hy)).1
        · exact A6W hy
      cab:=fun y b z _=> by
        have z:false=true:=z
        cases z
      hd:=fun _=> hd,frames:=Around.frames_deeper e0.frames,stk:= .inr ⟨rfl,rfl⟩,exf:=fun b z=> absurd z (noA b),bs:=e0.bs,bsz:=e0.bsz,noex:=fun b _ _=> noA b,exfs:=fun b z=> absurd z (noA b),funs:=e0.funs,frf:=e0.frf }
  refine { ok:=okX,os:=rfl,bare:=e0.bare,base:=Un.kept kp,loc:=⟨_,hns,fun i y v e1 e2 e3=> ?_⟩,cell:=fun y b e=> ?_,free:=e0.hok.fresh (Nat.le_refl _),freeC:=fun y b e=> ?_,pin:=fun q hq=> ?_,hok:=e0.hok.kept kp,len:= ?_ }
  · have e1:(X.N++ps)[i]? =some y:=e1
    have e3:Vis scope y:=e3
    have own:scope.names.lookup y=some .local→y∈ps:=fun k=> (L.own _ (PySem.mem_of_lookup k)).2 rfl
    by_cases hi:i < X.N.length
    · rw [List.getElem?_append_left hi] at e1
      rw [List.getElem?_append_left (by rw [I.len];exact hi)] at e2
      have nP:y∉ps:=fun z=> (L.par y z).2 (List.mem_of_getElem? e1)
      rcases e3 with k | k | k
      · exact absurd (own k) nP
      · exact absurd rfl (L.own _ (PySem.mem_of_lookup k)).1
      · obtain ⟨m,hn,lk⟩:=I.loc
        have vis:Vis X.env.scope y:=(L.free _ (PySem.mem_of_lookup k) rfl).elim (fun k=> .inr (.inl k)) fun k=> .inr (.inr k)
        obtain ⟨w,r,q⟩:=lk i y v e1 e2 vis
        obtain ⟨c2,h2⟩:=A6W (X:=X) k
        have c1:=t6 L I.ok h2
        refine ⟨w,r,.inr ⟨.inr k,c2,h2,?_⟩⟩
        rcases q with ⟨k',_⟩ | ⟨_,c3,e',z⟩
        · have k':X.env.scope.names.lookup y=some .local:=k'
          rcases L.free _ (PySem.mem_of_lookup k) rfl with k2 | k2
          · rw [show X.env.scope.names.lookup y=_ from k2] at k';cases k'
          · rw [show X.env.scope.names.lookup y=_ from k2] at k';cases k'
        · rw [c1] at e'
          cases e'
          exact cellK (I.freeC y _ c1) z
    · rw [List.getElem?_append_right (by omega)] at e1
      rw [List.getElem?_append_right (by rw [I.len];omega),I.len,List.getElem?_map] at e2
      cases q:vs[i - X.N.length]? with
      | none=> rw [q] at e2;cases e2
      | some v0=>
        rw [q] at e2
        cases e2
        obtain ⟨u,hu,ru⟩:=rv.get q
        exact ⟨u,ru,.inl ⟨(L.par y (List.mem_of_getElem? e1)).1,A6p (us:=us) L.nd e1 hu⟩⟩
  · obtain ⟨w,z⟩:=I.cell y b (t6 L I.ok e)
    exact ⟨w,cellK (I.freeC y b (t6 L I.ok e)) z⟩
  · obtain ⟨v,o,ho,hd⟩:=I.cell y b (t6 L I.ok e)
    exact un.free b o ho (I.freeC y b (t6 L I.ok e)) (by simp)
  · have hq:q∈([]:List (Addr×Obj))++[]:=hq
    cases hq
  · show (σ++vs.map some).length=(X.N++ps).length
    rw [List.length_append,List.length_append,List.length_map,I.len,hl]
end
structure LamHas (Z:Cx) (G:Gx) (f:Addr) (n:Nat) (sp:C0):Prop where
  m:L1 sp
  fn:∀(s:Shared) (H:Hp),(∀p o,G.H0 p=some o→G.h0 p=none→NT o→H p=some o)→HOk Z.prog Z.w H s.heap→PySem.W.FnAt f s.heap
  run:∀(s:Shared) (H:Hp) (us:List Value) (vs:List V) (Q:VK) (E:XK),(∀p o,G.H0 p=some o→G.h0 p=none→NT o→H p=some o)→Un Z.fs [] Z.H_0 H Z.s_0.heap s.heap→Env0 Z.prog Z.w Z.K Z.mg Z.base Z.A Z.stack s H→Vals vs us→M9 Z.K n sp vs H Q E→
    codeAny (model Z.prog Z.w) Z.A (.call (.ref f) ⟨us,[]⟩) (CR (L2.CX Z.prog Z.w) Z.stack Z.prog Z.w H s Q E) s
def t0 (env:A0) (ws:List W):A0:=env.map (fun o=> match o with
  | some (.val w)=> some (.val w)
  | _=> none)++ws.map fun w=> some (.val w)
theorem A3W {env:A0} {ws:List W} {i:Nat} {sv:SV} (e:(t0 env ws)[i]? =some (some sv)):(∃w,sv= .val w∧env[i]? =some (some (.val w))∧i < env.length)∨∃w,sv= .val w∧env.length≤i∧ws[i - env.length]? =some w:=by
  unfold t0 at e
  by_cases hi:i < env.length
  · rw [List.getElem?_append_left (by simpa using hi),List.getElem?_map] at e
    cases q:env[i]? with
    | none=> rw [q] at e;cases e
    | some o=>
      rw [q] at e
      cases o with
      | none=> cases e
      | some sv'=>
        cases sv' with
        | val w=> cases e;exact .inl ⟨w,rfl,rfl,hi⟩
        | own c=> cases e
  · rw [List.getElem?_append_right (by simpa using hi),List.length_map,List.getElem?_map] at e
    cases q:ws[i - env.length]? with
    | none=> rw [q] at e;cases e
    | some w=> rw [q] at e;cases e;exact .inr ⟨w,rfl,by omega,rfl⟩
theorem BS.lam {K:PySem.W.Frag} {G:Gx} {env:A0} {h0 h:AH} {σ:L2.St} {H0 H:Hp} {ws:List W} {vs:List V} (gk:G.K=K) (S:BS G env h0 σ H0) (k:Keeps H0 H) (hp:∀a o,h a=some o→ORep K H a o) (tb:TabsK K H) (r:RepL K H ws vs):
    BS ⟨K,h,H⟩ (t0 env ws) h (σ++vs.map some) H:=by
  subst gk
  refine ⟨?_,fun i w e=> ?_,fun i c e=> ?_,fun i j c c' p e=> ?_,hp,fun p o e _ _=> e,fun a o e n=> (by have n:h a=none:=n;rw [n] at e;cases e),fun p o e=> ⟨o,e⟩,tb⟩
  · unfold t0
    rw [List.length_append,List.length_map,List.length_map,List.length_append,List.length_map,S.len,r.length]
  · rcases A3W e with ⟨w',z,y,hi⟩ | ⟨w',z,hi,y⟩
    · cases z
      obtain ⟨v,ev,rv⟩:=S.val i w y
      exact ⟨v,by rw [List.getElem?_append_left (by rw [←S.len];exact hi)];exact ev,Rep.mono k w v rv⟩
    · cases z
      obtain ⟨v,ev,rv⟩:=r.get y
      refine ⟨v,?_,rv⟩
      rw [List.getElem?_append_right (by rw [←S.len];exact hi),←S.len,List.getElem?_map,ev]
      rfl
  · rcases A3W e with ⟨w',z,_⟩ | ⟨w',z,_⟩ <;> cases z
  · rcases A3W e with ⟨w',z,_⟩ | ⟨w',z,_⟩ <;> cases z
def A0J (t:(AExc→A0→AH→Prop)→AT) (env:A0):C0:=fun ws h Qa Ea=> ∃Ein:AExc→A0→AH→Prop,(∀x e k,Ein x e k→C7 Ea x e k)∧t Ein (t0 env ws) h (C1 Qa).rt
section
variable {X:Cx} {G:Gx} {env:A0} {h:AH} {σ:L2.St} {H:Hp} {s:Shared} {pins:List (Addr×Obj)} {d:LamD} {f g c:Addr} {cdg:Value} {Ng:List Str} {qg:Str} {sg:Scope} {ps:List Str} {k:Nat} {t:(AExc→A0→AH→Prop)→AT} {Eg:XK}
theorem B19 (gk:G.K=X.K) (I:Inv X pins σ H s) (S:BS G env h σ H) (lf:LamF X d H f) (L:LamP X.env.scope d.scope X.N ps)
    (hbind:∀(q:Str) (cl:List (Str×Addr)) (pm cv ctv:Value) (us:List Value),us.length=ps.length→bindArgs (PySem.W.kla_fn "<lambda>" q d.params d.body d.scope cl pm cv ctv) ⟨us,[]⟩=pure (ps.zip us))
    (hr:Room (k+1) (X.A.deeper (envOfC qg sg s.heap.objs.size g cdg)))
    (hbody:∀(A:Around) (outer:List Env) (s:Shared) (H:Hp) (E:XK) (f c:Addr) (G:Gx) (E':AExc→A0→AH→Prop),Room k (A.deeper (lamEnv X d.scope s.heap.objs.size f c))→G.K=X.K→Takes (m5 X A outer s H E d.scope f c ps) (cW G E')→AE (m5 X A outer s H E d.scope f c ps) G d.body (t E')):
    LamHas (bx X.prog X.w X.K X.mg X.base Ng qg sg g cdg X.A X.stack s H Eg) ⟨X.K,h,H⟩ f ps.length (A0J t env):=by
  obtain ⟨c,hf,hc⟩:=lf
  have mt:∀E',A2 (t E'):=fun E'=> (hbody (X.A.deeper (envOfC qg sg s.heap.objs.size g cdg)) [] s H (fun _ _ _=> True) f c ⟨X.K,h,H⟩ E' (hr.deeper _) rfl (Takes.imp (W:=fun _ _ _ _=> True) (takes_of rfl rfl rfl rfl) fun _ _ _ _ _=> trivial)).mono
  have nf:=(S.nmu hf A6F).1
  have nc:=(S.nmu hc A59).1
  refine ⟨fun ws h' Q Q' E E' k k' ⟨Ein,ke,q⟩=> ⟨Ein,fun x e g z=> (by obtain ⟨g',le,z⟩:=ke x e g z;exact ⟨g',le,k' _ _ z⟩),?_⟩,fun s2 H2 fr hok=> ?_,fun s2 H2 us vs Q E fr un e0 rv sp=> ?_⟩
  · refine mt _ _ _ _ _ (fun r e g z=> ?_) q
    obtain ⟨h2,le,z⟩:=z
    refine ⟨h2,le,?_⟩
    cases r with
    | val w=> exact k _ _ z
    | own c=> exact k _ _ z
    | slot i=>
      have z:match e[i]? with
        | some (some (.val w))=> Q (.val w) h2
        | some (some (.own c))=> Q (.own c) h2
        | _=> False:=z
      show match e[i]? with
        | some (some (.val w))=> Q' (.val w) h2
        | some (some (.own c))=> Q' (.own c) h2
        | _=> False
      split at z
      · exact k _ _ z
      · exact k _ _ z
      · exact z
  · have hf2:=fr _ _ hf nf A3u
    obtain ⟨⟨pm,ctv,e⟩,_,_⟩:=hok f _ hf2
    exact ⟨_,_,_,_,e⟩
  · have hf2:=fr _ _ hf nf A3u
    have hc2:=fr _ _ hc nc A2E
    obtain ⟨⟨pm,ctv,of⟩,_,_⟩:=e0.hok f _ hf2
    obtain ⟨⟨oc,fs,tk,hoc,hdc,hvc⟩,_,_⟩:=e0.hok c _ hc2
    obtain ⟨ws,h2,Qa,Ea,wl,hp,tb,rl,⟨Ein,kx,q⟩,kq,ke⟩:=sp
    have un:Un (frs X.stack) [] H H2 s.heap s2.heap:=un
    have hl:vs.length=ps.length:=by rw [←rl.length,wl]
    have hu:us.length=ps.length:=by rw [←rv.length];exact hl
    show codeAny (model X.prog X.w) (X.A.deeper (envOfC qg sg s.heap.objs.size g cdg)) _ _ s2
    refine PySem.W.kla_callFunE hr.depth of rfl L.co L.gen rfl ⟨c,oc,fs,tk,rfl,hoc,hdc,hvc⟩ ?_
    rw [hbind _ _ _ _ _ us hu]
    refine wpAny_pure (wpAny_newFunctionEnv (fun y hy=> (L.own y hy).1) (fun y hy=> (L.par y.1 (List.of_mem_zip hy).1).1) (fun h₁ hns hsb=> ⟨?_,?_⟩) L.kind)
    · have nl:s2.heap.NoLimit:=e0.mod.nolimit.keeps fun b o e=> (e0.bs b o e).1
      exact nl.fresh _ hsb
    · show codeAny _ _ (.expr d.body (lamEnv X d.scope s2.heap.objs.size f c)) _ _
      have kp:∀b o,s2.heap.get? b=some o→h₁.get? b=some o:=fun b o e=> hsb.extBut b o (Nat.ne_of_lt (Heap.lt_size e)) (Heap.get?_push_of_some _ e)
      have J:=B0p (A:=X.A.deeper (envOfC qg sg s.heap.objs.size g cdg)) (outer:=envOfC qg sg s.heap.objs.size g cdg::X.stack) (E:=E) (f:=f) (c:=c) (tk:=s2.toks+(ps.zip us).length) I L e0 hr.hd un hns kp rv hl
      have kk:Keeps H H2:=fun p o e i=> fr p o e (S.imm e i).1 i.nt
      have S2:BS ⟨X.K,h2,H2⟩ (t0 env ws) h2 (σ++vs.map some) H2:=BS.lam gk S kk hp tb rl
      have tkl:Takes (m5 X (X.A.deeper (envOfC qg sg s.heap.objs.size g cdg)) (envOfC qg sg s.heap.objs.size g cdg::X.stack) s2 H2 E d.scope f c ps) (cW ⟨X.K,h2,H2⟩ Ein):=
        Takes.imp (W:=fun cls d _ H'=> E cls d H') (takes_of rfl rfl rfl rfl) fun cls d σ' H' ⟨x,e',g',SB,xr,z⟩=> (by obtain ⟨g2,le,z⟩:=kx x e' g' z;exact ke x g2 cls d H' z (SB.hs.le le) xr)
      have rn:=(hbody _ _ s2 H2 E f c ⟨X.K,h2,H2⟩ Ein (hr.deeper _) rfl tkl).pe.run [] _ _ H2 Q J ⟨_,h2,S2,mt _ _ _ _ _ (fun r env3 h3 z v H3 S3 x3 r3 f3=> ?_) q⟩
      · refine PySem.W.kla_codeExpr (wpAny_mono rn (fun v s' hq=> ?_) fun e s' hq=> hq)
        obtain ⟨w',H',J',rv',q'⟩:=hq
        exact ⟨w',H',J'.os,J'.bare,J'.base,J'.hok,rv',q'⟩
      · obtain ⟨h4,le,z⟩:=z
        have hs:HS ⟨X.K,h2,H2⟩ h4 H3:=S3.hs.le le
        have own_end:∀{p:Addr} {c:Cont},v= .ref p→CRep X.K H3 p c→h3 p=none→H2 p=none→v8 ⟨X.K,h2,H2⟩ h4 H3 (.own c) v:=fun {p c} e1 e2 e3 e4=> by
          have e5:h4 p=none:=by
            cases z:h4 p with
            | none=> rfl
            | some u=> rw [le p u z] at e3;cases e3
          exact ⟨p,e1,e2,e5,e4⟩
        cases r with
        | val w=> exact kq (.val w) h4 v H3 z hs r3
        | own c=>
          obtain ⟨p,e1,cr,a,b,_⟩:=r3
          exact kq (.own c) h4 v H3 z hs (own_end e1 cr a b)
        | slot i=>
          have es:(σ++vs.map some)[i]? =some (some v):=r3
          have z:match env3[i]? with
            | some (some (.val w))=> Qa (.val w) h4
            | some (some (.own c))=> Qa (.own c) h4
            | _=> False:=z
          split at z
          · rename_i w ei
            obtain ⟨u,e3,rv⟩:=S3.val i w ei
            rw [es] at e3;cases e3
            exact kq (.val w) h4 v H3 z hs rv
          · rename_i c ei
            obtain ⟨p,e3,cr,a,b⟩:=S3.own i c ei
            rw [es] at e3;cases e3
            exact kq (.own c) h4 _ H3 z hs (own_end rfl cr a b)
          · exact z.elim
end
end Ab
namespace Ab
open PySem PySem.Spec PyProof.Rows L2 LamX
def A5F (E:AExc→A0→AH→Prop) (i:Nat) (f:Addr) (sp:C0) (t:B7):AT:=fun env h Q=> env[i]? =some (some (.val (.ref f)))∧aCall E sp t env h Q
section
variable {X:Cx} {G:Gx} {sp:C0} {n i:Nat} {f:Addr} {a:Str} {p pos:Pos} {e:Expr} {es:List Expr} {t:B7} {E:AExc→A0→AH→Prop}
theorem B2C (hL:LamHas X G f 0 sp) (gk:G.K=X.K) (hex:X.ex=[]) (hN:X.N[i]? =some a) (hv:Vis X.env.scope a) (tk:Takes X (cW G E))
    (hd:(a==("__debug__":Str))=false:=by decide) (hcd:(a==("__classdict__":Str))=false:=by decide):
    AE X G (.Call (.Name a p) [] [] pos) (A5F E i f sp aNil):=by
  refine ⟨fun env h Q Q' k ⟨e,q⟩=> ⟨e,aCall.mono hL.m aNil.mono env h _ _ k q⟩,⟨fun pins s σ H Q I ⟨env,h,S,hs,q⟩=> ?_⟩⟩
  obtain ⟨v,ev,rv⟩:=S.val i _ hs
  have rv:=Rep.of_ref (K:=G.K) (H:=H) rv
  subst rv
  refine wpAny_Call_Name_kw (thn ((pe_var (pos:=p) hN hv hd hcd).run pins s σ H (fun v H1=> v= .ref f∧H1=H) I ⟨.ref f,ev,rfl,rfl⟩) fun u s1 ⟨v,H1,I1,r1,q1⟩=> ?_)
  obtain ⟨e1,e2⟩:=q1
  subst e1
  rw [e2] at I1
  obtain rfl:u=Value.ref f:=r1
  have fr1:=hL.fn s1 H (fun p o x y z=> S.fr p o x y z) I1.hok
  have arg:cA G aNil σ H (fun vs H1=> (∃env1 h1,BS G env1 h1 σ H1)∧M9 G.K 0 sp vs H1 Q (WE (cW G E) σ)):=by
    refine ⟨env,h,S,aNil.mono env h _ _ (fun ws env1 h1 ⟨hl,z⟩ vs H1 S1 x1 r1=> ⟨⟨env1,h1,S1⟩,ws,h1,_,_,hl,S1.hp,S1.tabs,r1,z,fun r h' v H' y c rr=> ?_,fun x h' cls d H' y c xr=> (by obtain ⟨S2,x2⟩:=S1.after c;exact ⟨x,env1,h',S2,xr,y⟩)⟩) (A7G _ _ _ q)⟩
    obtain ⟨S2,x2⟩:=S1.after c
    cases r with
    | val w=> exact y v H' S2 (x1.trans x2) rr trivial
    | own c0=>
      obtain ⟨p,e,cr,a,b⟩:=rr
      have nw:H1 p=none:=b
      obtain ⟨_,g0,no⟩:=S1.noAt nw
      exact y v H' S2 (x1.trans x2) ⟨p,e,cr,a,g0,no⟩ fun p' e'=> by
        rw [e] at e';cases e';exact x1.fresh nw
  refine PySem.W.callWith_F0 fr1 ?_
  have arg:=arg
  obtain ⟨env',h',S',arg⟩:=arg
  obtain ⟨⟨env2,h2,S2⟩,c2⟩:=arg [] H S' .refl .nil
  have I2:=I1
  have r:Vals ([]:List V) ([]:List Value):= .nil
  · have fr2:∀p o,G.H0 p=some o→G.h0 p=none→NT o→H p=some o:=fun p o x y z=> S2.fr p o x y z
    have un:Un X.fs [] X.H_0 H X.s_0.heap s1.heap:=hex▸I2.base
    refine wpAny_call (codeAny_mono (hL.run s1 H [] [] Q (WE (cW G E) σ) fr2 un I2.env0 r (gk▸c2)) fun r s' hq=> ?_)
    cases r with
    | error e=> exact passAt tk σ pins H s1 e s' I2 hq
    | ok fl=>
      cases fl with
      | ret u=> exact I2.after hq
      | next=> exact False.elim hq
      | brk=> exact False.elim hq
      | cont=> exact False.elim hq
end
def y8 (E:AExc→A0→AH→Prop) (n m:Nat) (tc:Addr→C0→(AExc→A0→AH→Prop)→B4) (tb:(AExc→A0→AH→Prop)→AT) (t:m9):AT:=fun env h Q=> t env h fun f ws env1 h1=> ∃Qa Ea,
  (∀r h2,Qa r h2→match r with
    | RR.val w=> Q (.val w) env1 h2
    | RR.own c=> Q (.own c) env1 h2)∧(∀x h2,Ea x h2→E x env1 h2)∧(ws.length=n→tc f (A0J tb env1) (C7 Ea) (C1 Qa) (G2 m ws) h1)
section
variable {X:Cx} {G:Gx} {d:LamD} {n kg kl:Nat} {g:Addr} {fd:FuncData} {x:Str} {st:Stmt} {Ng psg ps:List Str} {p pos:Pos} {e:Expr} {es:List Expr} {t:m9} {tb:(AExc→A0→AH→Prop)→AT} {tc:Addr→C0→(AExc→A0→AH→Prop)→B4} {E:AExc→A0→AH→Prop}
theorem A11 (gk:G.K=X.K) (FD:FunD X.K x x (defArgs st) (defBody st) (defScope st) [] [] g fd) (hm:X.mg x=some (.ref g)) (bd:Q5 x st psg) (Sg:FnScope Ng psg (defScope st)) (hn:psg.length=n) (hg:Gl X x) (tk:Takes X (cW G E)) (hr:Room (kg+1) X.A)
    (al:AL X G d (e::es) n t) (L:LamP X.env.scope d.scope X.N ps) (hk:kl+1≤kg)
    (hbind:∀(q:Str) (cl:List (Str×Addr)) (pm cv ctv:Value) (us:List Value),us.length=ps.length→bindArgs (PySem.W.kla_fn "<lambda>" q d.params d.body d.scope cl pm cv ctv) ⟨us,[]⟩=pure (ps.zip us))
    (hbody:∀(A:Around) (outer:List Env) (s:Shared) (H:Hp) (E:XK) (f c:Addr) (G:Gx) (E':AExc→A0→AH→Prop),Room kl (A.deeper (lamEnv X d.scope s.heap.objs.size f c))→G.K=X.K→Takes (m5 X A outer s H E d.scope f c ps) (cW G E')→AE (m5 X A outer s H E d.scope f c ps) G d.body (tb E'))
    (hb:∀(cdv:Value) (s:Shared) (H:Hp) (EX:XK) (G':Gx) (E':AExc→A0→AH→Prop) (f:Addr) (sp:C0),Room kg (X.A.deeper (envOfC x (defScope st) s.heap.objs.size g cdv))→G'.K=X.K→
      Takes (bx X.prog X.w X.K X.mg X.base Ng x (defScope st) g cdv X.A X.stack s H EX) (cW G' E')→LamHas (bx X.prog X.w X.K X.mg X.base Ng x (defScope st) g cdv X.A X.stack s H EX) G' f ps.length sp→
      ASs (bx X.prog X.w X.K X.mg X.base Ng x (defScope st) g cdv X.A X.stack s H EX) G' (defBody st) (tc f sp E'))
    (hdb:(x==("__debug__":Str))=false:=by decide) (he:starEach (e::es) X.env=(false,eval e X.env)::starEach es X.env:=by rfl) (hpl:(backTo pos (starEach es X.env)).any (·.1)=false:=by rfl):
    AE X G (.Call (.Name x p) (e::es) [] pos) (y8 E n Ng.length tc tb t):=by
  refine ⟨fun env h Q Q' k q=> al.mono env h _ _ (fun f ws e g ⟨Qa,Ea,a,b,z⟩=> ⟨Qa,Ea,fun r h2 y=> by
    have y:=a r h2 y
    cases r with
    | val w=> exact k _ _ _ y
    | own c=> exact k _ _ _ y,b,z⟩) q,⟨fun pins s σ H Q I ⟨env,h,S,q⟩=> ?_⟩⟩
  · refine wpAny_Call_Name_kw (ld_glob I hg hm ?_ hdb)
    refine PySem.W.callWith_K (h₀:=X.base) I.ok.mod.kin FD.kp (thn (al.pa.run pos pins s σ H (fun vs H1=> ∃f ws env1 h1,BS G env1 h1 σ H1∧Xt env h σ H env1 h1 H1∧RepL G.K H1 ws vs∧LamF X d H1 f∧ws.length=n∧∃(Qa:RR→AH→Prop) (Ea:AExc→AH→Prop),
        (∀r h2,Qa r h2→match r with
          | .val w=> ∀v H',BS G env1 h2 σ H'→Xt env h σ H env1 h2 H'→RvRep G env1 h2 σ H' (.val w) v→J9 H (.val w) v→Q v H'
          | .own c=> ∀v H',BS G env1 h2 σ H'→Xt env h σ H env1 h2 H'→RvRep G env1 h2 σ H' (.own c) v→J9 H (.own c) v→Q v H')∧(∀x h2,Ea x h2→E x env1 h2)∧tc f (A0J tb env1) (C7 Ea) (C1 Qa) (G2 Ng.length ws) h1)
      I ⟨env,h,S,al.mono env h _ _ (fun f ws env1 h1 ⟨wl,Qa,Ea,qa,ea,z⟩ vs H1 S1 x1 r1 lf=> ⟨f,ws,env1,h1,S1,x1,r1,lf,wl,Qa,Ea,fun r h2 y=> by cases r <;> exact qa _ _ y,ea,z wl⟩) (al.ln _ _ _ q)⟩)
      fun us s1 ⟨vs,H1,I1,r,f,ws,env1,h1,S1,x1,r1,lf,wl,Qa,Ea,qa,ea,z⟩=> ⟨I1.kIn,?_⟩) he hpl
    have hlv:vs.length=psg.length:=by rw [←r1.length,wl,hn]
    have hlu:us.length=psg.length:=by rw [←r.length];exact hlv
    have b:=FD.bindsA (ps:=psg) bd s1 us hlu
    obtain ⟨oc,od,dV,kV,doc,pm,an,cdv,ct,osl,rfl,lk,hcd,_,_⟩:=FD.ex
    have hwN:ws.length≤Ng.length:=by
      have z:=congrArg List.length Sg.pre
      rw [List.length_take] at z
      omega
    have ke:∀x h' cls d H',Ea x h'→HS ⟨G.K,h1,H1⟩ h' H'→XRep G.K H' x cls d→WE (cW G E) σ cls d H':=fun x h' cls d H' y c xr=> by
      obtain ⟨S2,x2⟩:=S1.after c
      exact ⟨x,env1,h',S2,xr,ea _ _ y⟩
    have kq:∀r h' v H',Qa r h'→HS ⟨G.K,h1,H1⟩ h' H'→v8 ⟨G.K,h1,H1⟩ h' H' r v→Q v H':=fun r h' v H' y c rr=> by
      obtain ⟨S2,x2⟩:=S1.after c
      have y:=qa r h' y
      cases r with
      | val w=> exact y v H' S2 (x1.trans x2) rr trivial
      | own c0=>
        obtain ⟨p,e,cr,a,b⟩:=rr
        have nw:H1 p=none:=b
        obtain ⟨_,g0,no⟩:=S1.noAt nw
        exact y v H' S2 (x1.trans x2) ⟨p,e,cr,a,g0,no⟩ fun p' e'=> by
          rw [e] at e';cases e';exact x1.fresh nw
    have rr1:RepL X.K H1 ws vs:=gk▸r1
    have tb1:TabsK X.K H1:=gk▸S1.tabs
    have hp1:∀a o,h1 a=some o→ORep X.K H1 a o:=gk▸S1.hp
    rw [gk] at ke kq
    refine wpAny_call (codeAny_mono (run_ofS (CX:=L2.CX X.prog X.w) (N:=Ng) (ps:=psg) (vs:=vs) (k:=kg) (Q:=Q) (E:=WE (cW G E) σ) lk hcd Sg hr I1.env0 b r hlv fun hr'=> ?_) fun r s' hq=> ?_)
    · have tk':Takes (bx X.prog X.w X.K X.mg X.base Ng x (defScope st) g cdv X.A X.stack s1 H1 (WE (cW G E) σ)) (cW ⟨X.K,h1,H1⟩ (C7 Ea)):=
        Takes.imp (W:=fun cls d _ H'=> WE (cW G E) σ cls d H') (takes_of rfl rfl rfl rfl) fun cls d σ' H' ⟨x,env,h',SB,xr,h'',le,e⟩=> ke x h'' cls d H' e (HS.le (G:=⟨X.K,h1,H1⟩) SB.hs le) xr
      have lh:=B19 (Ng:=Ng) (qg:=x) (sg:=defScope st) (g:=g) (cdg:=cdv) (k:=kl) (Eg:=WE (cW G E) σ) gk I1 S1 lf L hbind (hr'.mono hk) hbody
      refine ⟨_,(hb cdv s1 H1 (WE (cW G E) σ) ⟨X.K,h1,H1⟩ (C7 Ea) f (A0J tb env1) hr' rfl tk' lh).ps,G2 Ng.length ws,h1,C1 Qa,BS.begin hp1 tb1 rr1 hwN,z,?_⟩
      refine ⟨fun env h' σ' H' SB _ ⟨h'',le,e⟩=> kq (.val .non) h'' .non H' e (SB.hs.le le) (show Rep X.K H' .non .non from .non),fun r0 env h' σ' H' v SB _ rr ⟨h'',le,e⟩=> ?_,fun _ _ _ _ _ _ z=> z.elim,fun _ _ _ _ _ _ z=> z.elim⟩
      have own_end:∀{p:Addr} {c:Cont},v= .ref p→CRep X.K H' p c→h' p=none→H1 p=none→v8 ⟨X.K,h1,H1⟩ h'' H' (.own c) v:=fun {p c} e1 e2 e3 e4=> by
        have e5:h'' p=none:=by
          cases z:h'' p with
          | none=> rfl
          | some u=> rw [le p u z] at e3;cases e3
        exact ⟨p,e1,e2,e5,e4⟩
      cases r0 with
      | val w0=> exact kq (.val w0) h'' v H' e (SB.hs.le le) rr
      | own c=>
        obtain ⟨p,e1,cr,a,b,_⟩:=rr
        exact kq (.own c) h'' v H' e (SB.hs.le le) (own_end e1 cr a b)
      | slot i=>
        have es:σ'[i]? =some (some v):=rr
        have e:match env[i]? with
          | some (some (.val w))=> Qa (.val w) h''
          | some (some (.own c))=> Qa (.own c) h''
          | _=> False:=e
        split at e
        · rename_i w0 ei
          obtain ⟨u,e3,rv⟩:=SB.val i w0 ei
          rw [es] at e3;cases e3
          exact kq (.val w0) h'' v H' e (SB.hs.le le) rv
        · rename_i c ei
          obtain ⟨p,e3,cr,a,b⟩:=SB.own i c ei
          rw [es] at e3;cases e3
          exact kq (.own c) h'' _ H' e (SB.hs.le le) (own_end rfl cr a b)
        · exact e.elim
    · cases r with
      | error e=> exact passAt tk σ pins H1 s1 e s' I1 hq
      | ok fl=>
        cases fl with
        | ret u=> exact I1.after hq
        | next=> exact False.elim hq
        | brk=> exact False.elim hq
        | cont=> exact False.elim hq
end
end Ab
namespace Ab
open PySem PySem.Spec PyProof.Rows L2 LamX
def b8 (sc scope:Scope) (N ps:List Str):Bool:=
  decide (scope.kind= .function) && !scope.isCoroutine && !scope.isGenerator && (scope.names.all fun y=> !decide (y.2= .cell) && (!decide (y.2= .local) || decide (y.1∈ps)) && (!decide (y.2= .free) || decide (sc.names.lookup y.1=some .cell) || decide (sc.names.lookup y.1=some .free))) &&
    (ps.all fun x=> decide (scope.names.lookup x=some .local) && !decide (x∈N)) && decide ps.Nodup
theorem j7 {sc scope:Scope} {N ps:List Str} (h:b8 sc scope N ps=true):LamP sc scope N ps:=by
  unfold b8 at h
  simp only [Bool.and_eq_true,Bool.or_eq_true,Bool.not_eq_true',decide_eq_true_eq,decide_eq_false_iff_not,List.all_eq_true] at h
  obtain ⟨⟨⟨⟨⟨h1,h2⟩,h3⟩,h4⟩,h5⟩,h6⟩:=h
  refine ⟨h1,h2,h3,fun y hy=> ⟨(h4 y hy).1.1,fun e=> ?_⟩,h5,h6,fun y hy e=> ?_⟩
  · rcases (h4 y hy).1.2 with z | z
    · exact absurd e z
    · exact z
  · rcases (h4 y hy).2 with (z | z) | z
    · exact absurd e z
    · exact .inl z
    · exact .inr z
structure MakesL (K:PySem.W.Frag) (mg:Str→Option Value) (base:Heap) (q:Str) (cdv:Value):Prop where
  ex:∃c P,cdv= .ref c∧TabB base mg c P∧(P,q)∈A0E K∧∀p∈A0E K,p.1=P→p.2=q
def A2e (K:PySem.W.Frag) (f:Addr) (cdv:Value):Prop:=∃oc od fd osl,K.lookup f=some ⟨oc,od,.func fd,osl⟩∧fd.code=cdv
section
variable {P:Program} {w:World} {K:PySem.W.Frag} {mg:Str→Option Value} {base:Heap} {x qual:Str} {params:Arguments} {body:List Stmt} {scope:Scope} {f:Addr} {fd:FuncData} {N ps:List Str} {k n:Nat} {sp:C0} {st:Stmt}
theorem A6w {t:B4} {cdv:Value} {A:Around} {outer:List Env} {s:Shared} {H:Hp} {vs:List V} {Q:VK} {E:XK} {ws:List W} {h:AH} {Qa:RR→AH→Prop} (hwN:ws.length≤N.length)
    (hb:ASs (bx P w K mg base N qual scope f cdv A outer s H E) ⟨K,h,H⟩ body t) (hp:∀a o,h a=some o→ORep K H a o) (tb:TabsK K H) (r:RepL K H ws vs) (q:t (C1 Qa) (G2 N.length ws) h)
    (kq:∀r h' v H',Qa r h'→HS ⟨K,h,H⟩ h' H'→v8 ⟨K,h,H⟩ h' H' r v→Q v H'):
    ∃t,PSs (cxOf (L2.CX P w) P w K mg base N qual scope f cdv A outer s H E) body t∧t { nx:=fun _ H'=> Q .non H',rt:=Q } (start N vs) H:=by
  refine ⟨_,hb.ps,G2 N.length ws,h,C1 Qa,BS.begin hp tb r hwN,q,?_⟩
  refine ⟨fun env h' σ' H' SB _ ⟨h'',le,e⟩=> kq (.val .non) h'' .non H' e (SB.hs.le le) (show Rep K H' .non .non from .non),fun r0 env h' σ' H' v SB _ rr ⟨h'',le,e⟩=> ?_,fun _ _ _ _ _ _ z=> z.elim,fun _ _ _ _ _ _ z=> z.elim⟩
  have own_end:∀{p:Addr} {c:Cont},v= .ref p→CRep K H' p c→h' p=none→H p=none→v8 ⟨K,h,H⟩ h'' H' (.own c) v:=fun {p c} e1 e2 e3 e4=> by
    have e5:h'' p=none:=by
      cases z:h'' p with
      | none=> rfl
      | some u=> rw [le p u z] at e3;cases e3
    exact ⟨p,e1,e2,e5,e4⟩
  cases r0 with
  | val w0=> exact kq (.val w0) h'' v H' e (SB.hs.le le) rr
  | own c=>
    obtain ⟨p,e1,cr,a,b,_⟩:=rr
    exact kq (.own c) h'' v H' e (SB.hs.le le) (own_end e1 cr a b)
  | slot i=>
    have es:σ'[i]? =some (some v):=rr
    have e:match env[i]? with
      | some (some (.val w))=> Qa (.val w) h''
      | some (some (.own c))=> Qa (.own c) h''
      | _=> False:=e
    split at e
    · rename_i w0 ei
      obtain ⟨u,e3,rv⟩:=SB.val i w0 ei
      rw [es] at e3;cases e3
      exact kq (.val w0) h'' v H' e (SB.hs.le le) rv
    · rename_i c ei
      obtain ⟨p,e3,cr,a,b⟩:=SB.own i c ei
      rw [es] at e3;cases e3
      exact kq (.own c) h'' _ H' e (SB.hs.le le) (own_end rfl cr a b)
    · exact e.elim
theorem A6t {cdv:Value} {A:Around} {outer:List Env} {s:Shared} {H:Hp} {h:AH} {E:XK} {Ea:AExc→AH→Prop} (ke:∀x h' cls d H',Ea x h'→HS ⟨K,h,H⟩ h' H'→XRep K H' x cls d→E cls d H'):
    Takes (bx P w K mg base N qual scope f cdv A outer s H E) (cW ⟨K,h,H⟩ (C7 Ea)):=
  Takes.imp (W:=fun cls d _ H'=> E cls d H') (takes_of rfl rfl rfl rfl) fun cls d σ H' ⟨x,env,h',SB,xr,h'',le,e⟩=> ke x h'' cls d H' e (HS.le (G:=⟨K,h,H⟩) SB.hs le) xr
theorem Ok.mkL {t:(AExc→A0→AH→Prop)→B4} (sm:L1 sp) (hm:mg x=some (.ref f)) (F:FunD K x x (defArgs st) (defBody st) (defScope st) [] [] f fd) (S:FnScope N ps (defScope st)) (hn:ps.length=n)
    (lm:∀cdv,A2e K f cdv→MakesL K mg base (x++".<locals>."++"<lambda>") cdv)
    (hb:∀(cdv:Value) (A:Around) (outer:List Env) (s:Shared) (H:Hp) (E:XK) (G:Gx) (E':AExc→A0→AH→Prop),MakesL K mg base (x++".<locals>."++"<lambda>") cdv→Room k (A.deeper (envOfC x (defScope st) s.heap.objs.size f cdv))→G.K=K→Takes (bx P w K mg base N x (defScope st) f cdv A outer s H E) (cW G E')→
      ASs (bx P w K mg base N x (defScope st) f cdv A outer s H E) G (defBody st) (t E'))
    (hq:∀ws h Qa Ea,ws.length=n→sp ws h Qa Ea→t (C7 Ea) (C1 Qa) (G2 N.length ws) h):Ok P w K mg base x st (k+1) n ps sp:=by
  refine ⟨sm,f,fd,hm,F,?_⟩
  obtain ⟨oc,od,dV,kV,doc,pm,an,cdv,ct,osl,rfl,lk,hcd,_,_⟩:=F.ex
  refine fn_of lk hcd S (fun vs H Q E ⟨ws,h,Qa,Ea,hl,_,_,r,_⟩=> by rw [←r.length,hl,hn]) fun A outer s H vs Q E hr ⟨ws,h,Qa,Ea,hl,hp,tb,r,q,kq,ke⟩=> ?_
  have hwN:ws.length≤N.length:=by
    have z:=congrArg List.length S.pre
    rw [List.length_take] at z
    omega
  exact A6w hwN (hb cdv A outer s H E ⟨K,h,H⟩ (C7 Ea) (lm cdv ⟨oc,od,_,osl,lk,rfl⟩) hr rfl (A6t ke)) hp tb r (hq ws h Qa Ea hl q) kq
end
section
variable {X:Cx} {G:Gx} {d:LamD} {e:Expr} {es:List Expr} {pos:Pos} {n:Nat} {q:Str} {N ps:List Str}
theorem A2B {t:B7} {params:Arguments} {body:Expr} {scope:Scope} (gk:G.K=X.K) (lm:MakesL X.K X.mg X.base q X.env.code) (hq:q=X.env.qual++"<lambda>") (L:LamP X.env.scope scope N ps) (b:AN X G es n t) (dfl:defaultsOf params X.env=([],[]):=by rfl)
    (hs:starEach (.Lambda params body scope pos::es) X.env=(false,eval (.Lambda params body scope pos) X.env)::starEach es X.env:=by rfl):AL X G ⟨params,body,scope⟩ (.Lambda params body scope pos::es) (n+1) (s4 t):=by
  obtain ⟨c,P,e,tb,m,u⟩:=lm.ex
  subst hq
  exact B2Q (d:=⟨params,body,scope⟩) gk ⟨tb,e,m,u,dfl,fun ok=> L.has ok⟩ b hs
end
end Ab
namespace Ab
open PySem PySem.Spec PyProof.Rows L2 RZ
def A0V (o:Obj):Bool:=match o.cls with
  | .type c=> decide (c="list")
  | _=> false
def frK (g:Addr→Option Obj) (as:List Addr):PySem.W.Frag:=He.frG (fun a=> (g a).bind fun o=> if A0V o=true then none else some o) as
theorem B2v {as:List Addr} {h:Heap}:(frK h.get? as).In h:=fun a o e=> by
  have z:=He.frG_at (g:=fun a=> (h.get? a).bind fun o=> if A0V o=true then none else some o) as e
  cases q:h.get? a with
  | none=> rw [q] at z;cases z
  | some u=>
    rw [q] at z
    have z:(if A0V u=true then none else some u)=some o:=z
    split at z
    · cases z
    · exact z
def A3E (K:PySem.W.Frag):Prop:=∀a o,K.lookup a=some o→o.cls≠ .type "list"
theorem B2q {g:Addr→Option Obj} {as:List Addr}:A3E (frK g as):=fun a o e c=> by
  have z:=He.frG_at (g:=fun a=> (g a).bind fun o=> if A0V o=true then none else some o) as e
  cases q:g a with
  | none=> rw [q] at z;cases z
  | some u=>
    rw [q] at z
    have z:(if A0V u=true then none else some u)=some o:=z
    split at z
    · cases z
    · rename_i n
      cases z
      exact n (by unfold A0V;rw [c];rfl)
def A26 (g:Addr→Option Obj) (a:Addr):List Addr:=match g a with
  | some o=> match o.data with
    | .seq its _=> its.toList.flatMap He.refV
    | .dict es _=> es.toList.flatMap fun e=> He.refV e.val
    | .func fd=> He.refV fd.code++He.refV fd.defaults++He.refV fd.kwdefaults++fd.closure.map (·.2)
    | .cls cd=> [cd.ns]
    | .cell (some v)=> He.refV v
    | _=> []
  | none=> []
def asK (g:Addr→Option Obj):List Addr:=
  let l1:=A26 g mainGlobals
  let l2:=l1.flatMap (A26 g)
  let l3:=l2.flatMap (A26 g)
  let l4:=l3.flatMap (A26 g)
  mainGlobals::(l1++l2++l3++l4)
def asL (g:Addr→Option Obj) (ls:List (Str×Option Str)):List Addr:=match ls with
  | []=> asK g
  | l::r=> asK g++A8D::(l::r).map fun x=> He.codeOf (frK g (asK g)) x
abbrev AlK:Type:=He.AlD×Bool
def A8q (g:Addr→Option Obj) (K:PySem.W.Frag):Bool:=(R7 K).all fun p=> PySem.W.codeHdIn K p.1.1 p.1.2 && (match K.lookup p.1.2 with
  | none=> true
  | some _=> false) && (match g p.1.2 with
  | some o=> He.emptyTab o
  | none=> false)
def A46 (K:PySem.W.Frag) (h:Heap):Prop:=∀p∈R7 K,PySem.W.codeHdIn K p.1.1 p.1.2=true∧K.lookup p.1.2=none∧h.get? p.1.2=some { cls:= .none,data:= .fields #[] }
theorem B13 {h:Heap} {K:PySem.W.Frag} (e:A8q h.get? K=true):A46 K h:=fun p hp=> by
  have z:=List.all_eq_true.mp e p hp
  simp only [Bool.and_eq_true] at z
  obtain ⟨⟨z1,z2⟩,z3⟩:=z
  refine ⟨z1,?_,?_⟩
  · cases q:K.lookup p.1.2 with
    | none=> rfl
    | some o=> rw [q] at z2;cases z2
  · cases q:h.get? p.1.2 with
    | none=> rw [q] at z3;cases z3
    | some o=> rw [q] at z3;rw [He.emptyTab_eq z3]
def A4z (fa:List He.Fa) (fn:List He.DefD) (ex:PySem.W.Frag→Bool) (ls:List (Str×Option Str)) (g:Addr→Option Obj):AlK:=
  let K:=frK g (asL g ls)
  (He.obsD fa fn K,ex K && A8q g K)
def A8b (fa:List He.Fa) (fn:List He.DefD) (ex:PySem.W.Frag→Bool) (ls:List (Str×Option Str)):PySem.W.Hook where
  α:=AlK
  obs:=fun s=> A4z fa fn ex ls s.heap.get?
  val:=fun _=> (He.valD fn,true)
  says:=fun _ h=> ∃K:PySem.W.Frag,K.In h∧(He.SaysD fa fn K∧ex K=true)∧A3E K∧A46 K h
  of:=fun _ _ e=> by
    have z:=congrArg Prod.snd e
    have z:=Bool.and_eq_true_iff.mp z
    exact ⟨_,B2v,⟨congrArg Prod.fst e,z.1⟩,B2q,B13 z.2⟩
  keeps:=fun _ _ _ ⟨K,hK,c,n,t⟩ k=> ⟨K,PySem.W.Frag.In.keeps hK k,c,n,fun p hp=> ⟨(t p hp).1,(t p hp).2.1,k _ _ (t p hp).2.2⟩⟩
theorem B2G {fa:List He.Fa} {fn:List He.DefD} {ex:PySem.W.Frag→Bool} {ls:List (Str×Option Str)} {g:Addr→Option Obj} {s:Shared} (h:∀a,g a=s.heap.get? a):A4z fa fn ex ls g=(A8b fa fn ex ls).obs s:=by
  have e:g=s.heap.get?:=funext h
  rw [e] <;> rfl
theorem FunD.one {K:PySem.W.Frag} {x q x' q':Str} {a a':Arguments} {b b':List Stmt} {sc sc':Scope} {d d':List V} {k k':List (Str×V)} {f:Addr} {fd fd':FuncData} (F:FunD K x q a b sc d k f fd) (F':FunD K x' q' a' b' sc' d' k' f fd'):fd=fd':=by
  obtain ⟨oc,od,dV,kV,doc,pm,an,cdv,ct,osl,_,lk,_⟩:=F.ex
  obtain ⟨oc',od',dV',kV',doc',pm',an',cdv',ct',osl',_,lk',_⟩:=F'.ex
  rw [lk] at lk'
  cases lk'
  rfl
def A47 (K:PySem.W.Frag) (x:Str×Option Str) (q:Str):Bool:=match K.lookup (He.fAd K x) with
  | some ⟨_,_,.func fd,_⟩=> (match fd.code with
    | .ref c=> (R7 K).any fun p=> decide (p.1.1=c) && decide (p.2=q++".<locals>."++"<lambda>")
    | _=> false)
  | _=> false
def A8s (K:PySem.W.Frag):Bool:=(R7 K).all fun p=> (R7 K).all fun p'=> !decide (p.1.2=p'.1.2) || decide (p.2=p'.2)
theorem B1j {K:PySem.W.Frag} {mg:Str→Option Value} {base:Heap} {x:Str×Option Str} {q:Str} (h:A47 K x q=true) (u:A8s K=true) (tb:∀p∈(R7 K).map (·.1),LamX.TabB base mg p.1 p.2):∀cdv,A2e K (He.fAd K x) cdv→MakesL K mg base (q++".<locals>."++"<lambda>") cdv:=fun cdv ⟨oc,od,fd,osl,lk,ec⟩=> by
  unfold A47 at h
  rw [lk] at h
  have h:(match fd.code with
    | .ref c=> (R7 K).any fun p=> decide (p.1.1=c) && decide (p.2=q++".<locals>."++"<lambda>")
    | _=> false)=true:=h
  rw [ec] at h
  cases cdv with
  | ref c=>
    have h:((R7 K).any fun p=> decide (p.1.1=c) && decide (p.2=q++".<locals>."++"<lambda>"))=true:=h
    obtain ⟨p,hp,z⟩:=List.any_eq_true.mp h
    simp only [Bool.and_eq_true,decide_eq_true_eq] at z
    obtain ⟨z1,z2⟩:=z
    refine ⟨c,p.1.2,rfl,z1▸tb p.1 (List.mem_map.mpr ⟨p,hp,rfl⟩),List.mem_map.mpr ⟨p,hp,by rw [z2]⟩,fun t ht e=> ?_⟩
    obtain ⟨p',hp',rfl⟩:=List.mem_map.mp ht
    have y:=List.all_eq_true.mp (List.all_eq_true.mp u p' hp') p hp
    simp only [Bool.or_eq_true,Bool.not_eq_true',decide_eq_true_eq,decide_eq_false_iff_not] at y
    rcases y with y | y
    · exact absurd e y
    · exact y.trans z2
  | _=> cases h
def A4V (sp:C0):Prop:=∀(ns:List Int),ns.length≤63→sp [W.lst (ns.map .int)] (fun _=> none) (fun r _=> r= .val (.bl true)) fun _ _=> False
def A8t (K:PySem.W.Frag):Sp:=fun vs H Q _=> ∃(a:Addr) (ns:List Int),vs=[.ref a]∧ns.length≤63∧SqL K H a (ns.map V.int)∧(∀p∈R7 K,H p.1.2=some (.tbl #[]))∧(∀H',Q (.bl true) H')
theorem A7d {K:PySem.W.Frag} {sp:C0} (ls:A4V sp) {H:Hp} {a:Addr} {ns:List Int} {Q:VK} {E:XK} (hl:ns.length≤63) (hS:LsF H a (ns.map V.int)) (hT:TabsK K H) (q:∀H',Q (.bl true) H'):M9 K 1 sp [.ref a] H Q E:=
  ⟨[.lst (ns.map .int)],fun _=> none,_,_,rfl,(fun _ _ e=> nomatch e),hT,.cons (.lst hS .ints) .nil,ls ns hl,fun r h' v H' e _ rr=> by
    subst e
    have z:=Rep.of_bl (K:=K) (H:=H') rr
    rw [z];exact q H',fun _ _ _ _ _ z _ _=> z.elim⟩
theorem A7V {K:PySem.W.Frag} {H:Hp} (h:∀p∈R7 K,H p.1.2=some (.tbl #[])):TabsK K H:=fun p hp=> by
  obtain ⟨q,hq,rfl⟩:=List.mem_map.mp hp
  exact LamX.TabS.nil (h q hq)
theorem B25 {P:Program} {w:World} {K:PySem.W.Frag} {mg:Str→Option Value} {base:Heap} {k:Nat} {f:Addr} {fd:FuncData} {ps:List Str} {sp:C0} (ls:A4V sp) (no:A3E K) (F:FnOk P w K mg base (L2.CX P w) k f fd ps (M9 K 1 sp)) (hp:ps.length=1):
    FnOk P w K mg base (L2.CX P w) k f fd ps (A8t K):=by
  refine ⟨fun vs H Q E ⟨a,ns,e,_⟩=> by rw [e,hp];rfl,fun A outer s H args us vs Q E hr e0 hb hv ⟨a,ns,ev,hl,hS,hT,q⟩=> ?_⟩
  subst ev
  rcases hS with (h | h) | ⟨o,its,n,l,c,_⟩
  ·
    obtain ⟨l1,its,n,rv,ho⟩:=e0.hok a _ h
    have keep:∀b o,H b=some o→(∀xs,o≠ .lst xs)→upd H a (.frz { cls:= .type "list",data:= .seq its.toArray n } (.lst (ns.map V.int))) b=some o:=fun b o e m=> by
      have ne:b≠a:=fun z=> by
        rw [z,h] at e
        exact m _ (Option.some.inj e).symm
      rw [upd_ne ne];exact e
    have non:∀b,H b=none→upd H a (.frz { cls:= .type "list",data:= .seq its.toArray n } (.lst (ns.map V.int))) b=none:=fun b e=> by
      have ne:b≠a:=fun z=> by rw [z,h] at e;cases e
      rw [upd_ne ne];exact e
    have sub:∀b o,ObjOk P w H s.heap b o→ObjOk P w (upd H a (.frz { cls:= .type "list",data:= .seq its.toArray n } (.lst (ns.map V.int)))) s.heap b o:=by
      intro b o
      induction o with
      | dT kvs=>
        rintro ⟨a1,a2,xs,a3,a4⟩
        exact ⟨a1,a2,xs,a3.mono fun x y ⟨b1,b2,b3⟩=> ⟨b1,keep _ _ b2 (fun xs z=> by cases z),b3⟩,a4⟩
      | ins C dx fs=>
        rintro ⟨a1,a2⟩
        exact ⟨keep _ _ a1 (fun xs z=> by cases z),a2⟩
      | frz o u ih=> rintro ⟨a1,a2⟩;exact ⟨a1,ih a2⟩
      | _=> exact id
    have hok:HOk P w (upd H a (.frz { cls:= .type "list",data:= .seq its.toArray n } (.lst (ns.map V.int)))) s.heap:=fun b o e=> by
      by_cases hb:b=a
      · subst hb
        rw [upd_same] at e
        cases e
        exact ⟨ho,l1,its,n,rv,ho⟩
      · rw [upd_ne hb] at e
        exact sub b o (e0.hok b o e)
    have hT2:TabsK K (upd H a (.frz { cls:= .type "list",data:= .seq its.toArray n } (.lst (ns.map V.int)))):=A7V fun p m=> keep _ _ (hT p m) fun xs z=> by cases z
    have run:=F.run A outer s _ args us [.ref a] Q E hr ⟨e0.frames,e0.mod,fun b o e=> ⟨(e0.bs b o e).1,non b (e0.bs b o e).2⟩,e0.bsz,e0.funs,fun b m=> non b (e0.frf b m),hok,e0.bare⟩ hb hv (A7d ls hl ⟨_,upd_same⟩ hT2 q)
    refine codeAny_mono run fun r s' z=> ?_
    cases r with
    | error e=>
      obtain ⟨a',B,H',cls,d,e1,e2,e3,e4,e5,e6,e7,e8⟩:=z
      have nn:∀b,upd H a (.frz { cls:= .type "list",data:= .seq its.toArray n } (.lst (ns.map V.int))) b=none→H b=none:=fun b e=> by
        by_cases hb:b=a
        · subst hb;rw [upd_same] at e;cases e
        · rw [upd_ne hb] at e;exact e
      exact ⟨a',B,H',cls,d,e1,e2,e3,⟨fun b o x y=> e4.keep b o x (non b y),e4.slot,fun b o x y=> e4.free b o x (non b y),e4.there,fun b xs x=> e4.tups b xs (keep _ _ x fun xs z=> by cases z),fun b o u x=> e4.frzs b o u (keep _ _ x fun xs z=> by cases z),fun b ps x=> e4.tbls b ps (keep _ _ x fun xs z=> by cases z)⟩,e5,e6,e7,e8⟩
    | ok fl=>
      cases fl with
      | ret u=>
        obtain ⟨v,H',e1,e2,e3,e4,e5,e6⟩:=z
        exact ⟨v,H',e1,e2,⟨fun b o x y=> e3.keep b o x (non b y),fun b o x y=> e3.slot b o x (non b y),fun b o x y=> e3.free b o x (non b y),e3.there,fun b xs x=> e3.tups b xs (keep _ _ x fun xs z=> by cases z),fun b o u x=> e3.frzs b o u (keep _ _ x fun xs z=> by cases z),fun b ps x=> e3.tbls b ps (keep _ _ x fun xs z=> by cases z)⟩,e4,e5,e6⟩
      | next=> exact z
      | brk=> exact z
      | cont=> exact z
  · exact F.run A outer s H args us [.ref a] Q E hr e0 hb hv (A7d ls hl h (A7V hT) q)
  · exact absurd c (no a o l)
theorem B4C {P:Program} {w:World} (H:Hp) (s:Shared) (e:Value) (s':Shared) (z:L2.CX P w [] H s (fun _ _ _=> False) e s'):False:=by
  obtain ⟨_,_,_,_,_,_,_,_,_,_,_,_,z⟩:=z
  exact z
theorem walk_end {l:PySem.W.OpenLaw} {j:Nat} {vw:Program} {lo:List Str} {A:(Str→Option Value)→Heap→Prop} {B:World→Heap→Prop} {d:DefRec} {y:Str} (h1:l.most=some 63) (h3:d.params.defaults=[]) (h4:Room j callerA)
    (F:∀(u:World) (g:Str→Option Value) (at_:Addr) (hp:Heap),B u hp→hp.Ns mainGlobals g→g d.name=some (.ref at_)→∃(K:PySem.W.Frag) (fd:FuncData) (sp:C0),K.In hp∧A3E K∧A46 K hp∧A4V sp∧(∀(t:Shared) (z:Value),BindsTo t fd ⟨[z],[]⟩ [(y,z)])∧
      ∀base:Heap,(∀p∈(R7 K).map (·.1),LamX.TabB base g p.1 p.2)→FnOk l.prog u K g base (L2.CX l.prog u) j at_ fd [y] (M9 K 1 sp)):
    PySem.W.WalkO vw lo A B l.row.toRowW d [] (fun f vs=> PySem.call f vs):=
  LamX.walk_ofTsE h1 (by decide) h3 h4 (fun u g at_ hp yb ns named=>
    let ⟨K,fd,sp,inK,no,te,ls,bind,ok⟩:=F u g at_ hp yb ns named
    ⟨K,inK,fd,(R7 K).map (·.1),A8t K,fun p m=> (by obtain ⟨q,hq,rfl⟩:=List.mem_map.mp m;exact (te q hq).2.2),fun p m=> (by obtain ⟨q,hq,rfl⟩:=List.mem_map.mp m;exact (te q hq).2.1),
      fun p m=> (by obtain ⟨q,hq,rfl⟩:=List.mem_map.mp m;exact PySem.W.codeHd_of_K inK (te q hq).1),bind,
      fun H b is few _ hT seq=> ⟨b,is,rfl,few,seq,fun p m=> hT p.1 (List.mem_map.mpr ⟨p,m,rfl⟩),fun _=> rfl⟩,fun base _ _ tb=> B25 ls no (ok base tb) rfl⟩) fun u H s e s'=> B4C H s e s'
end Ab
namespace Ab
open PySem PySem.Spec PyProof.Rows L2 RZ
def A1K (tl:List Value):List Value→Bool
  | .ref _::r=> A1K tl r
  | l=> l==tl
abbrev tlV:List Value:=[.type "ValueError",.type "Exception",.type "BaseException",.type "object"]
abbrev tlL:List Value:=[.type "LookupError",.type "Exception",.type "BaseException",.type "object"]
abbrev tlI:List Value:=[.type "IndexError",.type "LookupError",.type "Exception",.type "BaseException",.type "object"]
def xcTab:List (Str×List Str):=
  [("BadSizes",["HideError"]),("BadCounts",["HideError"]),("BadStand",["HideError"]),("BadDeed",["HideError"]),("BadRow",["HideError"]),("BadTimes",["HideError"]),("BadName",["HideError"]),("BadText",["HideError"]),("Taken",["HideError"]),
   ("InUse",["HideError"]),("Tapped",["HideError"]),("TooLong",["HideError"]),("TooMany",["HideError"]),("Unlike",["HideError"]),("NoRound",["Missing"]),("NoDrop",["Missing"]),("NoCask",["Missing"]),("NothingLeft",[])]
def d8 (n c:Str):Bool:=decide (n=c) || decide (c∈(xcTab.lookup n).getD [])
def A4j (n:String) (bm:List Value):Bool:=(decide (n="ValueError.__new__") && A1K tlV bm) || ((decide (n="LookupError.__new__") && A1K tlL bm) || (decide (n="IndexError.__new__") && A1K tlI bm))
def A41 (K:PySem.W.Frag) (C:Addr):Bool:=match K.lookup C with
  | some ⟨.type t,_,.cls cd,sl⟩=> decide (t="type") && (match cd.mro,sl.toList with
    | .ref C'::bm,[_,_,_,_,some (.builtin n),_]=> decide (C'=C) && (A4j n bm && (!cd.hasDel && cd.hasDict))
    | _,_=> false)
  | _=> false
def xkB (K:PySem.W.Frag) (x:Str) (fs:List Str):Bool:=
  A41 K (He.ga K x) && (decide (PySem.W.findIn K (.ref (He.ga K x)) "__setattr__"=some (some (.builtin "object.__setattr__"))) && (decide (PySem.W.subIn K (.ref (He.ga K x)) (.type "BaseException")=some true) &&
    (decide (PySem.W.typeIn K (.ref (He.ga K x))=some (.type "type")) && (PySem.W.keepIn K (.ref (He.ga K x)) && (decide (PySem.W.findIn K (.ref (He.ga K x)) "__init__"=some (some (.ref (He.ma K (He.ga K x) "__init__")))) &&
      (decide (PySem.W.typeIn K (.ref (He.ma K (He.ga K x) "__init__"))=some (.type "function")) && (xfB K (He.ga K x) && (("word":Str)::fs).all fun f=> decide (PySem.W.findIn K (.ref (He.ga K x)) f=some none))))))))
def A8z (K:PySem.W.Frag) (ks:List Str) (c:Str):Bool:=ks.all fun k=> decide (PySem.W.exmOne K (.ref (He.ga K k)) (.ref (He.ga K c))=some (d8 k c))
def A8y (K:PySem.W.Frag) (ks:List Str) (f:Str):Bool:=ks.all fun c=> xfB K (He.ga K c) && decide (PySem.W.findIn K (.ref (He.ga K c)) f=some none)
def H7 (i:Nat):Stmt:=PySem.Challenge.pw_hidelater_k01_sizes_judged.main.body.getD i (.Pass ⟨0,0,0,0⟩)
def meth (i j:Nat):Stmt:=match H7 i with
  | .ClassDef _ _ _ b _ _ _ _ _ _ _=> b.getD j (.Pass ⟨0,0,0,0⟩)
  | _=> .Pass ⟨0,0,0,0⟩
abbrev A3x:Stmt:=H7 0
abbrev N0:Stmt:=H7 19
abbrev O1:Stmt:=H7 20
abbrev Q4:Stmt:=H7 21
abbrev Q2:Stmt:=H7 22
abbrev A3d:Stmt:=H7 27
abbrev A3Y:Stmt:=H7 28
abbrev A3g:Stmt:=H7 29
abbrev A3e:Stmt:=H7 30
abbrev A3h:Stmt:=H7 32
abbrev A3t:Stmt:=H7 33
abbrev A4d:Stmt:=H7 34
abbrev A3o:Stmt:=H7 35
abbrev A3R:Stmt:=H7 36
abbrev A3l:Stmt:=H7 43
abbrev A3m:Stmt:=H7 44
abbrev A3T:Stmt:=H7 45
abbrev A3Z:Stmt:=H7 48
abbrev A3i:Stmt:=H7 49
abbrev Q1:Stmt:=H7 53
abbrev N2:Stmt:=H7 54
abbrev O2:Stmt:=H7 55
abbrev O3:Stmt:=H7 56
abbrev O8:Stmt:=H7 57
abbrev P8:Stmt:=H7 58
abbrev O9:Stmt:=H7 59
abbrev P0:Stmt:=H7 60
abbrev O0:Stmt:=meth 46 0
abbrev P9:Stmt:=meth 51 0
abbrev N1:Stmt:=H7 61
abbrev A1z:Stmt:=meth 4 0
def A7O:He.DefD:=⟨("_wall",none),"_wall","_wall",defArgs A3x,defBody A3x,defScope A3x,[],[]⟩
def A5r:He.DefD:=⟨("look_sizes",none),"look_sizes","look_sizes",defArgs N0,defBody N0,defScope N0,[],[]⟩
def A5n:He.DefD:=⟨("look_stand",none),"look_stand","look_stand",defArgs O1,defBody O1,defScope O1,[],[]⟩
def A6Q:He.DefD:=⟨("counted",none),"counted","counted",defArgs Q4,defBody Q4,defScope Q4,[],[]⟩
def A51:He.DefD:=⟨("counts_of",none),"counts_of","counts_of",defArgs Q2,defBody Q2,defScope Q2,[],[]⟩
def A6D:He.DefD:=⟨("has_count",none),"has_count","has_count",defArgs A3d,defBody A3d,defScope A3d,[],[]⟩
def A58:He.DefD:=⟨("first_bad",none),"first_bad","first_bad",defArgs A3Y,defBody A3Y,defScope A3Y,[],[]⟩
def A6J:He.DefD:=⟨("fault_of",none),"fault_of","fault_of",defArgs A3g,defBody A3g,defScope A3g,[],[]⟩
def A5z:He.DefD:=⟨("look_deed",none),"look_deed","look_deed",defArgs A3e,defBody A3e,defScope A3e,[],[]⟩
def A6H:He.DefD:=⟨("ranks_in",none),"ranks_in","ranks_in",defArgs A3h,defBody A3h,defScope A3h,[],[]⟩
def A64:He.DefD:=⟨("moved",none),"moved","moved",defArgs A3t,defBody A3t,defScope A3t,[],[]⟩
def A8d:He.DefD:=⟨("led",none),"led","led",defArgs A4d,defBody A4d,defScope A4d,[],[]⟩
def A6s:He.DefD:=⟨("tapped",none),"tapped","tapped",defArgs A3o,defBody A3o,defScope A3o,[],[]⟩
def A5h:He.DefD:=⟨("behind_deed",none),"behind_deed","behind_deed",defArgs A3R,defBody A3R,defScope A3R,[],[]⟩
def A6T:He.DefD:=⟨("is_name",none),"is_name","is_name",defArgs A3l,defBody A3l,defScope A3l,[],[]⟩
def A6U:He.DefD:=⟨("is_call",none),"is_call","is_call",defArgs A3m,defBody A3m,defScope A3m,[],[]⟩
def A5l:He.DefD:=⟨("call_fault",none),"call_fault","call_fault",defArgs A3T,defBody A3T,defScope A3T,[],[]⟩
def A53:He.DefD:=⟨("step_text",none),"step_text","step_text",defArgs A3Z,defBody A3Z,defScope A3Z,[],[]⟩
def A6K:He.DefD:=⟨("row_text",none),"row_text","row_text",defArgs A3i,defBody A3i,defScope A3i,[],[]⟩
def A54:He.DefD:=⟨("_law_open",none),"_law_open","_law_open",defArgs Q1,defBody Q1,defScope Q1,[],[]⟩
def A52:He.DefD:=⟨("_law_take",none),"_law_take","_law_take",defArgs N2,defBody N2,defScope N2,[],[]⟩
def A5x:He.DefD:=⟨("_law_pick",none),"_law_pick","_law_pick",defArgs O2,defBody O2,defScope O2,[],[]⟩
def A5u:He.DefD:=⟨("_law_same",none),"_law_same","_law_same",defArgs O3,defBody O3,defScope O3,[],[]⟩
def A5i:He.DefD:=⟨("_law_sizes",none),"_law_sizes","_law_sizes",defArgs O8,defBody O8,defScope O8,[],[]⟩
def A5d:He.DefD:=⟨("_law_any_sizes",none),"_law_any_sizes","_law_any_sizes",defArgs P8,defBody P8,defScope P8,[],[]⟩
def A5s:He.DefD:=⟨("_law_flaw",none),"_law_flaw","_law_flaw",defArgs O9,defBody O9,defScope O9,[],[]⟩
def A6E:He.DefD:=⟨("_law_told",none),"_law_told","_law_told",defArgs P0,defBody P0,defScope P0,[],[]⟩
def A8U:He.DefD:=⟨("law",none),"law","law",defArgs N1,defBody N1,defScope N1,[],[]⟩
def A5f:He.DefD:=⟨("Book",some "__init__"),"__init__",(("Book":Str)++"."++"__init__"),defArgs O0,defBody O0,defScope O0,[],[]⟩
def A5b:He.DefD:=⟨("Loft",some "__init__"),"__init__",(("Loft":Str)++"."++"__init__"),defArgs P9,defBody P9,defScope P9,[],[]⟩
def A6A:He.DefD:=⟨("BadSizes",some "__init__"),"__init__","BadSizes.__init__",defArgs A1z,defBody A1z,defScope A1z,[],[]⟩
def hFn:List He.DefD:=[A7O,A5r,A5n,A6Q,A51,A6D,A58,A6J,A5z,A6H,A64,A8d,A6s,A5h,A6T,A6U,A5l,A53,A6K,A54,A52,A5x,A5u,A5i,A5d,A5s,A6E,A8U,A6A,A5f,A5b]
def hFa:List He.Fa:=[.glo "_wall",.glo "look_sizes",.glo "look_stand",.glo "counted",.glo "counts_of",.glo "has_count",.glo "first_bad",.glo "fault_of",.glo "look_deed",.glo "ranks_in",.glo "moved",.glo "led",.glo "tapped",.glo "behind_deed",.glo "is_name",.glo "is_call",.glo "call_fault",.glo "step_text",.glo "row_text",.glo "_law_open",.glo "_law_take",.glo "_law_pick",.glo "_law_same",.glo "_law_sizes",.glo "_law_any_sizes",.glo "_law_flaw",.glo "_law_told",.glo "law",.free "all",.free "bool",.free "enumerate",.free "int",.free "isinstance",.free "len",.free "list",.free "min",.free "range",.free "str",.free "tuple",.int "GONE" (-1),.int "GREAT" 1000000000000000000000000000000,.str "LETTERS" ("abcdefghijklmnopqrstuvwxyz":Str),.int "LONGEST" 8,.int "MOST_CALLS" 9,.int "MOST_CASKS" 6,.int "MOST_DROPS" 60,.int "MOST_SIZE" 40,.glo "PATHS",.glo "PLAIN",.glo "BadSizes",.glo "Book",.glo "Loft",.cls "Book",.cls "Loft",.noat "Book" "casks",.noat "Book" "laid",.noat "Book" "written",.noat "Loft" "book",.noat "Loft" "casks",.noat "Loft" "later",.noat "Loft" "now",.noat "Loft" "past",.meth "Book" "__init__",.meth "Loft" "__init__",.mkr "Book",.mkr "Loft"]
def hEx:PySem.W.Frag→Bool:=fun K=> He.tupB K "PATHS" [.str ("over":Str),.str ("down":Str)] && He.tupB K "PLAIN" [.str ("swap":Str),.str ("tap":Str),.str ("drain":Str)] && A47 K ("law",none) "law" && A8s K && xkB K "BadSizes" ["cask"] && A8z K ["BadSizes"] "BadSizes" && A8y K ["BadSizes"] "cask"
def hLs:List (Str×Option Str):=[("law",none)]
def B41:List Str:=["_wall","__name__","HideError","Missing","BadSizes","BadStand","BadDeed","BadRow","BadName","Taken","TooLong","TooMany","NoRound","NoCask","MOST_CASKS","MOST_SIZE","MOST_DROPS","GONE","look_sizes","look_stand","counted","counts_of","GREAT","PATHS","PLAIN","has_count","first_bad","fault_of","look_deed","ranks_in"]
def B4d:List Str:=["moved","led","tapped","behind_deed","MOST_ROUNDS","MOST_FLAT","MOST_CALLS","LONGEST","LETTERS","is_name","is_call","call_fault","Book","step_text","row_text","Loft","_law_open","_law_take","_law_pick","_law_same","_law_sizes","_law_any_sizes","_law_flaw","_law_told"]
def hNms:List Str:=B41++B4d
abbrev hR:PySem.W.OpenRow:=PySem.W.OpenLaw.row PySem.Challenge.rw_hidelater_k01_sizes_judged
abbrev hHk:PySem.W.Hook:=A8b hFa hFn hEx hLs
def hOb (s:PySem.W.SharedT):AlK:=A4z hFa hFn hEx hLs (HandSHeadRun.getT s)
theorem hOb_eq (s:PySem.W.SharedT):hOb s=hHk.obs s.abs:=B2G (HandSHeadRun.getT_eq s)
section
open HandSHeadRun PySem.W
theorem B3d {α β γ δ:Type} {o:Option α} {f:α→β} {g:α→γ} {k:α→δ} {x:β} {y:γ} {z:δ} (h1:o.map f=some x) (h2:o.map g=some y) (h3:o.map k=some z):o.map (fun s=> (f s,g s,k s))=some (x,y,z):=by
  cases o with
  | none=> cases h1
  | some s=>
    injection h1 with h1
    injection h2 with h2
    injection h3 with h3
    subst h1 h2 h3
    rfl
theorem B3c (w:World) (os:OsState):(endF (stepQ (denQ tabQ) hR.prog w) 13000 hR.prog w os).map (fun s=> looksF hR.prog (boot_heap w.params) s.abs)=some true:=by kernel_rfl
theorem B3Y (w:World) (os:OsState):(endF (stepQ (denQ tabQ) hR.prog w) 13000 hR.prog w os).map (fun s=> seenQ (PySem.W.view hR.prog [61]) hNms (importedModules hR.prog.main.body) (fun s=> xlAt (PySem.W.view hR.prog [61]) [] s && recOk hR.toRowW.records s) s.abs)=some (openGood (PySem.W.view hR.prog [61]) hNms):=by kernel_rfl
theorem B3f (w:World) (os:OsState):(endF (stepQ (denQ tabQ) hR.prog w) 13000 hR.prog w os).map hOb=some (hHk.val w):=by kernel_rfl
theorem hRun (w:World):HandSHeadRun.RunEq hR (PySem.W.view hR.prog [61]) hHk hOb 13000 hNms w:=fun os=> B3d (B3c w os) (B3Y w os) (B3f w os)
end
end Ab
namespace Ab
open PySem PySem.Spec PyProof.Rows L2
open Builtin Builtin.ObjectAttr in
structure MroG (bm bmB:List Value):Prop where
  cont:∀X:String,bm.contains (.type X)=bmB.contains (.type X)
  pass:∀self:Value,refuseLoop self "__setattr__" bm=pure ()
  ne:bm.isEmpty=false
  ob:bmB.contains (.type "object")=true
open Builtin Builtin.ObjectAttr in
theorem MroG.cons {bm bmB:List Value} (m:MroG bm bmB) (c:Addr):MroG (.ref c::bm) bmB:=
  ⟨fun X=> by rw [List.contains_cons,m.cont];rfl,fun s=> by rw [refuseLoop_ref];exact m.pass s,rfl,m.ob⟩
theorem A3k {tl:List Value} (m:MroG tl tl):∀l:List Value,A1K tl l=true→MroG l tl:=by
  intro l
  induction l with
  | nil=> exact fun e=> (show ([]:List Value)=tl from beq_iff_eq.mp e)▸m
  | cons a r ih=>
    intro e
    cases a with
    | ref c=> exact (ih e).cons c
    | _=> rw [show (_::r:List Value)=tl from beq_iff_eq.mp e];exact m
theorem B3U:MroG tlV tlV:=⟨fun _=> rfl,fun s=> F.store_ValueError.passes s,rfl,by decide+kernel⟩
theorem B4J:MroG tlL tlL:=⟨fun _=> rfl,fun s=> by kernel_rfl,rfl,by decide+kernel⟩
theorem B3O:MroG tlI tlI:=⟨fun _=> rfl,fun s=> by kernel_rfl,rfl,by decide+kernel⟩
structure OexG (K:PySem.W.Frag) (C:Addr):Prop where
  cls:∃nm q N bs bm bmB B newId initId sn sub ab col dd k0 k1 k2 k3 k5,K.lookup C=some (excClassObj nm q C N bs bm true sn sub ab col dd k0 k1 k2 k3 k5 newId)∧ExcBaseFacts B newId initId bmB∧MroG bm bmB
  sa:PySem.W.findIn K (.ref C) "__setattr__"=some (some (.builtin "object.__setattr__"))
  exC:PySem.W.subIn K (.ref C) (.type "BaseException")=some true
  tyC:PySem.W.typeIn K (.ref C)=some (.type "type")
  kC:PySem.W.keepIn K (.ref C)=true
section
open Builtin Builtin.ObjectAttr
variable {prog:Program} {w:World} {A:Around} {E:Value→Shared→Prop} {R:Result→Shared→Prop} {hp:Heap} {g:Array GenState} {d:Drawn} {t:Nat} {os:OsState}
theorem B1L {K:PySem.W.Frag} {name:Str} {tk:Tok} {v:Value} {x C:Addr} {fv:Array Value} {cd:ClassData} {bmB:List Value} (X:K.In hp) (hx:hp.get? x=some { cls:= .ref C,data:= .fields fv }) (hcd:PySem.W.clsIn K C=some cd) (hm:MroG cd.mro bmB)
    (hh:cd.hasDict=true) (ha:PySem.W.findIn K (.ref C) name=some none)
    (hq:∀h' tk' dx,(∀b o,b≠x→hp.get? b=some o→h'.get? b=some o)→hp.objs.size≤dx→dx≠x→h'.get? x=some { cls:= .ref C,dict:=some dx,data:= .fields fv }→
      h'.Ns1 dx (fun y=> if y=name then some v else none)→R (.ok (.ret .none)) ⟨h',g,d,tk',os⟩):
    codeAny (model prog w) A (.call (.builtin "object.__setattr__") ⟨[.ref x,.str name tk,v],[]⟩) R ⟨hp,g,d,t,os⟩:=by
  have I:PySem.W.InstAt hp x { cls:= .ref C,data:= .fields fv } C none:=⟨hx,rfl,rfl,trivial⟩
  have SF:=F.store_object
  have ne:=hm.ne
  have hob:cd.mro.contains (.type "object")=true:=(hm.cont "object").trans hm.ob
  have hxs:x≠hp.objs.size:=Nat.ne_of_lt (Heap.lt_size hx)
  have sub:PySem.W.Looks (model prog w) hp (isInstance (.ref x) (.type "object")) true:=I.type.andThen (PySem.W.looks_mroIn X (by unfold PySem.W.mroIn;rw [hcd,Option.bind_some,if_neg (by rw [ne];decide),hob]))
  refine codeAny_call_builtin SF.slot.plain SF.entry (@PySem.W.check_slot (model prog w) _ _ ⟨hp,g,d,t,os⟩ "object.__setattr__" "object" "__setattr__" (.ref x) [.str name tk,v] [] _ SF.kind SF.split sub (SF.args (.ref x) (.str name tk) v) ?_)
  have hmr:PySem.W.Looks (model prog w) hp (mroOf (.ref C)) cd.mro:=(PySem.W.looks_clsIn X hcd).andThen .now
  have L3:PySem.W.Looks (model prog w) hp (storeTaker? none) none:= .now
  have hcls:PySem.W.Looks (model prog w) hp (classData C) cd:=PySem.W.looks_clsIn X hcd
  rw [PySem.W.osa_eq,refuse_eq]
  refine wpAny_bind (wpAny_bind (I.type.at (wpAny_bind (hmr.at ?_))))
  rw [hm.pass]
  refine wpAny_pure (wpAny_bind (I.type.at (wpAny_bind ((PySem.W.looks_findIn X ha).at (wpAny_bind (L3.at ?_))))))
  show wpAny _ _ (storeInOwnDict (.ref x) (.ref C) (.str name tk) name v false) _ _ _
  obtain ⟨nm,bs,mro,ns,qn,hd,sn,sb,ab,col,del⟩:=cd
  dsimp only at hh
  subst hh
  unfold storeInOwnDict ownDictForStores
  repeat (first | with_reducible refine PySem.HandSPX.store_in_new ?_ ?_ | with_reducible refine wpAny_loadPart_at hx ?_ | with_reducible refine hcls.at ?_ | wp_step)
  · exact ⟨_,#[],_,(Heap.get?_update_ne _ _ _ _ hxs.symm).trans (Heap.get?_push_at rfl rfl),rfl,fun e he=> absurd he (by simp),fun _=> rfl⟩
  · intro h' tk' hn' hs
    have hx₁:(hp.push { cls:= .type "dict",data:= .dict #[] }).get? x=some { cls:= .ref C,data:= .fields fv }:=Heap.get?_push_of_some _ hx
    refine hq h' tk' hp.objs.size (fun b o hb ho=> ?_) (Nat.le_refl _) hxs.symm ?_ hn'
    · exact (hs.2 b (Nat.ne_of_lt (Heap.lt_size ho))).trans ((Heap.get?_update_ne _ _ _ _ hb).trans (Heap.get?_push_of_some _ ho))
    · exact (hs.2 x hxs).trans (Heap.get?_update_self _ hx₁ rfl)
theorem B1H {K:PySem.W.Frag} {name:Str} {tk:Tok} {v:Value} {x C dx:Addr} {fv:Array Value} {cd:ClassData} {bmB:List Value} {m0:Str→Option Value} {nl:List Str} (X:K.In hp) (hx:hp.get? x=some { cls:= .ref C,dict:=some dx,data:= .fields fv }) (hns:hp.Ns1 dx m0)
    (hw:Within m0 nl) (hz:nl.length≤1000) (hcd:PySem.W.clsIn K C=some cd) (hm:MroG cd.mro bmB) (hh:cd.hasDict=true) (ha:PySem.W.findIn K (.ref C) name=some none)
    (hq:∀h' tk',(∀b o,b≠dx→hp.get? b=some o→h'.get? b=some o)→h'.Ns1 dx (fun y=> if y=name then some v else m0 y)→R (.ok (.ret .none)) ⟨h',g,d,tk',os⟩):
    codeAny (model prog w) A (.call (.builtin "object.__setattr__") ⟨[.ref x,.str name tk,v],[]⟩) R ⟨hp,g,d,t,os⟩:=by
  obtain ⟨oD,esD,epD,hoD,hdD,_⟩:=hns.count hw
  have I:PySem.W.InstAt hp x { cls:= .ref C,dict:=some dx,data:= .fields fv } C (some oD):=⟨hx,rfl,rfl,hoD⟩
  have SF:=F.store_object
  have ne:=hm.ne
  have hob:cd.mro.contains (.type "object")=true:=(hm.cont "object").trans hm.ob
  have sub:PySem.W.Looks (model prog w) hp (isInstance (.ref x) (.type "object")) true:=I.type.andThen (PySem.W.looks_mroIn X (by unfold PySem.W.mroIn;rw [hcd,Option.bind_some,if_neg (by rw [ne];decide),hob]))
  refine codeAny_call_builtin SF.slot.plain SF.entry (@PySem.W.check_slot (model prog w) _ _ ⟨hp,g,d,t,os⟩ "object.__setattr__" "object" "__setattr__" (.ref x) [.str name tk,v] [] _ SF.kind SF.split sub (SF.args (.ref x) (.str name tk) v) ?_)
  have hmr:PySem.W.Looks (model prog w) hp (mroOf (.ref C)) cd.mro:=(PySem.W.looks_clsIn X hcd).andThen .now
  have L3:PySem.W.Looks (model prog w) hp (storeTaker? none) none:= .now
  have hcls:PySem.W.Looks (model prog w) hp (classData C) cd:=PySem.W.looks_clsIn X hcd
  rw [PySem.W.osa_eq,refuse_eq]
  refine wpAny_bind (wpAny_bind (I.type.at (wpAny_bind (hmr.at ?_))))
  rw [hm.pass]
  refine wpAny_pure (wpAny_bind (I.type.at (wpAny_bind ((PySem.W.looks_findIn X ha).at (wpAny_bind (L3.at ?_))))))
  show wpAny _ _ (storeInOwnDict (.ref x) (.ref C) (.str name tk) name v false) _ _ _
  obtain ⟨nm,bs,mro,ns,qn,hd,sn,sb,ab,col,del⟩:=cd
  dsimp only at hh
  subst hh
  unfold storeInOwnDict ownDictForStores
  repeat (first | with_reducible refine PySem.OEX.store_in_old hns hw hz ?_ | with_reducible refine wpAny_loadPart_at hx ?_ | with_reducible refine hcls.at ?_ | wp_step)
  intro h' tk' hn' hs
  exact hq h' tk' (fun b o hb ho=> (hs.2 b hb).trans ho) hn'
end
section
variable {X:Cx} {pins:List (Addr×Obj)} {σ:L2.St} {H:Hp} {s:Shared} {a C dx:Addr} {f:Str} {y:V} {u:Value} {fs:List (Str×V)} {Q:Unit→Shared→Prop} {E:Value→Shared→Prop} {A:Around}
theorem OexG.data {K:PySem.W.Frag} (T:OexG K C):∃cd bmB,PySem.W.clsIn K C=some cd∧MroG cd.mro bmB∧cd.hasDict=true:=by
  obtain ⟨nm,q,N,bs,bm,bmB,B,ni,ii,sn,sub,ab,col,dd,k0,k1,k2,k3,k5,hC,_,hm⟩:=T.cls
  exact ⟨{ name:=nm,bases:=bs,mro:= .ref C::bm,ns:=N,qualname:=q,hasDict:=true,slotNames:=sn,subclasses:=sub,abstract:=ab,collection:=col,hasDel:=false },bmB,by unfold PySem.W.clsIn;rw [hC] <;> rfl,hm.cons C,rfl⟩
theorem B1Y (T:OexG X.K C) (I:L2.Inv X pins σ H s) (e:H a=some (exo a C none)) (hno:PySem.W.findIn X.K (.ref C) f=some none) (ry:RelV y u)
    (h:∀dx s',H dx=none→dx≠a→L2.Inv X pins σ (upd (upd H dx (exd dx [(f,y)])) a (exo a C (some dx))) s'→Q () s'):wpAny (model X.prog X.w) A (setAttr (.ref a) f u) Q E s:=by
  obtain ⟨cd,bmB,hcl,hm,hh⟩:=T.data
  obtain ⟨t1,ho⟩:=exo_at I.hok e
  obtain ⟨hp,g,d,t,os⟩:=s
  refine PySem.W.set_plain I.kIn (ox:={ cls:= .ref C,dict:=none,data:= .fields #[.ref t1,.none,.none,.none,.bool false,.none] }) (od:=none) ⟨ho,rfl,rfl,trivial⟩ T.sa ?_
  refine B1L I.kIn ho hcl hm hh hno (fun h' tk' dx k dn dne hx hn=> ?_)
  have hnd:H dx=none:=I.hok.fresh dn
  have nd:∀{b:Addr} {o:Obj},hp.get? b=some o→b≠dx:=fun {b o} q=> Nat.ne_of_lt (Nat.lt_of_lt_of_le (Heap.lt_size q) dn)
  have na:∀{b:Addr},H b=none→b≠a:=fun {b} n z=> by
    rw [z,e] at n
    cases n
  have U1:Un X.fs [] H (upd (upd H dx (exd dx [(f,y)])) a (exo a C (some dx))) hp h':={
    keep:=fun b o q n _ _=> k b o (na n) q
    slot:=fun b o q n _ _=> ⟨o.slots,k b o (na n) q⟩
    free:=fun b o q n _=> by rw [upd_ne (na n),upd_ne (nd q)];exact n
    there:=fun b o q _=> by
      by_cases hb:b=a
      · exact ⟨_,by rw [hb];exact hx⟩
      · exact ⟨o,k b o hb q⟩
    tups:=fun b xs q=> by rw [upd_ne (at_ne e q exo_tup),upd_ne (ne_of_none q hnd)];exact q
    frzs:=fun b o v q=> by rw [upd_ne (at_ne e q exo_frz),upd_ne (ne_of_none q hnd)];exact q
    tbls:=fun b ps q=> ⟨#[],by rw [upd_ne (at_ne e q exo_tbl),upd_ne (ne_of_none q hnd),q];simp⟩ }
  refine h dx _ hnd dne (I.un (t':=tk') U1 fun b o q=> ?_)
  by_cases hb:b=a
  · subst hb
    rw [upd_same] at q
    cases q
    exact exo_ok hx
  rw [upd_ne hb] at q
  by_cases hd:b=dx
  · subst hd
    rw [upd_same] at q
    cases q
    exact exd_ok hn (relO_put (fs:=[]) ry fun g=> True.intro)
  rw [upd_ne hd] at q
  exact (I.hok b o q).stay (fun c v hc z=> k c v (by
      rcases hc with hc | hc
      · rw [hc];exact hb
      · exact at_ne e hc exo_own) z)
    (fun c hc=> by rw [upd_ne (at_ne e hc exo_own),upd_ne (ne_of_none hc hnd)];exact hc) (fun c xs hc=> by rw [upd_ne (at_ne e hc exo_tup),upd_ne (ne_of_none hc hnd)];exact hc)
theorem B1b (T:OexG X.K C) (I:L2.Inv X pins σ H s) (e:H a=some (exo a C (some dx))) (ed:H dx=some (exd dx fs)) (hl:fs.length≤900) (hno:PySem.W.findIn X.K (.ref C) f=some none) (ry:RelV y u)
    (h:∀s',L2.Inv X pins σ (upd H dx (exd dx ((f,y)::fs))) s'→Q () s'):wpAny (model X.prog X.w) A (setAttr (.ref a) f u) Q E s:=by
  obtain ⟨cd,bmB,hcl,hm,hh⟩:=T.data
  obtain ⟨t1,ho⟩:=exo_at I.hok e
  obtain ⟨mA,hns,rel⟩:=exd_at I.hok ed
  have hw:=within_of rel
  obtain ⟨hp,g,d,t,os⟩:=s
  obtain ⟨oD,_,_,hoD,_,_⟩:=hns.count hw
  refine PySem.W.set_plain I.kIn (ox:={ cls:= .ref C,dict:=some dx,data:= .fields #[.ref t1,.none,.none,.none,.bool false,.none] }) (od:=some oD) ⟨ho,rfl,rfl,hoD⟩ T.sa ?_
  refine B1H I.kIn ho hns hw (by rw [List.length_map];omega) hcl hm hh hno (fun h' tk' k hn=> ?_)
  have hd:∃o,h'.get? dx=some o:=by
    obtain ⟨o,_,_,e',_⟩:=hn
    exact ⟨o,e'⟩
  exact h _ (I.write (t':=tk') (x:=dx) (e:=dx) (o:=exd dx ((f,y)::fs)) (by rw [ed];exact True.intro) (.inl rfl) k hd (exd_ok hn (relO_put ry rel)))
end
def B4S (K:PySem.W.Frag) (f:Str) (to te:TE):TS:=fun D σ H=> te σ H fun y H1=> to σ H1 fun x H2=> ∃a C:Addr,x= .ref a∧OexG K C∧PySem.W.findIn K (.ref C) f=some none∧
  ((H2 a=some (exo a C none)∧∀dx,H2 dx=none→dx≠a→D.nx σ (upd (upd H2 dx (exd dx [(f,y)])) a (exo a C (some dx))))∨
    ∃(dx:Addr) (fs:List (Str×V)),H2 a=some (exo a C (some dx))∧H2 dx=some (exd dx fs)∧fs.length≤900∧D.nx σ (upd H2 dx (exd dx ((f,y)::fs))))
section
variable {X:Cx} {o e:Expr} {es:List Expr} {to te:TE} {ta:TA} {f:Str} {p p' pos:Pos}
theorem A7Q (ho:PE X o to) (he:PE X e te) (hs:swapsWith e (some (.Attribute o f p')) pos.line X.env=pure false:=by rfl):PS X (.Assign [.Attribute o f p'] e pos) (B4S X.K f to te):=by
  refine ⟨fun pins s σ H D I h=> ?_⟩
  refine plainObj_wpAny_Assign_Attribute (thn (he.run pins s σ H _ I h) fun v s1 ⟨y,H1,I1,r1,q1⟩=> thn (ho.run pins s1 σ H1 _ I1 q1) fun u s2 ⟨x,H2,I2,r2,a,C,ex,T,hno,q⟩=> ?_) hs
  subst ex
  obtain rfl:u=Value.ref a:=r2
  rcases q with ⟨ea,q⟩ | ⟨dx,fs,ea,ed,hl,q⟩
  · exact B1Y T I2 ea hno r1 fun dx s' n ne J=> ⟨σ,_,J,q dx n ne⟩
  · exact B1b T I2 ea ed hl hno r1 fun s' J=> ⟨σ,_,J,q⟩
abbrev MkG (C:Addr) (sp:Sp) (vs:List V) (H1:Hp) (Q:XK):Prop:=vs.length≤1000∧∀a,H1 a=none→sp (.ref a::vs) (upd H1 a (exo a C none))
  (fun v H2=> v= .non∧∃(d:Addr) (fs:List (Str×V)),H2 a=some (exo a C (some d))∧H2 d=some (exd d fs)∧H1 d=none∧Q (.ref C) (some d) (upd (L2.del H2 a) d (.xd fs))) (fun _ _ _=> False)
theorem B2i {CX:CXT} {C fI:Addr} {k:Nat} {fd:FuncData} {ps:List Str} {sp:Sp} {pins:List (Addr×Obj)} {s:Shared} {σ:L2.St} {H:Hp} {us:List Value} {vs:List V} {Q:XK} (T:OexG X.K C) (iC:PySem.W.findIn X.K (.ref C) "__init__"=some (some (.ref fI)))
    (tI:PySem.W.typeIn X.K (.ref fI)=some (.type "function")) (F1:FnOk X.prog X.w X.K X.mg X.base CX k fI fd ps sp) (hr:Room (k+1) X.A) (hb:Binds X.K fd ps []) (hx:Passes CX X (fun _ _ _=> False)) (I1:L2.Inv X pins σ H s) (r1:Vals vs us) (q1:MkG C sp vs H Q):
    wpAny (model X.prog X.w) X.A (call (.ref C) us) (MkP X pins σ Q) X.xe s:=by
  obtain ⟨nm,q,N,bs,bm,bmB,B,ni,ii,sn,sub,ab,col,dd,k0,k1,k2,k3,k5,hC,FB,hm⟩:=T.cls
  obtain ⟨hz,q1⟩:=q1
  obtain ⟨hp,g,dr,tk,os⟩:=s
  have hsz:hp.objs.size≤hp.objs.size+1:=Nat.le_succ _
  have hn:H (hp.objs.size+1)=none:=I1.hok.fresh hsz
  have hq:=q1 (hp.objs.size+1) hn
  have kk:∀b o,hp.get? b=some o→((hp.push (PySem.W.kdv_tup us)).push (PySem.HandSPX.excO C hp.objs.size)).get? b=some o:=fun b o e=> Heap.get?_push_of_some _ (Heap.get?_push_of_some _ e)
  have hget:((hp.push (PySem.W.kdv_tup us)).push (PySem.HandSPX.excO C hp.objs.size)).get? (hp.objs.size+1)=some (PySem.HandSPX.excO C hp.objs.size):=by heap_get
  have I2:L2.Inv X pins σ (upd H (hp.objs.size+1) (exo (hp.objs.size+1) C none)) ⟨(hp.push (PySem.W.kdv_tup us)).push (PySem.HandSPX.excO C hp.objs.size),g,dr,tk,os⟩:=
    I1.laid (t':=tk) (a:=hp.objs.size+1) (o:=exo (hp.objs.size+1) C none) (h':=(hp.push (PySem.W.kdv_tup us)).push (PySem.HandSPX.excO C hp.objs.size)) kk hsz (exo_ok hget)
  have r2:Vals (V.ref (hp.objs.size+1)::vs) (Value.ref (hp.objs.size+1)::us):= .cons rfl r1
  have hl:((Value.ref (hp.objs.size+1)::us)++[]).length=ps.length:=by
    have e:=r2.length
    rw [F1.len _ _ _ _ hq] at e
    rw [List.append_nil]
    exact e.symm
  have hus:us.length≤sizeLine:=by
    rw [←Paired.length r1,sizeLine_eq]
    omega
  have b2:=hb _ (Value.ref (hp.objs.size+1)::us) I2.kIn hl
  rw [List.append_nil] at b2
  refine wpAny_call (PySem.HandSPX.call_own FB hm.cont (I1.kIn _ _ hC) (PySem.W.looks_findIn I1.kIn iC) (fun self=> PySem.W.bind_fn I1.kIn self tI) hus
    (codeAny_mono (F1.run _ X.stack _ _ ⟨Value.ref (hp.objs.size+1)::us,[]⟩ (Value.ref (hp.objs.size+1)::us) _ _ (fun _ _ _=> False) (hr.make C us []) (I2.env0.make C us []) b2 r2 hq) fun r s' hq'=> ?_))
  cases r with
  | error er=> exact hx pins σ _ _ er s' I2 hq'
  | ok fl=>
    cases fl with
    | ret u=>
      obtain ⟨v,H2,os2,bare2,un2,hok2,rv,ev,d,fs,ea,ed,hd1,q2⟩:=hq'
      subst ev
      obtain ⟨h2,g2,d2,t2,os'⟩:=s'
      exact ⟨rv,mk_end (raises_own T.exC T.tyC) I1 hsz kk un2 hok2 os2 bare2 ea ed hd1 q2⟩
    | next=> exact False.elim hq'
    | brk=> exact False.elim hq'
    | cont=> exact False.elim hq'
def B43 (C:Addr) (sp:Sp) (ta:TA):L2.St→Hp→XK→Prop:=fun σ H Q=> ta σ H fun vs H1=> MkG C sp vs H1 Q
theorem B3Q {CX:CXT} {x:Str} {C fI:Addr} {k:Nat} {fd:FuncData} {ps:List Str} {sp:Sp} (T:OexG X.K C) (iC:PySem.W.findIn X.K (.ref C) "__init__"=some (some (.ref fI))) (tI:PySem.W.typeIn X.K (.ref fI)=some (.type "function"))
    (F1:FnOk X.prog X.w X.K X.mg X.base CX k fI fd ps sp) (hr:Room (k+1) X.A) (hb:Binds X.K fd ps []) (hx:Passes CX X (fun _ _ _=> False)) (hg:Gl X x) (hm:X.mg x=some (.ref C)) (ha:PA X (e::es) ta)
    (hdb:(x==("__debug__":Str))=false:=by decide) (he:starEach (e::es) X.env=(false,eval e X.env)::starEach es X.env:=by rfl) (hpl:(backTo pos (starEach es X.env)).any (·.1)=false:=by rfl):
    PMk X (.Call (.Name x p) (e::es) [] pos) (B43 C sp ta):=by
  intro pins s σ H Q I h
  refine wpAny_Call_Name_kw (ld_glob I hg hm ?_ hdb)
  exact PySem.W.callWith_K (h₀:=X.base) I.ok.mod.kin T.kC (thn (ha.run pos pins s σ H _ I h) fun us s1 ⟨vs,H1,I1,r1,q1⟩=> ⟨I1.kIn,B2i T iC tI F1 hr hb hx I1 r1 q1⟩) he hpl
end
def initF {α:Type} (word:α) (fs:List Str) (vs:List α):List (Str×α):=(fs.zip vs).reverse++[(("word":Str),word)]
def A7c (C:Addr) (word:Str) (fs:List Str):Sp:=fun vs H Q _=> ∃a us,vs= .ref a::us∧us.length=fs.length∧H a=some (exo a C none)∧
  ∀d H2,H d=none→d≠a→H2 a=some (exo a C (some d))→H2 d=some (exd d (initF (V.str word) fs us))→(∀b,b≠a→b≠d→H2 b=H b)→Q .non H2
section
variable {P:Program} {w:World} {K:PySem.W.Frag} {mg:Str→Option Value} {base:Heap} {qual word f g:Str} {params:Arguments} {scope:Scope} {fI C:Addr} {fd:FuncData} {q1 q2 q3 q4 q5 q6 q7 q8 r5 r6 r7 r8:Pos} {j:Nat}
theorem B3e (F:FunD K "__init__" qual params [.Assign [.Attribute (.Name "self" q1) "word" q2] (.Constant (.str word) j q3) q4,.Assign [.Attribute (.Name "self" q5) f q6] (.Name f q7) q8] scope [] [] fI fd) (S:FnScope ["self",f] ["self",f] scope)
    (T:OexG K C) (nw:PySem.W.findIn K (.ref C) "word"=some none) (nf:PySem.W.findIn K (.ref C) f=some none) (hd:(f==("__debug__":Str))=false:=by decide) (hcd:(f==("__classdict__":Str))=false:=by decide):
    FnOk P w K mg base (L2.CX P w) 1 fI fd ["self",f] (A7c C word [f]):=by
  have v0:Vis scope "self":=(S.par "self" (by simp)).imp id .inl
  have v1:Vis scope f:=(S.par f (by simp)).imp id .inl
  refine F.ok S (fun vs H Q E ⟨a,us,e,l,_⟩=> by rw [e];simpa using l) fun cdv A outer s H vs Q E hr ⟨a,us,e,l,ea,q⟩=> ?_
  subst e
  obtain ⟨y,rfl⟩:∃y,us=[y]:=by
    match us,l with
    | [y],_=> exact ⟨y,rfl⟩
  refine ⟨_,pss_cons (A7Q (pe_var (i:=0) rfl v0) pe_str) (pss_one (A7Q (pe_var (i:=0) rfl v0) (pe_var (i:=1) rfl v1 hd hcd))),?_⟩
  refine ⟨.ref a,rfl,a,C,rfl,T,nw,.inl ⟨ea,fun d nd da=> ?_⟩⟩
  refine ⟨y,rfl,.ref a,rfl,a,C,rfl,T,nf,.inr ⟨d,_,upd_same,by rw [upd_ne da,upd_same],by simp,?_⟩⟩
  exact q d _ nd da (by rw [upd_ne (Ne.symm da),upd_same]) (by rw [upd_same];rfl) fun b h1 h2=> by rw [upd_ne h2,upd_ne h1,upd_ne h2]
end
structure XkOk (P:Program) (w:World) (K:PySem.W.Frag) (mg:Str→Option Value) (base:Heap) (x word:Str) (fs:List Str):Prop where
  gl:mg x=some (.ref (He.ga K x))
  cls:OexG K (He.ga K x)
  ini:∃fI fd ps,PySem.W.findIn K (.ref (He.ga K x)) "__init__"=some (some (.ref fI))∧PySem.W.typeIn K (.ref fI)=some (.type "function")∧Binds K fd ps []∧FnOk P w K mg base (L2.CX P w) 1 fI fd ps (A7c (He.ga K x) word fs)
def A2Z (E:AExc→A0→AH→Prop) (x word:Str) (fs:List Str) (t:B7):B4:=fun _ env h=> t env h fun ws env1 h1=> E ⟨x,initF (W.str word) fs ws⟩ env1 h1
theorem RepL.initF {K:PySem.W.Frag} {H:Hp} {word:Str}:∀{fs:List Str} {ws:List W} {vs:List V},RepL K H ws vs→ws.length=fs.length→FRep K H (initF (W.str word) fs ws) (initF (V.str word) fs vs):=fun {fs ws vs} r l=> by
  have lv:vs.length=fs.length:=by rw [←r.length,l]
  refine ⟨?_,?_⟩
  · unfold Ab.initF
    rw [List.map_append,List.map_append,List.map_reverse,List.map_reverse,List.map_fst_zip (by omega),List.map_fst_zip (by omega)]
    rfl
  · unfold Ab.initF
    rw [List.map_append,List.map_append,List.map_reverse,List.map_reverse,List.map_snd_zip (by omega),List.map_snd_zip (by omega)]
    refine RepL.append ?_ (.cons .str .nil)
    clear l lv
    induction ws generalizing vs with
    | nil=> rw [r.of_nil];exact .nil
    | cons w ws ih=>
      obtain ⟨v,t,rfl,a,b⟩:=r.of_cons
      rw [List.reverse_cons,List.reverse_cons]
      exact (ih b).append (.cons a .nil)
section
variable {X:Cx} {G:Gx} {x word:Str} {fs:List Str} {t:B7} {e:Expr} {es:List Expr} {E:AExc→A0→AH→Prop} {p pos pos2:Pos} {k:Nat}
theorem A6m (R:XkOk X.prog X.w X.K X.mg X.base x word fs) (gk:G.K=X.K) (hc:X.calm=true) (tk:Takes X (cW G E)) (hr:Room k X.A) (hk:2≤k) (hg:Gl X x) (ha:AN X G (e::es) fs.length t) (hl:fs.length≤900:=by decide)
    (hdb:(x==("__debug__":Str))=false:=by decide) (he:starEach (e::es) X.env=(false,eval e X.env)::starEach es X.env:=by rfl) (hpl:(backTo pos (starEach es X.env)).any (·.1)=false:=by rfl):
    AS X G (.Raise (some (.Call (.Name x p) (e::es) [] pos)) none pos2) (A2Z E x word fs t):=by
  obtain ⟨fI,fd,ps,iC,tI,hb,F⟩:=R.ini
  refine ⟨fun D D' env h l q=> q,PS.imp (ps_raise hc tk (B3Q R.cls iC tI F (hr.mono hk) hb (passes_call (W:=fun _ _ _ _=> False) takes0 fun _ _ _ _ z=> z) hg R.gl ha.aa.pa hdb he hpl)) fun D σ H ⟨env,h,Da,S,q,l⟩=> ?_⟩
  refine ⟨env,h,S,ha.aa.mono env h _ _ (fun ws env1 h1 ⟨wl,z⟩ vs H1 S1 x1 r1=> ?_) (ha.ln _ _ _ q)⟩
  have lv:vs.length=fs.length:=by rw [←r1.length,wl]
  refine ⟨by omega,fun a na=> ⟨a,vs,rfl,lv,upd_same,fun d H2 nd da e1 e2 e3=> ⟨rfl,d,_,e1,e2,?_,?_⟩⟩⟩
  · rw [upd_ne da] at nd;exact nd
  · have nd1:H1 d=none:=by rw [upd_ne da] at nd;exact nd
    have nw:New H1 (upd (L2.del H2 a) d (.xd (initF (V.str word) fs vs))):=fun p o ep=> by
      have pa:p≠a:=ne_of_none ep na
      have pd:p≠d:=ne_of_none ep nd1
      rw [upd_ne pd,del_ne pa,e3 p pa pd,upd_ne pa]
      exact ep
    refine ⟨⟨x,initF (W.str word) fs ws⟩,env1,h1,nw.bs S1,⟨by rw [gk],d,_,rfl,upd_same,RepL.initF (RepL.mono nw.keeps _ _ r1) wl⟩,z⟩
end
end Ab
namespace Ab
open PySem PySem.Spec PyProof.Rows L2
abbrev j9:=Addr→Value→Option Addr→TS
def A1Q (K:PySem.W.Frag) (Wout:WX) (D:Ends):List (Value×Nat×j9)→WX
  | []=> Wout
  | (c,i,u)::r=> fun cls d σ H=> ∃b,PySem.W.exmOne K cls c=some b∧
      (b=true→∀x,H x=none→u x cls d { nx:=fun σ1 H1=> D.nx (σ1.set i none) H1,rt:=D.rt,bk:=fun σ1 H1=> D.bk (σ1.set i none) H1,ct:=fun σ1 H1=> D.ct (σ1.set i none) H1 } (σ.set i (some (.ref x))) H)∧
      (b=false→A1Q K Wout D r cls d σ H)
inductive HdsAs (X:Cx):List ExceptHandler→List (Value×Nat×j9)→Prop where
  | nil:HdsAs X [] []
  | cons {x n:Str} {c:Value} {i:Nat} {b:Stmt} {suite:List Stmt} {np pos:Pos} {u:j9} {hds:List ExceptHandler} {l:List (Value×Nat×j9)} (hi:X.N[i]? =some n) (hln:X.env.kindOf n=some .local) (hc:Names X x c)
      (hsu:∀(a:Addr) (oe:Obj) (cls:Value) (d:Option Addr) (pn:List (Addr×Obj)),Zc cls d oe→(∃vs,oe.data= .fields vs)→PSs (X.suite a ((a,oe)::pn)) (b::suite) (u a cls d)) (t:HdsAs X hds l):
      HdsAs X (.ExceptHandler (some (.Name x np)) (some n) (b::suite) pos::hds) ((c,i,u)::l)
section
variable {X:Cx} {pins:List (Addr×Obj)} {s:Shared} {Wout:WX} {D:Ends}
theorem B31 {B h:Heap} {sI:Shared} {pinsI:List (Addr×Obj)} {σ:L2.St} {H:Hp} {a:Addr} {cls:Value} {d:Option Addr} (stk:X.stack=X.env::X.outer) (fr:X.env.frame=some X.env.locals) (nd:X.N.Nodup) (tk:Takes X Wout) (ok:X.Ok)
    (J:L2.Inv X pins σ H sI) (kb:∀b o,sI.heap.get? b=some o→b∉frs X.stack→B.get? b=some o) (up:sI.heap.UpToSlots s.heap) (na:H a=none) (os:s.os=sI.os) (ag:AllBare s.gens)
    (fl:HandSPX.FlyingZ B (X.env::X.outer) a (Zc cls d) h) (uph:s.heap.UpToSlots h) (hk:X.A.frames=some (X.env::X.outer)):
    ∀{hds:List ExceptHandler} {l:List (Value×Nat×j9)},HdsAs X hds l→A1Q X.K Wout D l cls d σ H→wpAny (model X.prog X.w) X.A (handleBy (.ref a) X.env hds) (SP X pins D) X.xe { s with heap:=h }:=by
  intro hds l hh
  induction hh with
  | nil=>
    intro wish
    have wish:Wout cls d σ H:=wish
    refine wpAny_handleBy_nil ?_
    obtain ⟨_,_,_,ox,xs,T,oT,_,hx,_,hdx,h1x,_⟩:=id fl
    unfold PySem.passOn
    refine wpAny_bind (wpAny_field hx hdx h1x ?_)
    rw [if_neg (by simp:¬((Value.ref T==Value.none)=true))]
    have away:wpAny (model X.prog X.w) X.A (setFlight (.ref a) X.env.frame) (fun _ r=> wpAny (model X.prog X.w) X.A (throw (.ref a):Sem Flow) (SP X pins D) X.xe r) X.xe { s with heap:=h }:=by
      rw [fr]
      refine HandSPX.setFlight_upZ fl fun g hg ug=> wpAny_throw (tk _ _ ?_)
      exact ⟨a,B,sI,pins,σ,H,cls,d,rfl,J,kb,(up.trans uph).trans ug,.inr (.inr (by rw [stk];exact hg)),na,os,ag,wish⟩
    first
      | exact wpAny_bind (wpAny_pure (wpAny_bind away))
      | exact wpAny_bind away
  | cons hi hln hc hsu t ih=>
    rename_i x n c i b suite np pos u hds l
    intro wish
    obtain ⟨y,hy,yes,no⟩:=wish
    have lc:Loc X.env.scope n:= .inl hln
    have J1:L2.Inv X pins σ H { s with heap:=h }:=J.landed kb fl.1 (up.trans uph) os ag
    obtain ⟨ox,xs,hx,hzx,hdx⟩:=fl.there
    have off:∀{g:Heap} {o:Obj} {vs:Array Value},g.FunFrames B (X.env::X.outer)→g.get? a=some o→o.data= .fields vs→a∉frs (X.env::X.outer):=fun {g o vs} ff e dd hm=> by
      obtain ⟨_,o1,e1,nf⟩:=ff.mem hm
      rw [e] at e1;cases e1
      exact nf _ dd
    have offA:=off fl.2.2.1 hx hdx
    have aL:a≠X.env.locals:=fun z=> offA (List.mem_filterMap.mpr ⟨X.env,List.mem_cons_self,by rw [fr,z]⟩)
    have aF:a∉X.fs:=fun hm=> by
      obtain ⟨e,he,q⟩:=List.mem_filterMap.mp hm
      exact offA (List.mem_filterMap.mpr ⟨e,List.mem_cons_of_mem _ he,q⟩)
    have J2:=J1.suite hx hdx na aL aF
    have ty:PySem.W.Looks (model X.prog X.w) h (typeOf (.ref a)) cls:=fun A Q E s k q=> wpAny_typeOf_ref (k _ _ hx) (by rw [hzx.1];exact q)
    have hit:=PySem.W.exm_one (M:=model X.prog X.w) (J1.kIn) ty hy
    have named:∀{Q:Value→Shared→Prop} {E:Value→Shared→Prop},Q c { s with heap:=h }→wpAny (model X.prog X.w) (X.A.mark (some (.ref a))) (eval (.Name x np) X.env) Q E { s with heap:=h }:=fun {Q E} q=> by
      obtain ⟨g1,g2,g3 | ⟨g3,g4,g5⟩⟩:=hc
      · exact ld_glob (X:=X.suite a ((a,ox)::(X.pn++pins))) J2 g1 g3 q g2
      · exact ld_blt (X:=X.suite a ((a,ox)::(X.pn++pins))) J2 g1 g3 g4 q g5 g2
    refine wpAny_handleBy_cons (codeAny_handlers_test (named (hit.here ?_))) (by intro z;cases z)
    cases y with
    | false=> exact ih (no rfl)
    | true=>
      refine codeAny_handlers_suite_as (HandSPX.lands_againZ fl fun g flg ug=> ?_)
      have J3:L2.Inv X pins σ H { s with heap:=g }:=J.landed kb flg.1 ((up.trans uph).trans ug) os ag
      obtain ⟨oy,ys,hoy,hzy,hdy⟩:=flg.there
      have J4:=J3.suite hoy hdy na aL aF
      refine store_ok (X:=X.suite a ((a,oy)::(X.pn++pins))) (v:= .ref a) J4 nd hi lc rfl (fun s5 J5=> ?_) (.inr hln)
      refine wpAny_mono ((hsu a oy cls d (X.pn++pins) hzy ⟨_,hdy⟩).run [] s5 _ H _ J5 (yes rfl a na)) (fun f s6 done=> ?_) (fun _ _ z=> False.elim z)
      have shut:∀{σ6:L2.St} {H6:Hp} {Q:Shared→Prop},L2.Inv (X.suite a ((a,oy)::(X.pn++pins))) [] σ6 H6 s6→(∀s7,L2.Inv X pins (σ6.set i none) H6 s7→Q s7)→
          wpAny (model X.prog X.w) X.A (do bindName X.env n .none;unbindBehindTheSuite X.env n pos) (fun _ s7=> Q s7) X.xe s6:=fun {σ6 H6 Q} J6 hq=> gone_ok (J6.unsuite ok) nd hi hln hq
      cases f with
      | next=>
        obtain ⟨σ6,H6,J6,q6⟩:=done
        exact shut J6 fun s7 J7=> ⟨_,_,J7,q6⟩
      | brk=>
        obtain ⟨σ6,H6,J6,q6⟩:=done
        exact shut J6 fun s7 J7=> ⟨_,_,J7,q6⟩
      | cont=>
        obtain ⟨σ6,H6,J6,q6⟩:=done
        exact shut J6 fun s7 J7=> ⟨_,_,J7,q6⟩
      | ret v=>
        obtain ⟨v6,σ6,H6,J6,r6,q6⟩:=done
        exact shut J6 fun s7 J7=> ⟨_,_,_,J7,r6,q6⟩
theorem B1l {body:List Stmt} {h₀:ExceptHandler} {hds:List ExceptHandler} {l:List (Value×Nat×j9)} {tb:WX→TS} {pos:Pos} (stk:X.stack=X.env::X.outer) (fr:X.env.frame=some X.env.locals) (nd:X.N.Nodup) (tk:Takes X Wout)
    (hb:∀(W:WX) (pn:List (Addr×Obj)) (xe:Value→Shared→Prop),Takes (X.tr pn xe) W→PSs (X.tr pn xe) body (tb W)) (hh:HdsAs X (h₀::hds) l):
    PS X (.Try body (h₀::hds) [] [] pos) (fun D σ H=> tb (A1Q X.K Wout D l) D σ H):=by
  refine ⟨fun pins s σ H D I q=> ?_⟩
  have ok:=I.ok
  have hk:X.A.frames=some (X.env::X.outer):=by rw [ok.frames,stk]
  refine wpAny_Try_except ?_
  have tkb:Takes (X.tr (X.pn++pins) fun e r=> wpAny (model X.prog X.w) X.A (noteFrame e X.env) (fun _ r2=> wpAny (model X.prog X.w) X.A (setFlight e none) (fun _ r3=>
      wpAny (model X.prog X.w) X.A (handleBy e X.env (h₀::hds)) (SP X pins D) X.xe r3) X.xe r2) X.xe r) (A1Q X.K Wout D l):=fun e r xx=> by
    obtain ⟨a,B,sI,pinsI,σ1,H1,cls,d,rfl,J1,kb,up,sky,na,os,ag,wish⟩:=xx
    have J:L2.Inv X pins σ1 H1 sI:=J1.ofTry ok
    have sky1:Sky B (X.env::X.outer) a (Zc cls d) X.env.locals r.heap:=by rw [←stk];exact sky
    change wpAny (model X.prog X.w) X.A (noteFrame (.ref a) X.env) _ _ _
    exact Sky.land Zc.steady hk fr sky1 fun h fl uph=> B31 (pinsI:=pinsI) stk fr nd tk ok J kb up na os ag fl uph hk hh wish
  refine wpAny_mono ((hb _ _ _ tkb).run [] s σ H D (I.toTry _) q) (fun f s1 done=> ?_) fun e s1 he=> he
  cases f with
  | next=>
    obtain ⟨σ1,H1,J1,z⟩:=done
    exact wpAny_execs_nil ⟨σ1,H1,J1.ofTry ok,z⟩
  | brk=>
    obtain ⟨σ1,H1,J1,z⟩:=done
    exact ⟨σ1,H1,J1.ofTry ok,z⟩
  | cont=>
    obtain ⟨σ1,H1,J1,z⟩:=done
    exact ⟨σ1,H1,J1.ofTry ok,z⟩
  | ret u=>
    obtain ⟨v,σ1,H1,J1,r,z⟩:=done
    exact ⟨v,σ1,H1,J1.ofTry ok,r,z⟩
end
end Ab
namespace Ab
open PySem PySem.Spec PyProof.Rows L2
abbrev XT:=AExc→(W→Prop)→Prop
def A1V (f:Str):XT:=fun x K=> ∃w,x.fs.lookup f=some w∧K w
abbrev XTs:=AExc→(List W→Prop)→Prop
def A4h (t:XT):Prop:=∀x K K',(∀w,K w→K' w)→t x K→t x K'
def B2l (t:XTs):Prop:=∀x K K',(∀w,K w→K' w)→t x K→t x K'
structure XS (G:Gx) (i:Nat) (a:Addr) (cls:Value) (d:Option Addr) (x:AExc) (env:A0) (h:AH) (σ:L2.St) (H:Hp):Prop where
  bs:BS G env h σ H
  at_:σ[i]? =some (some (V.ref a))
  rep:XRep G.K H x cls d
theorem XRep.new {K:PySem.W.Frag} {H H':Hp} {x:AExc} {cls:Value} {d:Option Addr} (n:New H H') (r:XRep K H x cls d):XRep K H' x cls d:=by
  obtain ⟨e,dd,vs,ed,ea,f1,f2⟩:=r
  exact ⟨e,dd,vs,ed,n _ _ ea,f1,RepL.mono n.keeps _ _ f2⟩
structure XV (X:Cx) (G:Gx) (i:Nat) (ks:List Str) (e:Expr) (t:XT):Prop where
  mono:A4h t
  pe:∀(a:Addr) (oe:Obj) (cls:Value) (d:Option Addr) (pn:List (Addr×Obj)),Zc cls d oe→(∃vs,oe.data= .fields vs)→PE (X.suite a ((a,oe)::pn)) e (fun σ H Q=> ∃x env h,XS G i a cls d x env h σ H∧x.n∈ks∧
    t x fun w=> ∀v H',New H H'→Rep G.K H' w v→Q v H')
structure XVs (X:Cx) (G:Gx) (i:Nat) (ks:List Str) (es:List Expr) (t:XTs):Prop where
  mono:B2l t
  pa:∀(a:Addr) (oe:Obj) (cls:Value) (d:Option Addr) (pn:List (Addr×Obj)),Zc cls d oe→(∃vs,oe.data= .fields vs)→PA (X.suite a ((a,oe)::pn)) es (fun σ H Q=> ∃x env h,XS G i a cls d x env h σ H∧x.n∈ks∧
    t x fun ws=> ∀vs H',New H H'→RepL G.K H' ws vs→Q vs H')
theorem FRep.lookup {K:PySem.W.Frag} {H:Hp}:∀{fs:List (Str×W)} {vs:List (Str×V)} {f:Str} {w:W},FRep K H fs vs→fs.lookup f=some w→∃v,vs.lookup f=some v∧Rep K H w v
  | [],_,_,_,_,e=> by cases e
  | (g,x)::fs,vs,f,w,⟨n,r⟩,e=> by
    obtain ⟨v,t,ev,rv,rt⟩:=RepL.of_cons (K:=K) (H:=H) r
    cases vs with
    | nil=> cases ev
    | cons p vs=>
      obtain ⟨g',y⟩:=p
      simp only [List.map_cons,List.cons.injEq] at n ev
      obtain ⟨n1,n2⟩:=n
      obtain ⟨v1,v2⟩:=ev
      subst n1 v1 v2
      rw [List.lookup_cons] at e ⊢
      cases q:(f==g) with
      | true=>
        rw [q] at e
        cases e
        exact ⟨_,rfl,rv⟩
      | false=>
        rw [q] at e
        exact FRep.lookup (fs:=fs) (vs:=vs) ⟨n2,rt⟩ e
section
variable {X:Cx} {G:Gx} {i:Nat} {ks:List Str} {n f:Str} {p pos:Pos} {e:Expr} {es:List Expr}
theorem B2a (gk:G.K=X.K) (T:∀c∈ks,XfC X.K (He.ga X.K c)∧PySem.W.findIn X.K (.ref (He.ga X.K c)) f=some none) (hi:X.N[i]? =some n) (hv:Vis X.env.scope n) (hd:(n==("__debug__":Str))=false:=by decide) (hcd:(n==("__classdict__":Str))=false:=by decide)
    (hb:attributeBase (.Name n p) f X.env (eval (.Name n p) X.env)=eval (.Name n p) X.env:=by rfl):XV X G i ks (.Attribute (.Name n p) f pos) (A1V f):=by
  refine ⟨fun x K K' k ⟨w,e,q⟩=> ⟨w,e,k _ q⟩,fun a oe cls d pn hz hf=> ⟨fun pins s σ H Q I ⟨x,env,h,S,hk,w,el,q⟩=> ?_⟩⟩
  obtain ⟨t1,t2⟩:=T x.n hk
  obtain ⟨ec,dd,vs,ed,ea,fr⟩:=S.rep
  obtain ⟨v,lv,rv⟩:=FRep.lookup fr el
  refine (pe_xf (C:=He.ga X.K x.n) (n:=f) t1 t2 hz hf (pe_var (X:=X.suite a ((a,oe)::pn)) (i:=i) hi hv hd hcd) hb).run pins s σ H Q I ?_
  exact ⟨.ref a,S.at_,rfl,by rw [ec,gk],dd,vs,v,ed,ea,lv,q v H (New.refl H) rv⟩
end
abbrev i9:=List (Str×Nat×Nat×XT)
def t9 (ks:List Str):i9→(AExc→A0→AH→Prop)→AEnds→AExc→A0→AH→Prop
  | [],E,_=> E
  | (c,i,j,sv)::r,E,D=> fun x env h=> x.n∈ks∧i < env.length∧if d8 x.n c=true then sv x (fun w=> D.nx ((env.set j (some (.val w))).set i none) h) else t9 ks r E D x env h
def A2r (env:A0):Bool:=env.all fun o=> match o with
  | some (.own _)=> false
  | _=> true
def A5G (ks:List Str) (hs:i9) (E:AExc→A0→AH→Prop) (t:(AExc→A0→AH→Prop)→B4):B4:=fun D env h=> A2r env=true∧∃Ein,(∀x e k,Ein x e k→t9 ks hs E D x e k)∧t Ein D env h
theorem A6q {env:A0} (h:A2r env=true) {i:Nat} {c:Cont} (e:env[i]? =some (some (.own c))):False:=by
  have z:=List.all_eq_true.mp h _ (List.mem_of_getElem? e)
  cases z
theorem BS.unset {G:Gx} {env:A0} {h:AH} {σ:L2.St} {H:Hp} (S:BS G env h σ H) (i:Nat):BS G (env.set i none) h (σ.set i none) H:=by
  have at_:∀{j:Nat} {sv:SV},(env.set i none)[j]? =some (some sv)→j≠i∧env[j]? =some (some sv):=fun {j sv} e=> by
    by_cases z:i=j
    · subst z
      by_cases l:i < env.length
      · rw [List.getElem?_set_self l] at e;cases e
      · rw [List.getElem?_eq_none (by rw [List.length_set];omega)] at e;cases e
    · rw [List.getElem?_set_ne z] at e
      exact ⟨Ne.symm z,e⟩
  have out:∀{j:Nat},j≠i→(σ.set i none)[j]? =σ[j]? :=fun {j} z=> List.getElem?_set_ne (Ne.symm z)
  refine ⟨by rw [List.length_set,List.length_set];exact S.len,fun j w e=> ?_,fun j c e=> ?_,fun j k c c' p e1 e2 f1 f2=> ?_,S.hp,S.fr,S.ext,S.tr,S.tabs⟩
  · obtain ⟨n,e⟩:=at_ e
    rw [out n];exact S.val j w e
  · obtain ⟨n,e⟩:=at_ e
    rw [out n];exact S.own j c e
  · obtain ⟨n1,e1⟩:=at_ e1
    obtain ⟨n2,e2⟩:=at_ e2
    rw [out n1] at f1
    rw [out n2] at f2
    exact S.uni j k c c' p e1 e2 f1 f2
theorem BS.into {G:Gx} {env:A0} {h:AH} {σ:L2.St} {H:Hp} (S:BS G env h σ H) (no:A2r env=true):BS ⟨G.K,h,H⟩ env h σ H:=
  ⟨S.len,S.val,fun i c e=> (A6q no e).elim,fun i j c c' p e=> (A6q no e).elim,S.hp,fun p o e _ _=> e,fun a o e n=> (by have n:h a=none:=n;rw [n] at e;cases e),fun p o e=> ⟨o,e⟩,S.tabs⟩
theorem BS.outof {G:Gx} {env env':A0} {h h':AH} {σ σ':L2.St} {H H':Hp} (S:BS G env h σ H) (T:BS ⟨G.K,h,H⟩ env' h' σ' H'):BS G env' h' σ' H':=by
  have up:∀{p:Addr},H p=none→G.H0 p=none:=fun {p} n=> by
    cases q:G.H0 p with
    | none=> rfl
    | some o=> obtain ⟨u,e⟩:=S.tr p o q;rw [n] at e;cases e
  refine ⟨T.len,T.val,fun i c e=> ?_,T.uni,T.hp,fun p o e n y=> ?_,fun a o e n=> ?_,fun p o e=> ?_,T.tabs⟩
  · obtain ⟨p,a,b,x,y⟩:=T.own i c e
    exact ⟨p,a,b,x,up y⟩
  · have hn:h p=none:=by
      cases q:h p with
      | none=> rfl
      | some u=> have z:=S.ext p u q n;rw [z] at e;cases e
    exact T.fr p o (S.fr p o e n y) hn y
  · cases q:h a with
    | some u=> exact S.ext a u q n
    | none=> exact up (T.ext a o e q)
  · obtain ⟨u,q⟩:=S.tr p o e
    exact T.tr p u q
theorem BS.keeps {K:PySem.W.Frag} {G:Gx} {env env':A0} {h h':AH} {σ σ':L2.St} {H H':Hp} (S:BS G env h σ H) (T:BS ⟨K,h,H⟩ env' h' σ' H'):Keeps H H':=fun p o e i=> T.fr p o e (S.imm e i).1 i.nt
inductive HdA (X:Cx) (ks:List Str):List ExceptHandler→i9→Prop where
  | nil:HdA X ks [] []
  | cons {c n y:Str} {i j:Nat} {e:Expr} {np py pos pos':Pos} {sv:XT} {hds:List ExceptHandler} {l:i9} (hi:X.N[i]? =some n) (hln:X.env.kindOf n=some .local) (hg:Gl X c) (hm:X.mg c=some (.ref (He.ga X.K c)))
      (ex:∀k∈ks,PySem.W.exmOne X.K (.ref (He.ga X.K k)) (.ref (He.ga X.K c))=some (d8 k c)) (hj:X.N[j]? =some y) (hy:Loc X.env.scope y) (fy:X.fn y=true∨X.env.scope.names.lookup y=some .local) (ne:i≠j)
      (hv:∀G:Gx,G.K=X.K→XV X G i ks e sv) (hs:swapsWithSole [.Name y py] e pos.line X.env=pure false) (hw:swappedStores [.Name y py] e X.env=pure none) (h1:(assignEach [.Name y py] X.env).map (·.2)=[assign (.Name y py) X.env])
      (hdb:(c==("__debug__":Str))=false) (t:HdA X ks hds l):HdA X ks (.ExceptHandler (some (.Name c np)) (some n) [.Assign [.Name y py] e pos] pos'::hds) ((c,i,j,sv)::l)
def uTs (K:PySem.W.Frag) (ks:List Str) (i j:Nat) (sv:XT):j9:=fun a cls d D σ H=> ∃G x env h,G.K=K∧XS G i a cls d x env h σ H∧x.n∈ks∧sv x fun w=> ∀v H',New H H'→Rep G.K H' w v→D.nx (σ.set j (some v)) H'
def A5A (K:PySem.W.Frag) (ks:List Str):i9→List (Value×Nat×j9)
  | []=> []
  | (c,i,j,sv)::r=> (.ref (He.ga K c),i,uTs K ks i j sv)::A5A K ks r
theorem HdA.low {X:Cx} {ks:List Str} (nd:X.N.Nodup) {hds:List ExceptHandler} {l:i9} (hh:HdA X ks hds l):HdsAs X hds (A5A X.K ks l):=by
  induction hh with
  | nil=> exact .nil
  | cons hi hln hg hm ex hj hy fy ne hv hs hw h1 hdb t ih=>
    refine .cons hi hln ⟨hg,hdb,.inl hm⟩ (fun a oe cls d pn hz hf=> ?_) ih
    have pe:PE (X.suite a ((a,oe)::pn)) _ (fun σ H Q=> ∃G x env h,G.K=X.K∧XS G _ a cls d x env h σ H∧x.n∈ks∧_):=⟨fun pins s σ H Q I ⟨G,x,env,h,gk,r⟩=> ((hv G gk).pe a oe cls d pn hz hf).run pins s σ H Q I ⟨x,env,h,r⟩⟩
    refine pss_one (PS.imp (ps_asg pe (pg_name (X:=X.suite a ((a,oe)::pn)) nd hj hy fy) hs hw h1) fun D σ H ⟨G,x,env,h,gk,S,hk,q⟩=> ?_)
    exact ⟨G,x,env,h,gk,S,hk,(hv G gk).mono x _ _ (fun w z v H1 n1 r1=> z v H1 n1 r1) q⟩
section
variable {X:Cx} {G:Gx} {ks:List Str} {hs:i9} {body:List Stmt} {h₀:ExceptHandler} {hds:List ExceptHandler} {t:(AExc→A0→AH→Prop)→B4} {E:AExc→A0→AH→Prop} {pos:Pos}
theorem B0R {D D':AEnds}:∀{hds:List ExceptHandler} {hs:i9},HdA X ks hds hs→(∀e k,D.nx e k→D'.nx e k)→∀x e k,t9 ks hs E D x e k→t9 ks hs E D' x e k:=by
  intro hds hs hh l
  induction hh with
  | nil=> exact fun x e k z=> z
  | cons hi hln hg hm ex hj hy fy ne hv hs' hw h1 hdb t ih=>
    rename_i c n y i j e' np py pos pos' sv hds l'
    intro x e k ⟨z1,z2,z3⟩
    refine ⟨z1,z2,?_⟩
    by_cases b:d8 x.n c=true
    · rw [if_pos b] at z3 ⊢
      exact (hv ⟨X.K,(fun _=> none),(fun _=> none)⟩ rfl).mono x _ _ (fun w z=> l _ _ z) z3
    · rw [if_neg b] at z3 ⊢
      exact ih x e k z3
theorem B0w (gk:G.K=X.K) {G':Gx} {Da:AEnds} {D:Ends} {env0:A0} {h0:AH} {σ0:L2.St} {H0:Hp} (S0:BS G env0 h0 σ0 H0) (eg:G'=⟨G.K,h0,H0⟩) (l:Link G H0 Da D):
    ∀{hds:List ExceptHandler} {hs:i9},HdA X ks hds hs→∀(x:AExc) (env:A0) (h:AH) (σ:L2.St) (H:Hp) (cls:Value) (d:Option Addr),BS G' env h σ H→XRep G'.K H x cls d→t9 ks hs E Da x env h→A1Q X.K (cW G E) D (A5A X.K ks hs) cls d σ H:=by
  subst eg
  intro hds hs hh
  induction hh with
  | nil=> intro x env h σ H cls d S r z;exact ⟨x,env,h,S0.outof S,r,z⟩
  | cons hi hln hg hm ex hj hy fy ne hv hs' hw h1 hdb t ih=>
    rename_i c n y i j e np py pos pos' sv hds l'
    intro x env h σ H cls d S r z
    obtain ⟨hk,ie,z⟩:=z
    have ec:cls= .ref (He.ga X.K x.n):=by rw [r.1,←gk]
    refine ⟨d8 x.n c,by rw [ec];exact ex _ hk,fun b a na=> ?_,fun b=> ?_⟩
    · rw [if_pos b] at z
      have nAt:BS ⟨G.K,h0,H0⟩ (env.set i (some (.val (.ref a)))) h (σ.set i (some (.ref a))) H:=S.set (r:= .val (.ref a)) i (show Rep G.K H (.ref a) (.ref a) from .ref) trivial
      have il:i < σ.length:=by rw [←S.len];exact ie
      refine ⟨⟨G.K,h0,H0⟩,x,_,h,gk,⟨nAt,List.getElem?_set_self il,r⟩,hk,(hv ⟨G.K,h0,H0⟩ gk).mono x _ _ (fun w z v H1 n1 r1=> ?_) z⟩
      have S1:BS ⟨G.K,h0,H0⟩ env h σ H1:=n1.bs S
      have S2:BS ⟨G.K,h0,H0⟩ (env.set j (some (.val w))) h (σ.set j (some v)) H1:=S1.set (r:= .val w) j r1 trivial
      have S3:=S2.unset i
      have e2:((σ.set i (some (V.ref a))).set j (some v)).set i none=(σ.set j (some v)).set i none:=by
        rw [List.set_comm _ _ ne,List.set_set]
      show D.nx (((σ.set i (some (V.ref a))).set j (some v)).set i none) H1
      rw [e2]
      exact l.nx _ _ _ _ (S0.outof S3) (S0.keeps S3) z
    · rw [if_neg (by rw [b];exact Bool.false_ne_true)] at z
      exact ih x env h σ H cls d S r z
def GLe (G G':Gx):Prop:=∀H:Hp,(∀p o,G'.H0 p=some o→G'.h0 p=none→NT o→H p=some o)→∀p o,G.H0 p=some o→G.h0 p=none→NT o→H p=some o
theorem GLe.refl {G:Gx}:GLe G G:=fun _ h=> h
theorem BS.gle {env:A0} {h:AH} {σ:L2.St} {H:Hp} (S:BS G env h σ H):GLe G ⟨G.K,h,H⟩:=fun H1 k p o e n y=> by
  have hn:h p=none:=by
    cases q:h p with
    | none=> rfl
    | some u=> have z:=S.ext p u q n;rw [z] at e;cases e
  exact k p o (S.fr p o e n y) hn y
theorem _root_.Ab.LamHas.to {Z:Cx} {G':Gx} {f:Addr} {n:Nat} {sp:C0} (L:LamHas Z G f n sp) (g:GLe G G') (pn:List (Addr×Obj)) (xe:Value→Shared→Prop):LamHas (Z.tr pn xe) G' f n sp:=
  ⟨L.m,fun s H k=> L.fn s H (g H k),fun s H us vs Q E k=> L.run s H us vs Q E (g H k)⟩
theorem B2u (gk:G.K=X.K) (stk:X.stack=X.env::X.outer) (fr:X.env.frame=some X.env.locals) (nd:X.N.Nodup) (tk:Takes X (cW G E))
    (hb:∀(pn:List (Addr×Obj)) (xe:Value→Shared→Prop) (G':Gx) (E':AExc→A0→AH→Prop),G'.K=X.K→GLe G G'→Takes (X.tr pn xe) (cW G' E')→ASs (X.tr pn xe) G' body (t E')) (hh:HdA X ks (h₀::hds) hs):
    AS X G (.Try body (h₀::hds) [] [] pos) (A5G ks hs E t):=by
  refine ⟨fun D D' env h l ⟨no,Ein,k,q⟩=> ⟨no,Ein,fun x e g z=> B0R hh l.nx x e g (k x e g z),(hb [] (fun _ _=> True) G Ein gk .refl fun _ _ _=> trivial).mono _ _ _ _ l q⟩,PS.imp (B1l
    (tb:=fun W D σ H=> ∃(env:A0) (h:AH) (Da:AEnds) (G':Gx) (Ein:AExc→A0→AH→Prop),G'.K=X.K∧GLe G G'∧BS G' env h σ H∧t Ein Da env h∧Link G' H Da D∧∀cls d σ' H',cW G' Ein cls d σ' H'→W cls d σ' H')
    stk fr nd tk (fun W pn xe tkW=> ⟨fun pins s σ H D I ⟨env,h,Da,G',Ein,gk',gl,S,q,l,imp⟩=> (hb pn xe G' Ein gk' gl (Takes.imp tkW imp)).ps.run pins s σ H D I ⟨env,h,Da,S,q,l⟩⟩)
    (HdA.low nd hh)) fun D σ H ⟨env,h,Da,S,⟨no,Ein,k,q⟩,l⟩=> ?_⟩
  have up:∀{p:Addr},H p=none→G.H0 p=none:=fun {p} n=> by
    cases q:G.H0 p with
    | none=> rfl
    | some o=> obtain ⟨u,e⟩:=S.tr p o q;rw [n] at e;cases e
  refine ⟨env,h,Da,⟨G.K,h,H⟩,Ein,gk,S.gle,S.into no,q,⟨fun e g σ' H' T y z=> l.nx e g σ' H' (S.outof T) y z,fun r e g σ' H' v T y rr z=> l.rt r e g σ' H' v (S.outof T) y ?_ z,fun e g σ' H' T y z=> l.bk e g σ' H' (S.outof T) y z,fun e g σ' H' T y z=> l.ct e g σ' H' (S.outof T) y z⟩,
    fun cls d σ' H' ⟨x,env1,h1,S1,xr,z⟩=> B0w gk S rfl l hh x env1 h1 σ' H' cls d S1 xr (k x env1 h1 z)⟩
  cases r with
  | val w=> exact rr
  | own c=> obtain ⟨p,e1,cr,n,n0,no2⟩:=rr;exact ⟨p,e1,cr,n,up n0,no2⟩
  | slot i=> exact rr
end
end Ab
namespace Ab
open PySem PySem.Spec PyProof.Rows L2
section
variable {prog:Program} {w:World} {A:Around} {R:Result→Shared→Prop} {I:Addr} {fp wr:List Addr} {n:Nat} {P:Nat→Value→Prop} {St:Nat→Heap→Prop}
end
section
variable {prog:Program} {w:World} {A:Around} {E:Value→Shared→Prop} {s:Shared} {l:Addr} {xs:Array (Int×Tok)}
end
section
variable {X:Cx} {G:Gx} {e:Expr} {p pos kpos cp:Pos} {j:Nat} {t:N7}
end
end Ab
namespace Ab
open PySem PySem.Spec PyProof.Rows L2
section
variable {X:Cx} {G:Gx} {c:Expr} {body:List Stmt} {pos:Pos} {tc:E4} {tb:B4}
end
end Ab
namespace Ab
open PySem PySem.Spec PyProof.Rows L2
section
variable {prog:Program} {w:World} {K:Type} [DecidableEq K] {kd:KeyKind prog w K} {A:Around} {E:Value→Shared→Prop} {s:Shared}
end
section
variable {X:Cx} {pins:List (Addr×Obj)} {σ:L2.St} {H:Hp} {s:Shared} {a:Addr} {kvs:List (List Key×V)} {A:Around} {E:Value→Shared→Prop} {o i e:Expr} {td ty tv:TE} {pos pos':Pos}
end
end Ab
namespace Ab
open PySem PySem.Spec PyProof.Rows L2 RZ
def A0Z (l:List (List Int×W)):List (W×W):=(W.lst [],W.non)::l.map fun p=> (W.tup (p.1.map .int),p.2)
def A1G (l:List (List Int×W)) (ns:List Int):Option W:=(l.find? fun p=> decide (p.1=ns)).map (·.2)
section
variable {X:Cx} {G:Gx}
def aInT (neg:Bool) (i:Nat) (tk:B5):AT:=fun env h Q=> tk env h fun w env1 h1=> (∃(l:List (List Int×W)) (ns:List Int),env1[i]? =some (some (.own (.map (A0Z l))))∧w= .tup (ns.map .int)∧
  Q (.val (.bl (if neg=true then !(A1G l ns).isSome else (A1G l ns).isSome))) env1 h1)∨neg=false∧(∃l:List (List Int×W),env1[i]? =some (some (.own (.map (A0Z l)))))∧w= .non∧Q (.val (.bl false)) env1 h1
theorem aInT.mono {neg:Bool} {i:Nat} {tk:B5} (m:A2 tk):A2 (aInT neg i tk):=fun env h Q Q' k q=> m env h _ _ (fun w e g z=> by
  rcases z with ⟨l,ns,z1,z2,z3⟩ | ⟨z1,z2,z3,z4⟩
  · exact .inl ⟨l,ns,z1,z2,k _ _ _ z3⟩
  · exact .inr ⟨z1,z2,z3,k _ _ _ z4⟩) q
def aGetT (i:Nat) (tk:B5):AT:=fun env h Q=> (∃kvs,env[i]? =some (some (.own (.map kvs))))∧tk env h fun w env1 h1=> ∃(l:List (List Int×W)) (ns:List Int) (v:W),env1[i]? =some (some (.own (.map (A0Z l))))∧w= .tup (ns.map .int)∧
  A1G l ns=some v∧Q (.val v) env1 h1
theorem aGetT.mono {i:Nat} {tk:B5} (m:A2 tk):A2 (aGetT i tk):=fun env h Q Q' k q=> ⟨q.1,m env h _ _ (fun w e g ⟨l,ns,v,z1,z2,z3,z4⟩=> ⟨l,ns,v,z1,z2,z3,k _ _ _ z4⟩) q.2⟩
def aGetDT (i:Nat) (tk td:B5):AT:=fun env h Q=> (∃kvs,env[i]? =some (some (.own (.map kvs))))∧tk env h fun w env1 h1=> td env1 h1 fun d env2 h2=>
  ∃(l:List (List Int×W)) (ns:List Int),env2[i]? =some (some (.own (.map (A0Z l))))∧w= .tup (ns.map .int)∧Q (.val ((A1G l ns).getD d)) env2 h2
theorem aGetDT.mono {i:Nat} {tk td:B5} (m:A2 tk) (n:A2 td):A2 (aGetDT i tk td):=fun env h Q Q' k q=>
  ⟨q.1,m env h _ _ (fun w e g z=> n e g _ _ (fun d e g ⟨l,ns,z1,z2,z3⟩=> ⟨l,ns,z1,z2,k _ _ _ z3⟩) z) q.2⟩
end
end Ab
namespace Ab
open PySem PySem.Spec PyProof.Rows L2 RZ
section
variable {X:Cx} {G:Gx} {k v:Expr} {pos:Pos} {tk tv:TE}
end
section
variable {X:Cx} {G:Gx} {k v:Expr} {pos:Pos}
def aDispT (tk tv:B5):AT:=fun env h Q=> tk env h fun w env1 h1=> tv env1 h1 fun y env2 h2=> ∃ns:List Int,w= .tup (ns.map .int)∧Q (.own (.map (A0Z [(ns,y)]))) env2 h2
theorem aDispT.mono {tk tv:B5} (m:A2 tk) (n:A2 tv):A2 (aDispT tk tv):=fun env h Q Q' k q=> m env h _ _ (fun w e g z=> n e g _ _ (fun y e g ⟨ns,z1,z2⟩=> ⟨ns,z1,k _ _ _ z2⟩) z) q
end
end Ab
namespace Ab
open PySem PySem.Spec PyProof.Rows L2 RZ
def A8L (i j:Int):Prop:=0≤j∧(PySem.Builtin.Int.intBits i:Int)*j≤2 ^ 27
section
variable {X:Cx} {G:Gx} {a b:Expr} {ta tb:AT} {pos:Pos}
end
end Ab
namespace Ab
open PySem PySem.Spec PyProof.Rows L2 RZ
def oIndexW (a:Vw) (ws:List W) (Q:RV→Prop):Prop:=match ws with
  | [.int x]=> ∃ns:List Int,a.seq=some (ns.map W.int)∧x∈ns∧Q (.val (.int (ns.idxOf x)))
  | _=> False
def aIdx (to:AT) (t:B7):AT:=fun env h Q=> to env h fun ro env1 h1=> (∃ns:List Int,(view env1 h1 ro).seq=some (ns.map W.int))∧t env1 h1 fun ws env2 h2=> oIndexW (view env2 h2 ro) ws fun r=> Q r env2 h2
theorem oIndexW.mono {a:Vw} {ws:List W} {Q Q':RV→Prop} (k:∀r,Q r→Q' r) (q:oIndexW a ws Q):oIndexW a ws Q':=by
  unfold oIndexW at q ⊢
  split at q
  · obtain ⟨ns,e,m,q⟩:=q
    exact ⟨ns,e,m,k _ q⟩
  · exact q.elim
theorem aIdx.mono {to:AT} {t:B7} (a:A2 to) (b:A2 t):A2 (aIdx to t):=fun env h Q Q' k q=>
  a env h _ _ (fun ro e g z=> ⟨z.1,b e g _ _ (fun ws e2 g2 z=> z.mono fun r q=> k _ _ _ q) z.2⟩) q
section
variable {X:Cx} {G:Gx} {o e:Expr} {es:List Expr} {to:AT} {t:B7} {apos cpos:Pos}
end
end Ab
namespace Ab
open PySem PySem.Spec PyProof.Rows L2 RZ
structure OkD (P:Program) (w:World) (K:PySem.W.Frag) (mg:Str→Option Value) (base:Heap) (x:Str) (st:Stmt) (k n:Nat) (ps:List Str) (kws:List (Str×V)) (sp:C0):Prop where
  m:L1 sp
  ex:∃f fd,mg x=some (.ref f)∧FunD K x x (defArgs st) (defBody st) (defScope st) [] kws f fd∧FnOk P w K mg base (L2.CX P w) k f fd ps (M9 K n sp)
theorem OkD.mk' {P:Program} {w:World} {K:PySem.W.Frag} {mg:Str→Option Value} {base:Heap} {x:Str} {st:Stmt} {f:Addr} {fd:FuncData} {N ps:List Str} {k n:Nat} {kws:List (Str×V)} {sp:C0} {t:(AExc→A0→AH→Prop)→B4} (sm:L1 sp) (hm:mg x=some (.ref f)) (F:FunD K x x (defArgs st) (defBody st) (defScope st) [] kws f fd) (S:FnScope N ps (defScope st)) (hn:ps.length=n)
    (hb:∀(cdv:Value) (A:Around) (outer:List Env) (s:Shared) (H:Hp) (E:XK) (G:Gx) (E':AExc→A0→AH→Prop),Room k (A.deeper (envOfC x (defScope st) s.heap.objs.size f cdv))→G.K=K→Takes (bx P w K mg base N x (defScope st) f cdv A outer s H E) (cW G E')→
      ASs (bx P w K mg base N x (defScope st) f cdv A outer s H E) G (defBody st) (t E'))
    (hq:∀ws h Qa Ea,ws.length=n→sp ws h Qa Ea→t (C7 Ea) (C1 Qa) (G2 N.length ws) h):OkD P w K mg base x st (k+1) n ps kws sp:=
  ⟨sm,f,fd,hm,F,A4I [] kws F S hn hb hq⟩
def A3F {α:Type} (d:α) (n0 m0:Nat) (perm:List Nat) (ds us ws:List α):List α:=if us.length==n0 && ws.length==m0 then perm.map fun i=> (us++(ws++ds)).getD i d else []
abbrev W5 (n0 m0:Nat) (perm:List Nat) (ds:List W):List W→List W→List W:=A3F W.non n0 m0 perm ds
theorem A3r:∀{as bs:List V} {us ws:List Value},Vals as us→Vals bs ws→Vals (as++bs) (us++ws)
  | _,_,_,_,.nil,b=> b
  | _,_,_,_,.cons r a,b=> .cons r (A3r a b)
section
variable {X:Cx} {G:Gx} {sp:C0} {st:Stmt} {k j n0:Nat} {ps ks:List Str} {kws0 ms:List (Str×V)} {ds:List W} {x:Str} {p pos:Pos} {e:Expr} {es:List Expr} {kws:List Keyword} {t tk:B7} {E:AExc→A0→AH→Prop} {perm:List Nat}
theorem B2K {K:PySem.W.Frag} {H:Hp} {ws zs:List W} {vs us ds':List V} {n0 m0:Nat} (l1:ws.length=n0) (l2:zs.length=m0) (r:RepL K H ws vs) (q:RepL K H zs us) (d:RepL K H ds ds'):RepL K H (W5 n0 m0 perm ds ws zs) (perm.map fun i=> (vs++(us++ds')).getD i .non):=by
  unfold W5 A3F
  rw [if_pos (by simp [l1,l2])]
  have rr:=r.append (q.append d)
  have:∀t:List Nat,RepL K H (t.map fun i=> (ws++(zs++ds)).getD i W.non) (t.map fun i=> (vs++(us++ds')).getD i V.non):=fun t=> by
    induction t with
    | nil=> exact .nil
    | cons i t ih=> exact .cons (rr.getD' i) ih
  exact this perm
end
section
variable {X:Cx} {G:Gx} {sp:C0} {st:Stmt} {k j:Nat} {ps:List Str} {x:Str} {p pos:Pos} {E:AExc→A0→AH→Prop}
end
def A45 (neg:Bool):E9:=fun a b Q=> ∃x y:Bool,a= .wv (.bl x)∧b= .wv (.bl y)∧Q (.val (.bl (if neg then !decide (x=y) else decide (x=y))))
section
variable {X:Cx} {G:Gx} {a b:Expr} {ta tb:AT} {pos:Pos}
end
def aRevL (ta:AT):AT:=fun env h Q=> ta env h fun r env1 h1=> ∃xs,(view env1 h1 r).seq=some xs∧Q (.own (.seq xs.reverse)) env1 h1
theorem aRevL.mono {ta:AT} (m:A2 ta):A2 (aRevL ta):=fun env h Q Q' k q=> m env h _ _ (fun r e g ⟨xs,z1,z2⟩=> ⟨xs,z1,k _ _ _ z2⟩) q
section
variable {X:Cx} {G:Gx} {a:Expr} {ta:AT} {k:Nat} {p1 p2 p3 pos:Pos}
end
end Ab
namespace Ab
open PySem PySem.Spec PyProof.Rows L2 RZ
def oLenSet:G5:=fun as Q=> match as with
  | [.wv (.tup ws)]=> ∃ns:List Int,ws=ns.map W.int∧ns≠[]∧ns.length≤4000∧∀m:Int,(m=1↔∀x∈ns,∀y∈ns,x=y)→Q (.val (.int m))
  | _=> False
theorem oLenSet.mono {as:List Vw} {Q Q':RV→Prop} (k:∀r,Q r→Q' r) (q:oLenSet as Q):oLenSet as Q':=by
  unfold oLenSet at q ⊢
  split at q
  · obtain ⟨ns,a,b,c,q⟩:=q
    exact ⟨ns,a,b,c,fun m e=> k _ (q m e)⟩
  · exact q.elim
section
variable {X:Cx} {G:Gx} {e:Expr} {p p2 q pos kpos cp:Pos} {j:Nat} {t:N7}
end
end Ab
namespace Ab
open PySem PySem.Spec PyProof.Rows L2 RZ
def w5 (f:Str) (w:W):List (Str×W)→List (Str×W)
  | []=> [(f,w)]
  | (g,x)::r=> if g=f then (g,w)::r else (g,x)::w5 f w r
theorem FRep.look {K:PySem.W.Frag} {H:Hp} {f:Str}:∀{fs:List (Str×W)} {vs:List (Str×V)},FRep K H fs vs→(∀w,fs.lookup f=some w→∃v,vs.lookup f=some v∧Rep K H w v)∧(fs.lookup f=none→vs.lookup f=none)
  | [],[],_=> ⟨fun _ e=> by simp at e,fun _=> rfl⟩
  | [],v::vs,h=> by cases h.1
  | p::fs,[],h=> by cases h.1
  | (g,w)::fs,(g',v)::vs,⟨h1,h2⟩=> by
    rw [List.map_cons,List.map_cons] at h1
    injection h1 with e1 e2
    have e1:g=g':=e1
    subst e1
    obtain ⟨v',r',e3,a,b⟩:=RepL.of_cons (w:=w) (ws:=fs.map (·.2)) h2
    rw [List.map_cons] at e3
    injection e3 with e3 e4
    subst e3 e4
    obtain ⟨i1,i2⟩:=FRep.look (f:=f) (fs:=fs) (vs:=vs) ⟨e2,b⟩
    simp only [List.lookup]
    cases q:f==g with
    | true=> exact ⟨fun w e=> by cases e;exact ⟨_,rfl,a⟩,fun e=> by cases e⟩
    | false=> exact ⟨i1,i2⟩
theorem FRep.put {K:PySem.W.Frag} {H:Hp} {f:Str} {w:W} {v:V} (r:Rep K H w v):∀{fs:List (Str×W)} {vs:List (Str×V)},FRep K H fs vs→FRep K H (w5 f w fs) (putF f v vs)
  | [],[],_=> ⟨rfl,.cons r .nil⟩
  | [],v::vs,h=> by cases h.1
  | p::fs,[],h=> by cases h.1
  | (g,x)::fs,(g',y)::vs,⟨h1,h2⟩=> by
    rw [List.map_cons,List.map_cons] at h1
    injection h1 with e1 e2
    have e1:g=g':=e1
    subst e1
    obtain ⟨v',r',e3,a,b⟩:=RepL.of_cons (w:=x) (ws:=fs.map (·.2)) h2
    rw [List.map_cons] at e3
    injection e3 with e3 e4
    subst e3 e4
    unfold w5 putF
    by_cases q:g=f
    · rw [if_pos q,if_pos q]
      exact ⟨by rw [List.map_cons,List.map_cons,e2],.cons r b⟩
    · rw [if_neg q,if_neg q]
      obtain ⟨i1,i2⟩:=FRep.put r (fs:=fs) (vs:=vs) ⟨e2,b⟩
      exact ⟨by rw [List.map_cons,List.map_cons,i1],.cons a i2⟩
theorem FRep.mono {K:PySem.W.Frag} {H H':Hp} (k:Keeps H H') {fs:List (Str×W)} {vs:List (Str×V)} (h:FRep K H fs vs):FRep K H' fs vs:=⟨h.1,RepL.mono k _ _ h.2⟩
theorem FRep.length {K:PySem.W.Frag} {H:Hp} {fs:List (Str×W)} {vs:List (Str×V)} (h:FRep K H fs vs):fs.length=vs.length:=by have:=congrArg List.length h.1;simpa using this
structure FldOk (K:PySem.W.Frag) (n f:Str):Prop where
  cl:Cls K (He.ga K n)
  no:NoAttr K (He.ga K n) f
section
variable {G:Gx} {env:A0} {h:AH} {σ:L2.St} {H:Hp}
theorem B2H (S:BS G env h σ H) {a:Addr} {n:Str} {fs fs':List (Str×W)} (ha:h a=some (.ins n fs)):∃dx vs,H a=some (.ins (He.ga G.K n) dx vs)∧FRep G.K H fs vs∧
    ∀vs',(Keeps H (upd H a (.ins (He.ga G.K n) dx vs'))→FRep G.K (upd H a (.ins (He.ga G.K n) dx vs')) fs' vs')→BS G env (C9 h a (.ins n fs')) σ (upd H a (.ins (He.ga G.K n) dx vs'))∧Xt env h σ H env (C9 h a (.ins n fs')) (upd H a (.ins (He.ga G.K n) dx vs')):=by
  obtain ⟨dx,vs,e,fr⟩:=S.hp a _ ha
  refine ⟨dx,vs,e,fr,fun vs' hc=> ?_⟩
  have kp:Keeps H (upd H a (.ins (He.ga G.K n) dx vs')):=fun q o eq i=> by
    have ne:q≠a:=fun z=> by subst z;rw [e] at eq;cases eq;exact i.elim
    rw [upd_ne ne];exact eq
  have th:∀q o,H q=some o→∃u,upd H a (.ins (He.ga G.K n) dx vs') q=some u:=fun q o eq=> by
    by_cases z:q=a
    · subst z;exact ⟨_,upd_same⟩
    · exact ⟨o,by rw [upd_ne z];exact eq⟩
  have hc:=hc kp
  have neo:∀{j:Nat} {d:Cont} {q:Addr},env[j]? =some (some (SV.own d))→σ[j]? =some (some (V.ref q))→q≠a:=fun z y x=> by
    obtain ⟨q',a',_,n,_⟩:=S.own _ _ z
    rw [y] at a';cases a'
    rw [x,ha] at n;cases n
  refine ⟨⟨S.len,fun j w z=> ?_,fun j d z=> ?_,S.uni,fun b o z=> ?_,fun q o z y t=> ?_,fun b o z y=> ?_,fun q o z=> ?_,S.tabs.upd fun o z=> (by rw [e] at z;cases z;trivial)⟩,fun q o z y w t=> ?_,fun q o z y=> ?_,th,fun j d z=> ⟨d,z⟩⟩
  · obtain ⟨u,x,y⟩:=S.val j w z;exact ⟨u,x,Rep.mono kp w u y⟩
  · obtain ⟨q,x,y,n,n0⟩:=S.own j d z
    have nq:=neo z x
    exact ⟨q,x,y.mono kp (upd_ne nq),by rw [L8 nq];exact n,n0⟩
  · by_cases hb:b=a
    · subst hb;rw [Q8] at z;cases z;exact ⟨dx,vs',upd_same,hc⟩
    · rw [L8 hb] at z;exact (S.hp b o z).mono kp (upd_ne hb)
  · have nq:q≠a:=fun x=> by
      subst x
      have:=S.ext q _ ha y
      rw [this] at z;cases z
    rw [upd_ne nq];exact S.fr q o z y t
  · by_cases hb:b=a
    · subst hb;exact S.ext b _ ha y
    · rw [L8 hb] at z;exact S.ext b o z y
  · obtain ⟨u,y⟩:=S.tr q o z;exact th q u y
  · have nq:q≠a:=fun x=> by rw [x,ha] at y;cases y
    rw [upd_ne nq];exact z
  · have nq:q≠a:=fun x=> by rw [x,ha] at y;cases y
    rw [L8 nq,y] at z;cases z
end
def aFld (n f:Str) (t:AT):AT:=fun env h Q=> t env h fun r env1 h1=> ∃a fs w,r= .val (.ref a)∧h1 a=some (.ins n fs)∧fs.lookup f=some w∧Q (.val w) env1 h1
theorem aFld.mono {n f:Str} {t:AT} (m:A2 t):A2 (aFld n f t):=fun env h Q Q' k q=> m env h _ _ (fun r e g ⟨a,fs,w,z1,z2,z3,z4⟩=> ⟨a,fs,w,z1,z2,z3,k _ _ _ z4⟩) q
def d4 (n f:Str) (to:AT):E7:=fun w env h Q=> to env h fun r env1 h1=> ∃a fs,r= .val (.ref a)∧h1 a=some (.ins n fs)∧fs.length < 1000∧Q env1 (C9 h1 a (.ins n (w5 f w fs)))
section
variable {X:Cx} {G:Gx} {o:Expr} {n f:Str} {to:AT} {pos:Pos}
def B4B (K:PySem.W.Frag) (to:TE) (f:Str):TG:=fun v σ H Q=> to σ H fun x H1=> ∃a C dx fs,x= .ref a∧H1 a=some (.ins C dx fs)∧Cls K C∧NoAttr K C f∧fs.length < 1000∧Q σ (upd H1 a (.ins C dx (putF f v fs)))
theorem B2s {t:TE} (ho:PE X o t):PG X (.Attribute o f pos) (B4B X.K t f):=by
  refine ⟨fun pins s σ H v u Q I r h=> ?_⟩
  refine PySem.W.kas_attr (thn (ho.run pins s σ H _ I h) fun ov s1 ⟨x,H1,I1,rx,a,C,dx,fs,ex,ea,c,n,l,q⟩=> ?_)
  subst ex
  obtain rfl:ov=Value.ref a:=rx
  exact setattr_ok I1 ea c n l r fun s2 I2=> ⟨σ,_,I2,q⟩
theorem k8 (gk:G.K=X.K) (F:FldOk X.K n f) (ho:AE X G o to):AG X G (.Attribute o f pos) [] (d4 n f to):=by
  refine ⟨fun w env h Q Q' k q=> ho.mono env h _ _ (fun r e g ⟨a,fs,z1,z2,z3,z4⟩=> ⟨a,fs,z1,z2,z3,k _ _ z4⟩) q,PG.imp (B2s ho.pe) fun v σ H Q ⟨w,env,h,rv,S,q⟩=> ?_⟩
  refine ⟨env,h,S,ho.mono env h _ _ (fun r env1 h1 ⟨a,fs,z1,z2,z3,z⟩ x H1 S1 x1 r1 _=> ?_) q⟩
  subst z1
  have ex:x= .ref a:=Rep.of_ref (K:=G.K) (H:=H1) r1
  obtain ⟨dx,vs,e,fr,put⟩:=B2H (fs':=w5 f w fs) S1 z2
  have rv1:=Rep.mono (x1.keeps S) w v rv
  obtain ⟨S2,x2⟩:=put (putF f v vs) fun kp=> (fr.mono kp).put (Rep.mono kp w v rv1)
  refine ⟨a,_,dx,vs,ex,gk▸e,F.cl,F.no,by rw [←fr.length];exact z3,?_⟩
  have z:=z σ _ S2 (x1.trans x2).xg
  rw [gk] at z
  exact z
end
structure OkM (P:Program) (w:World) (K:PySem.W.Frag) (mg:Str→Option Value) (base:Heap) (C m:Str) (st:Stmt) (k n:Nat) (ps:List Str) (kws:List (Str×V)) (sp:C0):Prop where
  sm:L1 sp
  cl:Cls K (He.ga K C)
  ex:∃f fd,Meth K (He.ga K C) m f∧FunD K m (C++"."++m) (defArgs st) (defBody st) (defScope st) [] kws f fd∧FnOk P w K mg base (L2.CX P w) k f fd ps (M9 K n sp)
def A4S (C m:Str) (st:Stmt) (ps:List Str):Prop:=∀(kV doc pm:Value) (an:Option Addr) (cdv ct:Value) (us:List Value),us.length=ps.length→bindArgs (PySem.W.fnOf m (C++"."++m) (defArgs st) (defBody st) (defScope st) .none kV doc pm an cdv ct) ⟨us,[]⟩=pure (ps.zip us)
def kRes (Q:RV→A0→AH→Prop) (env:A0):RR→AH→Prop:=fun r h2=> match r with
  | .val w=> Q (.val w) env h2
  | .own c=> Q (.own c) env h2
def aMeth (C m:Str) (E:AExc→A0→AH→Prop) (sp:C0) (to:AT) (t:B7):AT:=fun env h Q=> to env h fun r env1 h1=> ∃a fs,r= .val (.ref a)∧h1 a=some (.ins C fs)∧fs.lookup m=none∧
  t env1 h1 fun ws env2 h2=> sp (.ref a::ws) h2 (kRes Q env2) fun x h3=> E x env2 h3
theorem kRes.imp {Q Q':RV→A0→AH→Prop} {env:A0} (k:∀r e h,Q r e h→Q' r e h) (r:RR) (h:AH) (z:kRes Q env r h):kRes Q' env r h:=by
  cases r with
  | val w=> exact k _ _ _ z
  | own c=> exact k _ _ _ z
theorem aMeth.mono {C m:Str} {E:AExc→A0→AH→Prop} {sp:C0} {to:AT} {t:B7} (sm:L1 sp) (a:A2 to) (b:A2 t):A2 (aMeth C m E sp to t):=fun env h Q Q' k q=>
  a env h _ _ (fun r e g ⟨p,fs,z1,z2,z3,z4⟩=> ⟨p,fs,z1,z2,z3,b e g _ _ (fun ws e2 g2 z=> sm _ _ _ _ _ _ (fun r f y=> kRes.imp k r f y) (fun x f y=> y) z) z4⟩) q
section
variable {X:Cx} {G:Gx} {sp:C0} {C m:Str} {st:Stmt} {k j n:Nat} {ps:List Str} {o e:Expr} {es:List Expr} {pos apos:Pos} {to:AT} {t:B7} {E:AExc→A0→AH→Prop}
end
structure MkC (K:PySem.W.Frag) (mg:Str→Option Value) (n:Str):Prop where
  gl:mg n=some (.ref (He.ga K n))
  makes:PySem.W.makesIn K (He.ga K n)=true
  kp:PySem.W.keepIn K (.ref (He.ga K n))=true
def kMk (Q:RV→A0→AH→Prop) (env:A0) (a:Addr):RR→AH→Prop:=fun r h2=> r= .val .non∧Q (.val (.ref a)) env h2
def aMake (C:Str) (E:AExc→A0→AH→Prop) (sp:C0) (t:B7):AT:=fun env h Q=> t env h fun ws env1 h1=> ∀a,h1 a=none→sp (.ref a::ws) (C9 h1 a (.ins C [])) (kMk Q env1 a) fun x h3=> E x env1 h3
theorem aMake.mono {C:Str} {E:AExc→A0→AH→Prop} {sp:C0} {t:B7} (sm:L1 sp) (b:A2 t):A2 (aMake C E sp t):=fun env h Q Q' k q=>
  b env h _ _ (fun ws e g z a n=> sm _ _ _ _ _ _ (fun r f y=> ⟨y.1,k _ _ _ y.2⟩) (fun x f y=> y) (z a n)) q
section
variable {G:Gx} {env:A0} {h:AH} {σ:L2.St} {H:Hp}
theorem BS.made (S:BS G env h σ H) {a dx:Addr} {C:Str} (n:H a=none) (nd:H dx=none) (ne:dx≠a):
    BS G env (C9 h a (.ins C [])) σ (upd (upd H dx (.own a)) a (.ins (He.ga G.K C) dx []))∧Xt env h σ H env (C9 h a (.ins C [])) (upd (upd H dx (.own a)) a (.ins (He.ga G.K C) dx [])):=by
  have nw:New H (upd (upd H dx (.own a)) a (.ins (He.ga G.K C) dx [])):=fun p o e=> by
    have n1:p≠a:=fun z=> by rw [z,n] at e;cases e
    have n2:p≠dx:=fun z=> by rw [z,nd] at e;cases e
    rw [upd_ne n1,upd_ne n2];exact e
  have S1:=nw.bs S
  obtain ⟨ha,h0,no⟩:=S.noAt n
  refine ⟨⟨S1.len,S1.val,fun i c e=> ?_,S1.uni,fun b o e=> ?_,S1.fr,fun b o e y=> ?_,S1.tr,S1.tabs⟩,⟨fun p o e _ _ _=> nw p o e,fun p o e y=> ?_,fun p o e=> ⟨o,nw p o e⟩,fun i c e=> ⟨c,e⟩⟩⟩
  · obtain ⟨p,x,y,z,w⟩:=S1.own i c e
    have np:p≠a:=fun q=> no ⟨i,c,e,q▸x⟩
    exact ⟨p,x,y,by rw [L8 np];exact z,w⟩
  · by_cases hb:b=a
    · subst hb;rw [Q8] at e;cases e;exact ⟨dx,[],upd_same,rfl,.nil⟩
    · rw [L8 hb] at e;exact S1.hp b o e
  · by_cases hb:b=a
    · subst hb;exact h0
    · rw [L8 hb] at e;exact S1.ext b o e y
  · by_cases hb:p=a
    · subst hb;exact n
    · rw [L8 hb,y] at e;cases e
end
section
variable {X:Cx} {G:Gx} {sp:C0} {C:Str} {st:Stmt} {k j n:Nat} {ps:List Str} {e:Expr} {es:List Expr} {pos p:Pos} {t:B7} {E:AExc→A0→AH→Prop}
theorem B0d {CX:CXT} {sp:Sp} {C f:Addr} {fd:FuncData} {pins:List (Addr×Obj)} {σ:L2.St} {H:Hp} {s:Shared} {Q:VK} {E:XK} {us:List Value} {vs:List V} (M:Mk X.K C f) (F:FnOk X.prog X.w X.K X.mg X.base CX k f fd ps sp) (hr:Room (k+1) X.A) (hb:Binds X.K fd ps [])
    (hx:PassesAt CX X σ E) (I:Inv X pins σ H s) (r:Vals vs us)
    (h:∀x dx,H x=none→H dx=none→dx≠x→sp (.ref x::vs) (upd (upd H dx (.own x)) x (.ins C dx [])) (fun v H2=> v= .non∧Q (.ref x) H2) E):
    wpAny (model X.prog X.w) X.A (call (.ref C) us) (EP X pins σ Q) X.xe s:=by
  have hq:=h (s.heap.objs.size+1) s.heap.objs.size (I.hok.fresh (Nat.le_succ _)) (I.hok.fresh (Nat.le_refl _)) (Nat.ne_of_lt (Nat.lt_succ_self _))
  have I2:=Inv.made (C:=C) I
  have r2:Vals (V.ref (s.heap.objs.size+1)::vs) (Value.ref (s.heap.objs.size+1)::us):= .cons rfl r
  have hl:(Value.ref (s.heap.objs.size+1)::us).length=ps.length:=by
    have e:=r2.length
    rw [F.len _ _ _ _ hq] at e
    exact e.symm
  refine wpAny_call (make_map (f:=f) I.kIn M.makes M.init (beq_iff_eq.mp M.fn) (codeAny_mono (F.run _ X.stack _ _ ⟨Value.ref (s.heap.objs.size+1)::us,[]⟩ (Value.ref (s.heap.objs.size+1)::us) _ _ E (hr.make C us [])
    (I2.env0.make C us []) (by have z:=hb _ (Value.ref (s.heap.objs.size+1)::us) I2.kIn (by rw [List.append_nil];exact hl);rw [List.append_nil] at z;exact z) r2 hq) fun r s' hq'=> ?_))
  cases r with
  | error e=> exact hx pins _ _ e s' I2 hq'
  | ok fl=>
    cases fl with
    | ret u=>
      obtain ⟨v,H',I3,rv,ev,q3⟩:=I2.after hq'
      subst ev
      exact ⟨rv,⟨V.ref (s.heap.objs.size+1),H',I3,rfl,q3⟩⟩
    | next=> exact False.elim hq'
    | brk=> exact False.elim hq'
    | cont=> exact False.elim hq'
theorem B1V {ws:List W} {vs:List V} {env env1:A0} {h h1:AH} {σ:L2.St} {H H1:Hp} {Q:VK} (hl:ws.length=n) (S1:BS G env1 h1 σ H1) (x1:Xt env h σ H env1 h1 H1) (r:RepL G.K H1 ws vs)
    (z:∀a,h1 a=none→sp (.ref a::ws) (C9 h1 a (.ins C [])) (kMk (fun r e g=> ∀v H',BS G e g σ H'→Xt env h σ H e g H'→RvRep G e g σ H' r v→J9 H r v→Q v H') env1 a) fun x h3=> E x env1 h3):
    ∀x dx,H1 x=none→H1 dx=none→dx≠x→M9 G.K (n+1) sp (.ref x::vs) (upd (upd H1 dx (.own x)) x (.ins (He.ga G.K C) dx [])) (fun v H2=> v= .non∧Q (.ref x) H2) (WE (cW G E) σ):=fun a dx na nd ne=> by
  obtain ⟨ha,_,_⟩:=S1.noAt na
  obtain ⟨S2,x2⟩:=S1.made (C:=C) na nd ne
  refine ⟨.ref a::ws,_,_,_,by rw [List.length_cons,hl],S2.hp,S2.tabs,.cons .ref (RepL.mono (x2.keeps S1) _ _ r),z a ha,fun r h' v H' ⟨y1,y⟩ c rr=> ?_,fun x h' cls d H' y c xr=> ?_⟩
  · obtain ⟨S3,x3⟩:=S2.after c
    subst y1
    exact ⟨Rep.of_non (K:=G.K) (H:=H') rr,y (.ref a) H' S3 (x1.trans (x2.trans x3)) (show Rep G.K H' (.ref a) (.ref a) from .ref) trivial⟩
  · obtain ⟨S3,x3⟩:=S2.after c
    exact ⟨x,env1,h',S3,xr,y⟩
theorem A61 (gk:G.K=X.K) (MC:MkC X.K X.mg C) (O:OkM X.prog X.w X.K X.mg X.base C "__init__" st k (n+1) ps [] sp) (bd:A4S C "__init__" st ps) (hr:Room j X.A) (kj:k+1≤j) (hg:Gl X C) (tk:Takes X (cW G E)) (ha:AN X G (e::es) n t)
    (hdb:(C==("__debug__":Str))=false:=by decide) (he:starEach (e::es) X.env=(false,eval e X.env)::starEach es X.env:=by rfl) (hpl:(backTo pos (starEach es X.env)).any (·.1)=false:=by rfl):
    AE X G (.Call (.Name C p) (e::es) [] pos) (aMake C E sp t):=by
  obtain ⟨f,fd,M,FD,F⟩:=O.ex
  have F:FnOk X.prog X.w X.K X.mg X.base (L2.CX X.prog X.w) k f fd ps (M9 G.K (n+1) sp):=gk▸F
  refine ⟨aMake.mono O.sm ha.aa.mono,⟨fun pins s σ H Q I ⟨env,h,S,q⟩=> ?_⟩⟩
  refine wpAny_Call_Name_kw (ld_glob I hg MC.gl ?_ hdb)
  refine PySem.W.callWith_K (h₀:=X.base) I.ok.mod.kin MC.kp (thn (ha.aa.pa.run pos pins s σ H (fun vs H1=> ∀x dx,H1 x=none→H1 dx=none→dx≠x→M9 G.K (n+1) sp (.ref x::vs) (upd (upd H1 dx (.own x)) x (.ins (He.ga X.K C) dx [])) (fun v H2=> v= .non∧Q (.ref x) H2) (WE (cW G E) σ)) I
    ⟨env,h,S,ha.aa.mono env h _ _ (fun ws env1 h1 ⟨hl,z⟩ vs H1 S1 x1 r1=> ?_) (ha.ln env h _ q)⟩) fun us s1 ⟨vs,H1,I1,r,q⟩=> ⟨I1.kIn,?_⟩) he hpl
  · exact B0d ⟨MC.makes,M.at_,M.fn,MC.kp⟩ F (hr.mono kj) (FD.bindsN bd) (passAt tk σ) I1 r q
  · rw [←gk]
    exact B1V hl S1 x1 r1 z
end
section
variable {P:Program} {w:World} {K:PySem.W.Frag} {mg:Str→Option Value} {base:Heap} {C m:Str} {st:Stmt} {f:Addr} {fd:FuncData} {N ps:List Str} {k n:Nat} {kws:List (Str×V)} {sp:C0}
theorem OkM.mk' {t:(AExc→A0→AH→Prop)→B4} (sm:L1 sp) (cl:Cls K (He.ga K C)) (M:Meth K (He.ga K C) m f) (F:FunD K m (C++"."++m) (defArgs st) (defBody st) (defScope st) [] kws f fd) (S:FnScope N ps (defScope st)) (hn:ps.length=n)
    (hb:∀(cdv:Value) (A:Around) (outer:List Env) (s:Shared) (H:Hp) (E:XK) (G:Gx) (E':AExc→A0→AH→Prop),Room k (A.deeper (envOfC (C++"."++m) (defScope st) s.heap.objs.size f cdv))→G.K=K→Takes (bx P w K mg base N (C++"."++m) (defScope st) f cdv A outer s H E) (cW G E')→
      ASs (bx P w K mg base N (C++"."++m) (defScope st) f cdv A outer s H E) G (defBody st) (t E'))
    (hq:∀ws h Qa Ea,ws.length=n→sp ws h Qa Ea→t (C7 Ea) (C1 Qa) (G2 N.length ws) h):OkM P w K mg base C m st (k+1) n ps kws sp:=
  ⟨sm,cl,f,fd,M,F,A4I [] kws F S hn hb hq⟩
end
end Ab
namespace Ab
open PySem PySem.Spec PyProof.Rows L2 RZ
def smap (l:List (Str×W)):List (W×W):=l.map fun p=> (W.str p.1,p.2)
def A1P (l:List (Str×W)) (s:Str) (w:W):List (Str×W):=if (l.any fun p=> decide (p.1=s))=true then l.map (fun p=> if p.1=s then (p.1,w) else p) else l++[(s,w)]
def A8A (l:List (Str×W)) (s:Str):List (Str×W):=l.filter fun p=> decide (p.1≠s)
abbrev g9 (l:List (Str×W)):W:=(Cont.map (smap l)).fz
section
variable {K:PySem.W.Frag} {H:Hp}
theorem A6O (l:List (Str×W)):((smap l).map (·.1)).map d5=l.map fun q=> some (Sum.inr q.1):=by
  simp only [smap,List.map_map];rfl
theorem A16 (l:List (Str×W)):(smap l).map (·.2)=l.map (·.2):=by
  simp only [smap,List.map_map];rfl
theorem A5k {α:Type}:∀{a b:List α},a.map some=b.map some→a=b
  | [],[],_=> rfl
  | [],_::_,e=> by cases e
  | _::_,[],e=> by cases e
  | x::a,y::b,e=> by
    rw [List.map_cons,List.map_cons] at e
    injection e with e1 e2
    rw [Option.some.inj e1,A5k e2]
theorem A3w {l:List (Str×W)} {ks:List (Key×V)} (e:((smap l).map (·.1)).map d5=ks.map (fun q=> some q.1)):ks.map (·.1)=l.map fun q=> Sum.inr q.1:=by
  rw [A6O] at e
  have z:(ks.map (·.1)).map some=(l.map fun q=> (Sum.inr q.1:Key)).map some:=by
    rw [List.map_map,List.map_map];exact e.symm
  exact A5k z
theorem A4e {l:List (Str×W)} {ks:List (List Key×V)} (e:∃r,(smap l).map (·.1)= .lst []::r∧r.map A5E=ks.map (fun q=> some q.1)):False:=by
  obtain ⟨r,e,_⟩:=e
  cases l with
  | nil=> cases e
  | cons p l=> cases e
theorem B4Q {p:Addr} {l:List (Str×W)} (h:CRep K H p (.map (smap l))):∃ks,H p=some (.dK ks)∧ks.map (·.1)=l.map (fun q=> Sum.inr q.1)∧RepL K H (l.map (·.2)) (ks.map (·.2)):=by
  rcases h with ⟨ks,e,a,b⟩ | ⟨ks,e,a,b⟩
  · exact ⟨ks,e,A3w a,A16 l▸b⟩
  · exact (A4e a).elim
theorem B4K {p:Addr} {l:List (Str×W)} {ks:List (Key×V)} (e:H p=some (.dK ks)) (a:ks.map (·.1)=l.map (fun q=> Sum.inr q.1)) (b:RepL K H (l.map (·.2)) (ks.map (·.2))):CRep K H p (.map (smap l)):=by
  refine .inl ⟨ks,e,?_,(A16 l).symm▸b⟩
  rw [A6O]
  have z:=congrArg (List.map some) a
  rw [List.map_map,List.map_map] at z
  exact z.symm
theorem VR.smap {v:Vw} {x:V} {l:List (Str×W)} (r:VR K H v x) (e:v.toW=g9 l):∃p ks,x= .ref p∧Rd H p (.dK ks)∧ks.map (·.1)=l.map (fun q=> Sum.inr q.1)∧RepL K H (l.map (·.2)) (ks.map (·.2)):=by
  cases v with
  | bad=> cases e
  | cv c=>
    cases c with
    | seq ws=> cases e
    | map kvs=>
      obtain ⟨p,ex,c⟩:=r
      have e1:kvs.map (·.1)=(Ab.smap l).map (·.1):=by injection e
      have e2:kvs.map (·.2)=(Ab.smap l).map (·.2):=by injection e
      rcases c with ⟨ks,a,b,d⟩ | ⟨ks,a,b,d⟩
      · rw [e1] at b;rw [e2,A16] at d
        exact ⟨p,ks,ex,.inl a,A3w b,d⟩
      · rw [e1] at b
        exact (A4e b).elim
  | wv w=>
    have e:w=g9 l:=e
    subst e
    have z:Rep K H (.dct ((Ab.smap l).map (·.1)) ((Ab.smap l).map (·.2))) x:=r
    simp only [Rep] at z
    obtain ⟨p,ex,⟨o,ks,a,b,d⟩ | ⟨o,ks,a,b,d⟩⟩:=z
    · rw [A16] at d
      exact ⟨p,ks,ex,.inr ⟨o,a⟩,A3w b,d⟩
    · exact (A4e b).elim
end
def inM (neg:Bool) (v:Vw) (w:W) (Q:RV→Prop):Prop:=∃l s,v.toW=g9 l∧w= .str s∧Q (.val (.bl (if neg=true then !(l.lookup s).isSome else (l.lookup s).isSome)))
def aInM (neg:Bool) (tk:B5) (to:AT):AT:=fun env h Q=> tk env h fun w env1 h1=> to env1 h1 fun r env2 h2=> inM neg (view env2 h2 r) w fun x=> Q x env2 h2
theorem aInM.mono {neg:Bool} {tk:B5} {to:AT} (m:A2 tk) (n:A2 to):A2 (aInM neg tk to):=fun env h Q Q' k q=> m env h _ _ (fun w e g z=> n e g _ _ (fun r e g ⟨l,s,z1,z2,z3⟩=> ⟨l,s,z1,z2,k _ _ _ z3⟩) z) q
section
variable {X:Cx} {G:Gx} {o k e:Expr} {pos pos':Pos} {tk tv:B5} {to:AT}
def A80 (v:Vw) (w:W) (Q:RV→Prop):Prop:=∃l s u,v.toW=g9 l∧w= .str s∧l.lookup s=some u∧Q (.val u)
def aGetM (to:AT) (tk:B5):AT:=fun env h Q=> to env h fun r env1 h1=> tk env1 h1 fun w env2 h2=> A80 (view env2 h2 r) w fun x=> Q x env2 h2
theorem aGetM.mono {tk:B5} {to:AT} (n:A2 to) (m:A2 tk):A2 (aGetM to tk):=fun env h Q Q' k q=> n env h _ _ (fun r e g z=> m e g _ _ (fun w e g ⟨l,s,u,z1,z2,z3,z4⟩=> ⟨l,s,u,z1,z2,z3,k _ _ _ z4⟩) z) q
def A2d:AT:=fun env h Q=> Q (.own (.map (smap []))) env h
theorem A6d {pos:Pos}:AE X G (.Dict [] [] pos) A2d:=by
  refine ⟨fun env h Q Q' k q=> k _ _ _ q,PE.imp pe_dnewK fun σ H Q ⟨env,h,S,q⟩ p n=> ?_⟩
  obtain ⟨S2,x2,r2,f2⟩:=A35 S .refl n (o:= .dK []) (c:= .map (smap [])) fun nw=> B4K upd_same rfl .nil
  exact q _ _ S2 x2 r2 f2
end
end Ab
namespace Ab
open PySem PySem.Spec PyProof.Rows L2 RZ
theorem B1M {cs:List Int} {k:Nat}:N4 (cs.map W.int) none (some (k:Int))=(cs.take k).map W.int:=by
  rw [A4A,List.map_take]
theorem B4e {x:W} {xs:List W}:atI (x::xs) 0=some x:=atI_nat (j:=0) rfl
theorem B4h {x y:W} {xs:List W}:atI (x::y::xs) 1=some y:=atI_nat (j:=1) rfl
theorem B4j {x y z:W} {xs:List W}:atI (x::y::z::xs) 2=some z:=atI_nat (j:=2) rfl
end Ab
namespace Ab
open PySem PySem.Spec PyProof.Rows L2 RZ
def B45 (K:PySem.W.Frag) (tl:TE):TI:=fun σ H R=> tl σ H fun x H1=>
  ∃a,x= .ref a∧(((∃xs,SqL K H1 a xs)∧R (Itl K a) H1)∨((∃xs,SqT K H1 a xs)∧R (Itt K a) H1))
theorem B4T {X:Cx} {tg l:Expr} {tl:TE} (hl:PE X l tl):PI X tg l (B45 X.K tl):=by
  constructor
  intro pins s σ H R I h
  refine thn (hl.run pins s σ H _ I h) ?_
  rintro v s1 ⟨x,H1,I1,r1,a,rfl,q⟩
  cases r1
  have fp:∀b∈[s1.heap.objs.size],FpOk X pins H1 b:=by
    intro b hb
    obtain rfl:b=s1.heap.objs.size:=by simpa using hb
    exact I1.fpOk (Nat.le_refl _) (I1.hok.fresh (Nat.le_refl _))
  rcases q with ⟨⟨xs,hq⟩,q⟩ | ⟨⟨xs,hq⟩,q⟩
  · obtain ⟨its,rv,p,hz⟩:=I1.list hq
    apply wpAny_pyIter_list p.isList
    exact ⟨_,[s1.heap.objs.size],_,_,H1,rfl,
      I1.kept (t':=s1.toks) fun b o e=> Heap.get?_push_of_some _ e,turn_list a _,⟨_,Heap.get?_push_size _ rfl,rfl,rfl⟩,fp,q⟩
  · obtain ⟨its,rv,p,hz⟩:=I1.tuple hq
    apply wpAny_pyIter_tuple (show s1.heap.IsTuple a its.toArray from p)
    exact ⟨_,[s1.heap.objs.size],_,_,H1,rfl,
      I1.kept (t':=s1.toks) fun b o e=> Heap.get?_push_of_some _ e,turn_tuple a _,⟨_,Heap.get?_push_size _ rfl,rfl,rfl⟩,fp,q⟩
def iSq (t:B5):O7:=fun env h Q=> t env h fun w env' h'=> match w with
  | .lst ws=> Q ws env' h'
  | .tup ws=> Q ws env' h'
  | _=> False
theorem iSq.mono {t:B5} (m:A2 t):A2 (iSq t):=fun env h Q Q' k q=> m env h _ _ (fun w e g z=> by
  split at z
  · exact k _ _ _ z
  · exact k _ _ _ z
  · exact z) q
section
variable {X:Cx} {G:Gx} {tg e:Expr} {st:Stmt}
theorem B3i {t:B5} (gk:G.K=X.K) (a:AV X G e t):AI X G tg e (iSq t):=by
  refine ⟨iSq.mono a.mono,PI.imp (B4T a.pe) fun σ H R ⟨env,h,S,q⟩=> ?_⟩
  refine ⟨env,h,S,a.mono env h _ _ (fun w env1 h1 z v H1 S1 x1 r1=> ?_) q⟩
  cases w with
  | lst ws=>
    obtain ⟨p,vs,rfl,l,r⟩:=Rep.of_lst r1
    exact ⟨p,rfl,.inl ⟨⟨vs,l.sq⟩,z _ H1 S1 x1 (gk▸B0Q l r)⟩⟩
  | tup ws=>
    obtain ⟨p,vs,rfl,l,r⟩:=Rep.of_tup r1
    exact ⟨p,rfl,.inr ⟨⟨vs,gk▸l⟩,z _ H1 S1 x1 (gk▸B0e l r)⟩⟩
  | _=> exact z.elim
def aFrz (i:Nat) (t:B4):B4:=fun D env h=> match env[i]? with
  | some (some (.own c))=> t D (env.set i (some (.val c.fz))) h
  | some (some (.val _))=> t D env h
  | _=> False
theorem aFrz.mono {i:Nat} {t:B4} (m:T4 t):T4 (aFrz i t):=fun D D' env h l q=> by
  unfold aFrz at q ⊢
  split at q
  · exact m _ _ _ _ l q
  · exact m _ _ _ _ l q
  · exact q
theorem B20 (i:Nat) {t:B4} (a:AS X G st t):AS X G st (aFrz i t):=by
  refine ⟨aFrz.mono a.mono,⟨fun pins s σ H Q I ⟨env,h,Da,S,q,l⟩=> ?_⟩⟩
  unfold aFrz at q
  split at q
  · rename_i c e
    obtain ⟨p,H2,es,I2,S2,x2,r2⟩:=A3f (env:=env) (env':=env) (H:=H) (H1:=H) S .refl I e
    exact a.ps.run pins s σ H2 Q I2 ⟨_,h,Da,S2,q,l.from (x2.keeps S)⟩
  · exact a.ps.run pins s σ H Q I ⟨env,h,Da,S,q,l⟩
  · exact q.elim
end
section
variable {X:Cx}
def A2w:G5:=fun as Q=> match as with
  | [a]=> ∃ns:List Int,a.items=some (ns.map W.int)∧Q (.val (.int ns.sum))
  | _=> False
end
end Ab
namespace Ab
open PySem PySem.Spec PyProof.Rows L2 RZ
abbrev U4:=A0→AH→((AH→Prop)→List W→A0→AH→Prop)→Prop
def A2y (t:U4):Prop:=∀env h Q Q',(∀ok ws e k,Q ok ws e k→Q' ok ws e k)→t env h Q→t env h Q'
def B3A (G:Gx) (J:It) (H1:Hp) (ok:AH→Prop) (ws:List W):Prop:=∀h H,(∀a o,h a=some o→ORep G.K H a o)→Keeps H1 H→ok h→∀i:Nat,(ws.length≤i→J.stop i H)∧∀w,ws[i]? =some w→J.go i H∧∀x H',J.yld i H x H'→New H H'∧Rep G.K H' w x
def cIL (G:Gx) (t:U4):TI:=fun σ H R=> ∃env h,BS G env h σ H∧t env h fun ok ws env' h'=> ∀J H',BS G env' h' σ H'→Xt env h σ H env' h' H'→B3A G J H' ok ws→R J H'
structure AI2 (X:Cx) (G:Gx) (tg iter:Expr) (t:U4):Prop where
  mono:A2y t
  pi:PI X tg iter (cIL G t)
def B47 (t:O7):U4:=fun env h Q=> t env h fun ws e k=> Q (fun _=> True) ws e k
theorem AI.two {X:Cx} {G:Gx} {tg e:Expr} {t:O7} (a:AI X G tg e t):AI2 X G tg e (B47 t):=
  ⟨fun env h Q Q' k q=> a.mono env h _ _ (fun ws e g z=> k _ _ _ _ z) q,PI.imp a.pi fun σ H R ⟨env,h,S,q⟩=> ⟨env,h,S,a.mono env h _ _ (fun ws e g z J H' S1 x1 gv=> z J H' S1 x1 fun _ H'' _ kk _=> gv H'' kk) q⟩⟩
def srcW (h:AH) (r:RV) (Q:(AH→Prop)→List W→Prop):Prop:=match r with
  | .val (.ref a)=> ∃ws,h a=some (.cont (.seq ws))∧Q (fun k=> k a=some (.cont (.seq ws))) ws
  | .val (.lst ws)=> Q (fun _=> True) ws
  | .val (.tup ws)=> Q (fun _=> True) ws
  | _=> False
def iLive (t:AT):U4:=fun env h Q=> t env h fun r env1 h1=> srcW h1 r fun ok ws=> Q ok ws env1 h1
def iLvE (t:AT):U4:=fun env h Q=> t env h fun r env1 h1=> srcW h1 r fun ok ws=> Q ok (N5 ws) env1 h1
theorem srcW.imp {h:AH} {r:RV} {Q Q':(AH→Prop)→List W→Prop} (k:∀ok ws,Q ok ws→Q' ok ws) (z:srcW h r Q):srcW h r Q':=by
  unfold srcW at z ⊢
  split at z
  · obtain ⟨ws,e,z⟩:=z;exact ⟨ws,e,k _ _ z⟩
  · exact k _ _ z
  · exact k _ _ z
  · exact z
theorem iLive.mono {t:AT} (m:A2 t):A2y (iLive t):=fun env h Q Q' k q=> m env h _ _ (fun r e g z=> srcW.imp (fun ok ws y=> k _ _ _ _ y) z) q
theorem iLvE.mono {t:AT} (m:A2 t):A2y (iLvE t):=fun env h Q Q' k q=> m env h _ _ (fun r e g z=> srcW.imp (fun ok ws y=> k _ _ _ _ y) z) q
section
variable {X:Cx} {G:Gx} {tg e:Expr}
end
def aLoopL (ok:AH→Prop) (g:E7) (tb:B4) (D:AEnds):List W→A0→AH→Prop
  | []=> fun env h=> ok h∧D.nx env h
  | w::ws=> fun env h=> ok h∧g w env h fun env1 h1=> tb { D with nx:=aLoopL ok g tb D ws,ct:=aLoopL ok g tb D ws,bk:=D.nx } env1 h1
theorem aLoopL.mono {ok:AH→Prop} {g:E7} {tb:B4} (mg:c4 g) (mt:T4 tb) {D D':AEnds} (l:D.Le D'):∀(ws:List W) env h,aLoopL ok g tb D ws env h→aLoopL ok g tb D' ws env h
  | [],env,h,q=> ⟨q.1,l.nx _ _ q.2⟩
  | w::ws,env,h,q=> ⟨q.1,mg w env h _ _ (fun e k z=> mt { D with nx:=aLoopL ok g tb D ws,ct:=aLoopL ok g tb D ws,bk:=D.nx } { D' with nx:=aLoopL ok g tb D' ws,ct:=aLoopL ok g tb D' ws,bk:=D'.nx } e k ⟨aLoopL.mono mg mt l ws,l.rt,l.nx,aLoopL.mono mg mt l ws⟩ z) q.2⟩
section
variable {X:Cx} {G:Gx} {tg iter:Expr} {body:List Stmt} {pos:Pos}
end
def lcLoopL (ok:AH→Prop) (vs:List Nat) (g:E7) (tt:E4) (te:B5) (Q:List W→A0→AH→Prop):List W→List W→A0→AH→Prop
  | [],acc=> fun env h=> ok h∧Q acc env h
  | w::ws,acc=> fun env h=> ok h∧g w (P6 env vs) h fun e1 h1=> tt e1 h1 fun b e2 h2=> if b=true then te e2 h2 fun y e3 h3=> acc.length < sizeLine∧lcLoopL ok vs g tt te Q ws (acc++[y]) (mend env e3 vs) h3 else lcLoopL ok vs g tt te Q ws acc (mend env e2 vs) h2
theorem lcLoopL.mono {ok:AH→Prop} {vs:List Nat} {g:E7} {tt:E4} {te:B5} (mg:c4 g) (mt:A2 tt) (me:A2 te) {Q Q':List W→A0→AH→Prop} (k:∀a e h,Q a e h→Q' a e h):∀(ws acc:List W) env h,lcLoopL ok vs g tt te Q ws acc env h→lcLoopL ok vs g tt te Q' ws acc env h
  | [],acc,env,h,q=> ⟨q.1,k _ _ _ q.2⟩
  | w::ws,acc,env,h,q=> ⟨q.1,mg _ _ _ _ _ (fun e1 h1 z=> mt _ _ _ _ (fun b e2 h2 z=> by
    cases b with
    | true=> rw [if_pos rfl] at z ⊢;exact me _ _ _ _ (fun y e3 h3 z=> ⟨z.1,lcLoopL.mono mg mt me k ws _ _ _ z.2⟩) z
    | false=> rw [if_neg Bool.false_ne_true] at z ⊢;exact lcLoopL.mono mg mt me k ws _ _ _ z) z) q.2⟩
def del (H:Hp) (D:Addr):Hp:=fun p=> if p=D then none else H p
theorem A6c {H:Hp} {D:Addr}:del H D D=none:=by unfold del;rw [if_pos rfl]
theorem del_ne {H:Hp} {D p:Addr} (n:p≠D):del H D p=H p:=by unfold del;rw [if_neg n]
theorem A6o {H:Hp} {D p:Addr} {o:HO} (e:del H D p=some o):p≠D∧H p=some o:=by
  have n:p≠D:=fun z=> by rw [z,A6c] at e;cases e
  exact ⟨n,(del_ne n).symm.trans e⟩
theorem Xt.del {env env':A0} {h h':AH} {σ:L2.St} {H H':Hp} {D:Addr} (x:Xt env h σ H env' h' H'):Xt env h σ (del H D) env' h' H':=
  ⟨fun p o e n w t=> x.fr p o (A6o e).2 n w t,fun p o e n=> by
    by_cases q:p=D
    · rw [q];exact A6c
    · rw [del_ne q];exact x.hn p o e n,fun p o e=> x.th p o (A6o e).2,x.sl⟩
section
variable {X:Cx} {G:Gx} {elt tg iter:Expr} {ifs:List Expr} {scope:Scope} {own:List (Str×Nat)} {pos:Pos} {ti:U4} {g:E7} {tt:E4} {te:B5} {sl:List Nat}
def lc2Loop (ok:AH→Prop) (vs:List Nat) (g:E7) (tt:E4) (ti1:U4) (vs1:List Nat) (g1:E7) (tt1:E4) (te:B5) (Q:List W→A0→AH→Prop):List W→List W→A0→AH→Prop
  | [],acc=> fun env h=> ok h∧Q acc env h
  | w::ws,acc=> fun env h=> ok h∧g w (P6 env vs) h fun e1 h1=> tt e1 h1 fun b e2 h2=> if b=true then ti1 e2 h2 fun ok1 ws1 e3 h3=> lcLoopL ok1 vs1 g1 tt1 te (fun acc' e4 h4=> lc2Loop ok vs g tt ti1 vs1 g1 tt1 te Q ws acc' (mend env e4 vs) h4) ws1 acc e3 h3 else lc2Loop ok vs g tt ti1 vs1 g1 tt1 te Q ws acc (mend env e2 vs) h2
variable {ti1:U4} {g1:E7} {tt1:E4} {vs1 sl1:List Nat} {tg1 iter1:Expr} {ifs1:List Expr}
theorem lc2Loop.mono {ok:AH→Prop} {vs:List Nat} (mg:c4 g) (mt:A2 tt) (mi:A2y ti1) (mg1:c4 g1) (mt1:A2 tt1) (me:A2 te) {Q Q':List W→A0→AH→Prop} (k:∀a e h,Q a e h→Q' a e h):∀(ws acc:List W) env h,lc2Loop ok vs g tt ti1 vs1 g1 tt1 te Q ws acc env h→lc2Loop ok vs g tt ti1 vs1 g1 tt1 te Q' ws acc env h
  | [],acc,env,h,q=> ⟨q.1,k _ _ _ q.2⟩
  | w::ws,acc,env,h,q=> ⟨q.1,mg _ _ _ _ _ (fun e1 h1 z=> mt _ _ _ _ (fun b e2 h2 z=> by
    cases b with
    | true=> rw [if_pos rfl] at z ⊢;exact mi _ _ _ _ (fun ok1 ws1 e3 h3 z=> lcLoopL.mono mg1 mt1 me (fun acc' e4 h4 z=> lc2Loop.mono mg mt mi mg1 mt1 me k ws _ _ _ z) _ _ _ _ z) z
    | false=> rw [if_neg Bool.false_ne_true] at z ⊢;exact lc2Loop.mono mg mt mi mg1 mt1 me k ws _ _ _ z) z) q.2⟩
end
end Ab
namespace Ab
open PySem PySem.Spec PyProof.Rows L2 RZ
mutual
def W.nodct:W→Bool
  | .dct _ _=> false
  | .tup ws=> W.nodcts ws
  | .lst ws=> W.nodcts ws
  | _=> true
def W.nodcts:List W→Bool
  | []=> true
  | w::ws=> w.nodct && W.nodcts ws
end
def SV.nodct:SV→Bool
  | .val w=> w.nodct
  | .own (.seq ws)=> W.nodcts ws
  | .own (.map kvs)=> W.nodcts (kvs.map (·.2))
def A7s (e:A0):Bool:=e.all fun x=> match x with
  | some sv=> sv.nodct
  | none=> true
section
variable {K:PySem.W.Frag} {H H':Hp} {q:Addr} {od:Obj} {u:HO} {kq:List (Key×V)}
theorem A6S (hq:H q=some (.frz od (.dK kq))) {p:Addr} {o:HO} (e:H p=some o) (n:∀od',o≠ .frz od' (.dK kq)):p≠q:=fun z=> by
  rw [z,hq] at e;exact n od (Option.some.inj e).symm
mutual
theorem Rep.unlock (hq:H q=some (.frz od (.dK kq))) (kp:∀p o,H p=some o→Imm o→p≠q→H' p=some o):∀(w:W) (v:V),w.nodct=true→Rep K H w v→Rep K H' w v
  | .non,_,_,h=> by simpa only [Rep] using h
  | .bl _,_,_,h=> by simpa only [Rep] using h
  | .int _,_,_,h=> by simpa only [Rep] using h
  | .str _,_,_,h=> by simpa only [Rep] using h
  | .ref _,_,_,h=> by simpa only [Rep] using h
  | .ty _,_,_,h=> by simpa only [Rep] using h
  | .tup ws,v,d,h=> by
    simp only [Rep] at h ⊢
    obtain ⟨a,vs,e,s,r⟩:=h
    refine ⟨a,vs,e,s.imp (fun e=> kp _ _ e trivial (A6S hq e fun _ z=> by cases z)) id,RepL.unlock hq kp ws vs ?_ r⟩
    simpa only [W.nodct] using d
  | .lst ws,v,d,h=> by
    simp only [Rep] at h ⊢
    obtain ⟨a,vs,e,⟨o,s⟩,r⟩:=h
    refine ⟨a,vs,e,⟨o,kp _ _ s trivial (A6S hq s fun _ z=> by cases z)⟩,RepL.unlock hq kp ws vs ?_ r⟩
    simpa only [W.nodct] using d
  | .dct ks ws,v,d,h=> by simp only [W.nodct] at d;cases d
theorem RepL.unlock (hq:H q=some (.frz od (.dK kq))) (kp:∀p o,H p=some o→Imm o→p≠q→H' p=some o):∀(ws:List W) (vs:List V),W.nodcts ws=true→RepL K H ws vs→RepL K H' ws vs
  | [],vs,_,h=> by simpa only [RepL] using h
  | w::ws,vs,d,h=> by
    simp only [W.nodcts,Bool.and_eq_true] at d
    simp only [RepL] at h ⊢
    obtain ⟨v,r,e,a,b⟩:=h
    exact ⟨v,r,e,Rep.unlock hq kp w v d.1 a,RepL.unlock hq kp ws r d.2 b⟩
end
theorem CRep.unlock (hq:H q=some (.frz od (.dK kq))) (kp:∀p o,H p=some o→Imm o→p≠q→H' p=some o) {p:Addr} (s:H' p=H p):∀{c:Cont},(SV.own c).nodct=true→CRep K H p c→CRep K H' p c
  | .seq ws,d,⟨vs,e,r⟩=> ⟨vs,s.trans e,RepL.unlock hq kp _ _ d r⟩
  | .map kvs,d,.inl ⟨ks,e,t,r⟩=> .inl ⟨ks,s.trans e,t,RepL.unlock hq kp _ _ d r⟩
  | .map kvs,d,.inr ⟨ks,e,t,r⟩=> .inr ⟨ks,s.trans e,t,RepL.unlock hq kp _ _ d r⟩
theorem TabsK.unlock {o o':HO} (t:TabsK K H) (e:H q=some o) (n:∀ps,o≠ .tbl ps) (n2:∀φ,o≠ .ext φ):TabsK K (L2.upd H q o'):=fun p hp=> by
  obtain ⟨ps,h1,h2,h3⟩:=t p hp
  refine ⟨ps,?_,h2,fun pos cv hc=> ?_⟩
  · rw [upd_ne (fun z=> by rw [z,e] at h1;exact n _ (Option.some.inj h1))];exact h1
  · obtain ⟨c,e1,e2⟩:=h3 pos cv hc
    refine ⟨c,e1,?_⟩
    rw [upd_ne (fun z=> by rw [z,e] at e2;exact n2 _ (Option.some.inj e2))];exact e2
end
section
variable {G:Gx} {env e:A0} {h:AH} {σ σ':L2.St} {H Hk:Hp} {q:Addr} {od:Obj} {kq:List (Key×V)}
open Classical
noncomputable def A1L (G:Gx) (env:A0) (σ:L2.St) (H:Hp):Gx:=⟨G.K,fun _=> none,fun p=> if OwnAt env σ p then none else H p⟩
theorem A2A {p:Addr} {o:HO} (n:¬OwnAt env σ p) (e:H p=some o):(A1L G env σ H).H0 p=some o:=by
  show (if OwnAt env σ p then none else H p)=_
  rw [if_neg n];exact e
theorem A6R {p:Addr} {o:HO} (e:(A1L G env σ H).H0 p=some o):¬OwnAt env σ p∧H p=some o:=by
  have e:(if OwnAt env σ p then none else H p)=some o:=e
  by_cases n:OwnAt env σ p
  · rw [if_pos n] at e;cases e
  · rw [if_neg n] at e;exact ⟨n,e⟩
theorem BS.lock (S:BS G env h σ H) {l:List (Str×W)} (hq:h q=some (.cont (.map (smap l)))):∃kq,H q=some (.dK kq)∧kq.map (·.1)=l.map (fun p=> Sum.inr p.1)∧RepL G.K H (l.map (·.2)) (kq.map (·.2))∧¬OwnAt env σ q∧
    ∀od,BS (A1L G env σ (upd H q (.frz od (.dK kq)))) env (fun _=> none) σ (upd H q (.frz od (.dK kq)))∧Keeps H (upd H q (.frz od (.dK kq))):=by
  obtain ⟨kq,e0,e1,e2⟩:=B4Q (S.hp q _ hq)
  have noq:¬OwnAt env σ q:=fun ⟨i,c,a,b⟩=> by
    obtain ⟨p,x,_,n,_⟩:=S.own i c a
    rw [b] at x;cases x
    rw [hq] at n;cases n
  refine ⟨kq,e0,e1,e2,noq,fun od=> ?_⟩
  have kp:Keeps H (upd H q (.frz od (.dK kq))):=fun p o e i=> by
    have n:p≠q:=fun z=> by rw [z,e0] at e;cases e;exact i.elim
    rw [upd_ne n];exact e
  refine ⟨⟨S.len,fun i w z=> ?_,fun i c z=> ?_,S.uni,fun _ _ z=> (by cases z),fun p o z _ _=> (A6R z).2,fun _ _ z=> (by cases z),fun p o z=> ⟨o,(A6R z).2⟩,S.tabs.upd fun o z=> (by rw [e0] at z;cases z;trivial)⟩,kp⟩
  · obtain ⟨v,a,b⟩:=S.val i w z;exact ⟨v,a,Rep.mono kp w v b⟩
  · obtain ⟨p,a,b,_,_⟩:=S.own i c z
    have np:p≠q:=fun y=> noq ⟨i,c,z,y▸a⟩
    refine ⟨p,a,b.mono kp (upd_ne np),rfl,?_⟩
    show (if OwnAt env σ p then none else _)=none
    rw [if_pos ⟨i,c,z,a⟩]
theorem BS.open (S:BS G env h σ H) {l:List (Str×W)} (hq:h q=some (.cont (.map (smap l)))) (e0:H q=some (.dK kq)) (Sk:BS (A1L G env σ (upd H q (.frz od (.dK kq)))) e (fun _=> none) σ' Hk) (nd:A7s e=true):
    Hk q=some (.frz od (.dK kq))∧BS G e h σ' (upd Hk q (.dK kq))∧Keeps H (upd Hk q (.dK kq)):=by
  have noq:¬OwnAt env σ q:=fun ⟨i,c,a,b⟩=> by
    obtain ⟨p,x,_,n,_⟩:=S.own i c a
    rw [b] at x;cases x
    rw [hq] at n;cases n
  have fr:∀p o,H p=some o→p≠q→¬OwnAt env σ p→NT o→Hk p=some o:=fun p o e n w t=> Sk.fr p o (A2A w (by rw [upd_ne n];exact e)) rfl t
  have hk:Hk q=some (.frz od (.dK kq)):=Sk.fr q _ (A2A noq upd_same) rfl (fun _ z=> (by cases z))
  have kp:Keeps H (upd Hk q (.dK kq)):=fun p o e i=> by
    have n:p≠q:=fun z=> by rw [z,e0] at e;cases e;exact i.elim
    rw [upd_ne n]
    exact fr p o e n (S.imm e i).2 i.nt
  have up:∀p o,Hk p=some o→Imm o→p≠q→upd Hk q (.dK kq) p=some o:=fun p o e _ n=> by rw [upd_ne n];exact e
  have at_:∀{j:Nat} {sv:SV},e[j]? =some (some sv)→sv.nodct=true:=fun {j sv} z=> by
    have:=List.all_eq_true.mp nd (some sv) (List.mem_of_getElem? z)
    exact this
  have not_own:∀{p:Addr} {o:HO},H p=some o→(A1L G env σ (upd H q (.frz od (.dK kq)))).H0 p=none→p≠q→OwnAt env σ p:=fun {p o} e n ne=> Classical.byContradiction fun y=> by
    rw [A2A y (show upd H q _ p=some o by rw [upd_ne ne];exact e)] at n;cases n
  refine ⟨hk,⟨Sk.len,fun i w z=> ?_,fun i c z=> ?_,Sk.uni,fun a o z=> ?_,fun p o z y t=> ?_,S.ext,fun p o z=> ?_,Sk.tabs.unlock hk (fun _ z=> (by cases z)) (fun _ z=> (by cases z))⟩,kp⟩
  · obtain ⟨v,a,b⟩:=Sk.val i w z
    exact ⟨v,a,Rep.unlock hk up w v (at_ z) b⟩
  · obtain ⟨p,a,b,_,d⟩:=Sk.own i c z
    have np:p≠q:=fun y=> by
      obtain ⟨o,eo,m⟩:=b.there
      rw [y,hk] at eo;cases eo;exact m
    refine ⟨p,a,b.unlock hk up (upd_ne np) (at_ z),?_,?_⟩
    · cases x:h p with
      | none=> rfl
      | some o=>
        obtain ⟨u,eu,_⟩:=(S.hp p o x).there
        obtain ⟨j,c',f1,f2⟩:=not_own eu d np
        obtain ⟨p',f3,_,f4,_⟩:=S.own j c' f1
        rw [f2] at f3;cases f3
        rw [f4] at x;cases x
    · cases x:G.H0 p with
      | none=> rfl
      | some o=>
        obtain ⟨u,eu⟩:=S.tr p o x
        obtain ⟨j,c',f1,f2⟩:=not_own eu d np
        obtain ⟨p',f3,_,_,f4⟩:=S.own j c' f1
        rw [f2] at f3;cases f3
        rw [f4] at x;cases x
  · by_cases ha:a=q
    · subst ha
      rw [hq] at z;cases z
      exact CRep.mono kp (upd_same.trans e0.symm) (show CRep G.K H a (.map (smap l)) from S.hp a _ hq)
    · obtain ⟨u,eu,m⟩:=(S.hp a o z).there
      have no:¬OwnAt env σ a:=fun ⟨j,c',f1,f2⟩=> by
        obtain ⟨p',f3,_,f4,_⟩:=S.own j c' f1
        rw [f2] at f3;cases f3
        rw [f4] at z;cases z
      exact (S.hp a o z).mono kp (by rw [upd_ne ha,fr a u eu ha no m.nt,eu])
  · have e:=S.fr p o z y t
    have np:p≠q:=fun x=> by
      subst x
      rw [S.ext p _ hq y] at z;cases z
    rw [upd_ne np]
    refine fr p o e np (fun ⟨j,c',f1,f2⟩=> ?_) t
    obtain ⟨p',f3,_,_,f4⟩:=S.own j c' f1
    rw [f2] at f3;cases f3
    rw [f4] at z;cases z
  · by_cases np:p=q
    · subst np;exact ⟨_,upd_same⟩
    · obtain ⟨u,eu⟩:=S.tr p o z
      have no:¬OwnAt env σ p:=fun ⟨j,c',f1,f2⟩=> by
        obtain ⟨p',f3,_,_,f4⟩:=S.own j c' f1
        rw [f2] at f3;cases f3
        rw [f4] at z;cases z
      obtain ⟨u',eu'⟩:=Sk.tr p u (A2A no (by rw [upd_ne np];exact eu))
      exact ⟨u',by rw [upd_ne np];exact eu'⟩
theorem BS.le {G:Gx} {env:A0} {h h':AH} {σ:L2.St} {H:Hp} (S:BS G env h σ H) (l:AH.Le h' h):BS G env h' σ H:=
  ⟨S.len,S.val,fun i c e=> (by
    obtain ⟨p,a,b,d,f⟩:=S.own i c e
    refine ⟨p,a,b,?_,f⟩
    cases z:h' p with
    | none=> rfl
    | some u=> rw [l p u z] at d;cases d),S.uni,fun a o e=> S.hp a o (l a o e),S.fr,fun a o e=> S.ext a o (l a o e),S.tr,S.tabs⟩
end
def itL (a b:Nat) (tb:B4) (D:A0→Prop):List (Str×W)→A0→Prop
  | [],e=> A7s e=true∧D e
  | p::r,e=> tb ⟨fun e' _=> itL a b tb D r e',fun _ _ _=> False,fun _ _=> False,fun e' _=> itL a b tb D r e'⟩ ((e.set a (some (.val (.str p.1)))).set b (some (.val p.2))) fun _=> none
theorem itL.mono {a b:Nat} {tb:B4} (m:T4 tb) {D D':A0→Prop} (k:∀e,D e→D' e):∀(l:List (Str×W)) (e:A0),itL a b tb D l e→itL a b tb D' l e
  | [],e,q=> ⟨q.1,k e q.2⟩
  | p::r,e,q=> m ⟨fun e' _=> itL a b tb D r e',fun _ _ _=> False,fun _ _=> False,fun e' _=> itL a b tb D r e'⟩ ⟨fun e' _=> itL a b tb D' r e',fun _ _ _=> False,fun _ _=> False,fun e' _=> itL a b tb D' r e'⟩ _ _ ⟨fun e' _ z=> itL.mono m k r e' z,fun _ _ _ z=> z,fun _ _ z=> z,fun e' _ z=> itL.mono m k r e' z⟩ q
section
variable {X:Cx} {G:Gx} {i a b:Nat} {n f A B Sn:Str} {body:List Stmt} {pos p1 p2 p3 p4 p5 p6 p7:Pos} {k0:Nat} {tb:B4}
end
end Ab
namespace Ab
open PySem PySem.Spec PyProof.Rows L2 RZ
def Sta (H H':Hp):Prop:=∀p o,H p=some o→NT o→H' p=some o
section
variable {G:Gx} {env e:A0} {h:AH} {σ σ':L2.St} {H H':Hp}
theorem Sta.keeps (s:Sta H H'):Keeps H H':=fun p o e i=> s p o e i.nt
theorem BS.same (S:BS G env h σ H) (s:Sta H H') (th:∀p o,H p=some o→∃u,H' p=some u) (tb:TabsK G.K H'):BS G env h σ H'∧Xt env h σ H env h H':=by
  refine ⟨⟨S.len,fun i w z=> ?_,fun i c z=> ?_,S.uni,fun a o z=> ?_,fun p o z y t=> s p o (S.fr p o z y t) t,S.ext,fun p o z=> ?_,tb⟩,⟨fun p o e _ _ t=> s p o e t,fun p o e n=> (by rw [n] at e;cases e),th,fun i c e=> ⟨c,e⟩⟩⟩
  · obtain ⟨v,a,b⟩:=S.val i w z;exact ⟨v,a,Rep.mono s.keeps w v b⟩
  · obtain ⟨p,a,b,d,f⟩:=S.own i c z
    obtain ⟨u,eu,m⟩:=b.there
    exact ⟨p,a,b.mono s.keeps ((s p u eu m.nt).trans eu.symm),d,f⟩
  · obtain ⟨u,eu,m⟩:=(S.hp a o z).there
    exact (S.hp a o z).mono s.keeps ((s a u eu m.nt).trans eu.symm)
  · obtain ⟨u,eu⟩:=S.tr p o z;exact th p u eu
def VOnly (e:A0):Prop:=∀(i:Nat) (c:Cont),e[i]? ≠some (some (.own c))
theorem VOnly.set (v:VOnly e) {a:Nat} {w:W}:VOnly (e.set a (some (.val w))):=fun i c z=> by
  by_cases hi:a=i
  · subst hi
    by_cases hl:a < e.length
    · rw [List.getElem?_set_self hl] at z;cases z
    · rw [List.getElem?_eq_none (by rw [List.length_set];omega)] at z;cases z
  · rw [List.getElem?_set_ne hi] at z;exact v i c z
theorem VOnly.no (v:VOnly e) {p:Addr}:¬OwnAt e σ p:=fun ⟨i,c,z,_⟩=> v i c z
end
def A4X (a b:Nat) (e0:A0) (p:Str×W):A0:=(e0.set a (some (.val (.str p.1)))).set b (some (.val p.2))
def dcL (a b:Nat) (tk tv:B5) (Q:List (Str×W)→Prop) (e0:A0):List (Str×W)→List (Str×W)→Prop
  | [],acc=> W.nodcts (acc.map (·.2))=true∧Q acc
  | p::r,acc=> tk (A4X a b e0 p) (fun _=> none) fun w e2 _=> e2=A4X a b e0 p∧tv (A4X a b e0 p) (fun _=> none) fun u _ _=> ∃s,w= .str s∧acc.length < sizeLine∧dcL a b tk tv Q e0 r (A1P acc s u)
theorem dcL.mono {a b:Nat} {tk tv:B5} {e0:A0} (mk:A2 tk) (mv:A2 tv) {Q Q':List (Str×W)→Prop} (k:∀l,Q l→Q' l):∀(l acc:List (Str×W)),dcL a b tk tv Q e0 l acc→dcL a b tk tv Q' e0 l acc
  | [],acc,q=> ⟨q.1,k _ q.2⟩
  | p::r,acc,q=> mk _ _ _ _ (fun w e2 _ ⟨z1,z2⟩=> ⟨z1,mv _ _ _ _ (fun u _ _ ⟨s,y1,y2,y3⟩=> ⟨s,y1,y2,dcL.mono mk mv k r _ y3⟩) z2⟩) q
section
variable {X:Cx} {G:Gx} {i a b:Nat} {n f A B Sn:Str} {kx vx:Expr} {pos p1 p2 p3 p4 p5 p6 p7:Pos} {k0:Nat} {tk tv:B5} {scope:Scope} {own:List (Str×Nat)}
end
end Ab
namespace Ab
open PySem PySem.Spec PyProof.Rows L2 RZ
section
variable {X:Cx} {CX:CXT} {k:Nat} {f C:Addr} {fd:FuncData} {ps:List Str} {sp:Sp} {E:XK}
open Builtin in
structure NeOk (K:PySem.W.Frag) (C:Addr):Prop where
  ne:PySem.W.findIn K (.ref C) "__ne__"=some (some (.builtin "object.__ne__"))
  mr:PySem.W.mroIn K C (.type "object")=some true
open Builtin in
end
end Ab
namespace Ab
open PySem PySem.Spec PyProof.Rows L2 RZ
def aOwn (C:Str) (sp:C0) (po:RR→(RV→Prop)→Prop) (to:AT):AT:=fun env h Q=> to env h fun r env1 h1=> ∃a fs,r= .val (.ref a)∧h1 a=some (.ins C fs)∧sp [.ref a] h1 (fun x h2=> po x fun y=> Q y env1 h2) fun _ _=> False
def B3x (po:RR→(RV→Prop)→Prop):Prop:=∀r K K',(∀y,K y→K' y)→po r K→po r K'
theorem aOwn.mono {C:Str} {sp:C0} {po:RR→(RV→Prop)→Prop} {to:AT} (sm:L1 sp) (pm:B3x po) (m:A2 to):A2 (aOwn C sp po to):=fun env h Q Q' k q=>
  m env h _ _ (fun r e g ⟨a,fs,z1,z2,z⟩=> ⟨a,fs,z1,z2,sm _ _ _ _ _ _ (fun x f y=> pm _ _ _ (fun y' z=> k _ _ _ z) y) (fun _ _ z=> z) z⟩) q
section
variable {X:Cx} {G:Gx} {sp:C0} {C:Str} {st:Stmt} {k j:Nat} {ps:List Str} {o o2:Expr} {p pos:Pos} {to t2:AT}
def aEqO (C:Str) (neg:Bool) (sp:C0) (ta tb:AT):AT:=fun env h Q=> ta env h fun r env1 h1=> tb env1 h1 fun r2 env2 h2=> ∃a b fs gs,r= .val (.ref a)∧r2= .val (.ref b)∧h2 a=some (.ins C fs)∧h2 b=some (.ins C gs)∧
  sp [.ref a,.ref b] h2 (fun x h3=> ∃k:Bool,x= .val (.bl k)∧Q (.val (.bl (if neg=true then !k else k))) env2 h3) fun _ _=> False
theorem aEqO.mono {C:Str} {neg:Bool} {sp:C0} {ta tb:AT} (sm:L1 sp) (m:A2 ta) (n:A2 tb):A2 (aEqO C neg sp ta tb):=fun env h Q Q' k q=>
  m env h _ _ (fun r e g z=> n e g _ _ (fun r2 e2 g2 ⟨a,b,fs,gs,z1,z2,z3,z4,z⟩=> ⟨a,b,fs,gs,z1,z2,z3,z4,sm _ _ _ _ _ _ (fun x f ⟨b,y1,y2⟩=> ⟨b,y1,k _ _ _ y2⟩) (fun _ _ z=> z) z⟩) z) q
section
variable (gk:G.K=X.K) (O:OkM X.prog X.w X.K X.mg X.base C "__eq__" st k 2 ps [] sp) (bd:A4S C "__eq__" st ps) (hr:Room j X.A) (kj:k+1≤j) (ho:AE X G o to) (h2:AE X G o2 t2)
include gk O bd hr kj ho h2
end
structure IsO (K:PySem.W.Frag) (mg:Str→Option Value) (n C:Str) (b:Bool):Prop where
  gl:mg C=some (.ref (He.ga K C))
  cl:Cls K (He.ga K n)
  ca:PySem.W.findIn K (.ref (He.ga K n)) "__class__"=some (some (.builtin "object.__class__"))
  cn:PySem.W.specialIn K (.builtin "object.__class__") "__get__"=some (some (.builtin "getset_descriptor.__get__"))
  ct:PySem.W.takesIn K (.builtin "object.__class__")=some true
  cm:PySem.W.mroIn K (He.ga K n) (.type "object")=some true
  ko:PySem.W.kitOne K (.ref (He.ga K n)) (.ref (He.ga K C))=some b
end
end Ab
namespace Ab
open PySem PySem.Spec PyProof.Rows L2 RZ
def KwA (m q:Str) (st:Stmt) (ps ks:List Str) (n0:Nat) (perm:List Nat):Prop:=∀(kV doc pm:Value) (an:Option Addr) (cdv ct:Value) (us ws:List Value),us.length=n0→ws.length=ks.length→
  bindArgs (PySem.W.fnOf m q (defArgs st) (defBody st) (defScope st) .none kV doc pm an cdv ct) ⟨us,ks.zip ws⟩=pure (ps.zip (perm.map fun i=> (us++ws).getD i .none))
def MB (m q:Str) (st:Stmt) (kws:List (Str×V)) (ps ks:List Str) (n0:Nat) (perm:List Nat) (mz:List V):Prop:=∀(K:PySem.W.Frag) (f:Addr) (fd:FuncData),FunD K m q (defArgs st) (defBody st) (defScope st) [] kws f fd→
  ∃mv:List Value,KBn K fd ps n0 ks (fun us ws=> perm.map fun i=> (us++(ws++mv)).getD i .none) (fun vs zs=> perm.map fun i=> (vs++(zs++mz)).getD i .non)
theorem B0b {perm:List Nat} {vs zs mz:List V} {us ws mv:List Value} (r1:Vals vs us) (r2:Vals zs ws) (rk:Vals mz mv):Vals (perm.map fun i=> (vs++(zs++mz)).getD i V.non) (perm.map fun i=> (us++(ws++mv)).getD i Value.none):=by
  have r:=A3r r1 (A3r r2 rk)
  induction perm with
  | nil=> exact .nil
  | cons i t ih=> exact .cons (Vals.getD' i r) ih
theorem B2d {m q:Str} {st:Stmt} {ps ks:List Str} {n0:Nat} {perm:List Nat} (h:KwA m q st ps ks n0 perm):MB m q st [] ps ks n0 perm []:=fun K f fd F=> by
  obtain ⟨oc,od,dV,kV,doc,pm,an,cdv,ct,osl,rfl,lk,hcd,hD,hK⟩:=F.ex
  rcases hD with ⟨_,rfl⟩ | ⟨e,_⟩
  · refine ⟨[],⟨fun s us ws X l1 l2=> ?_,fun {vs us zs ws} r1 r2=> B0b r1 r2 .nil⟩⟩
    have z:=h kV doc pm an cdv ct us ws l1 l2
    simp only [List.append_nil]
    exact .of_eq z
  · exact absurd rfl e
def aMethM (C m:Str) (E:AExc→A0→AH→Prop) (sp:C0) (N:Nat) (gW:List W→List W→List W) (to:AT) (t tk:B7):AT:=fun env h Q=> to env h fun r env1 h1=> ∃a fs,r= .val (.ref a)∧h1 a=some (.ins C fs)∧fs.lookup m=none∧
  t env1 h1 fun ws env2 h2=> tk env2 h2 fun zs env3 h3=> (gW (.ref a::ws) zs).length=N∧sp (gW (.ref a::ws) zs) h3 (kRes Q env3) fun x h4=> E x env3 h4
theorem aMethM.mono {C m:Str} {E:AExc→A0→AH→Prop} {sp:C0} {N:Nat} {gW:List W→List W→List W} {to:AT} {t tk:B7} (sm:L1 sp) (a:A2 to) (b:A2 t) (c:A2 tk):A2 (aMethM C m E sp N gW to t tk):=fun env h Q Q' k q=>
  a env h _ _ (fun r e g ⟨p,fs,z1,z2,z3,z4⟩=> ⟨p,fs,z1,z2,z3,b e g _ _ (fun ws e2 g2 z=> c e2 g2 _ _ (fun zs e3 g3 z=> ⟨z.1,sm _ _ _ _ _ _ (fun r f y=> kRes.imp k r f y) (fun x f y=> y) z.2⟩) z) z4⟩) q
def aMakeM (C:Str) (E:AExc→A0→AH→Prop) (sp:C0) (N:Nat) (gW:List W→List W→List W) (t tk:B7):AT:=fun env h Q=> t env h fun ws env1 h1=> tk env1 h1 fun zs env2 h2=> (∀a:Addr,(gW (.ref a::ws) zs).length=N)∧∀a,h2 a=none→sp (gW (.ref a::ws) zs) (C9 h2 a (.ins C [])) (kMk Q env2 a) fun x h3=> E x env2 h3
theorem aMakeM.mono {C:Str} {E:AExc→A0→AH→Prop} {sp:C0} {N:Nat} {gW:List W→List W→List W} {t tk:B7} (sm:L1 sp) (b:A2 t) (c:A2 tk):A2 (aMakeM C E sp N gW t tk):=fun env h Q Q' k q=>
  b env h _ _ (fun ws e g z=> c e g _ _ (fun zs e g z=> ⟨z.1,fun a n=> sm _ _ _ _ _ _ (fun r f y=> ⟨y.1,k _ _ _ y.2⟩) (fun x f y=> y) (z.2 a n)⟩) z) q
theorem B2X {n0 m0 N:Nat} {perm:List Nat} {ds ws zs:List W} (h0:0 < perm.length) (z:(W5 n0 m0 perm ds ws zs).length=perm.length):ws.length=n0∧zs.length=m0:=by
  unfold W5 A3F at z
  split at z
  · rename_i hc
    simpa using hc
  · simp at z
    omega
section
variable {X:Cx} {G:Gx} {sp:C0} {C m:Str} {st:Stmt} {k j n0:Nat} {ps ks:List Str} {kws0:List (Str×V)} {mz:List V} {ds:List W} {o e:Expr} {es:List Expr} {kws:List Keyword} {pos apos p:Pos} {to:AT} {t tk:B7} {E:AExc→A0→AH→Prop} {perm:List Nat}
theorem B0W {CX:CXT} {n:Nat} {C f:Addr} {fd:FuncData} {sp:Sp} {E:XK} {g:List Value→List Value→List Value} {gV:List V→List V→List V} {pins:List (Addr×Obj)} {σ:L2.St} {H:Hp} {s:Shared} {Q:VK} {us ws:List Value} {vs zs:List V} (M:Mk X.K C f) (F:FnOk X.prog X.w X.K X.mg X.base CX k f fd ps sp) (hr:Room (k+1) X.A) (hb:KBn X.K fd ps (n+1) ks g gV) (hx:PassesAt CX X σ E)
    (I:Inv X pins σ H s) (r:Vals vs us) (rz:Vals zs ws) (l1:vs.length=n) (l2:zs.length=ks.length)
    (h:∀x dx,H x=none→H dx=none→dx≠x→sp (gV (.ref x::vs) zs) (upd (upd H dx (.own x)) x (.ins C dx [])) (fun v H2=> v= .non∧Q (.ref x) H2) E):
    wpAny (model X.prog X.w) X.A (call (.ref C) us (ks.zip ws)) (EP X pins σ Q) X.xe s:=by
  have hq:=h (s.heap.objs.size+1) s.heap.objs.size (I.hok.fresh (Nat.le_succ _)) (I.hok.fresh (Nat.le_refl _)) (Nat.ne_of_lt (Nat.lt_succ_self _))
  have I2:=Inv.made (C:=C) I
  have r1:Vals (V.ref (s.heap.objs.size+1)::vs) (Value.ref (s.heap.objs.size+1)::us):= .cons rfl r
  have r2:=hb.rel r1 rz
  have n1:(Value.ref (s.heap.objs.size+1)::us).length=n+1:=by
    rw [List.length_cons,←r.length,l1]
  refine wpAny_call (make_map (f:=f) I.kIn M.makes M.init (beq_iff_eq.mp M.fn) (codeAny_mono (F.run _ X.stack _ _ ⟨Value.ref (s.heap.objs.size+1)::us,ks.zip ws⟩ (g (Value.ref (s.heap.objs.size+1)::us) ws) _ _ E (hr.make C us (ks.zip ws))
    (I2.env0.make C us (ks.zip ws)) (hb.to _ (Value.ref (s.heap.objs.size+1)::us) ws I2.kIn n1 (rz.length.symm.trans l2)) r2 hq) fun r s' hq'=> ?_))
  cases r with
  | error e=> exact hx pins _ _ e s' I2 hq'
  | ok fl=>
    cases fl with
    | ret u=>
      obtain ⟨v,H',I3,rv,ev,q3⟩:=I2.after hq'
      subst ev
      exact ⟨rv,⟨V.ref (s.heap.objs.size+1),H',I3,rfl,q3⟩⟩
    | next=> exact False.elim hq'
    | brk=> exact False.elim hq'
    | cont=> exact False.elim hq'
theorem B0z {ws:Addr→List W} {vs:V→List V} {N:Nat} {env env1:A0} {h h1:AH} {σ:L2.St} {H H1:Hp} {Q:VK} (S1:BS G env1 h1 σ H1) (x1:Xt env h σ H env1 h1 H1) (r:∀(H':Hp) a,Keeps H1 H'→RepL G.K H' (ws a) (vs (.ref a)))
    (z:∀a,h1 a=none→(ws a).length=N∧sp (ws a) (C9 h1 a (.ins C [])) (kMk (fun r e g=> ∀v H',BS G e g σ H'→Xt env h σ H e g H'→RvRep G e g σ H' r v→J9 H r v→Q v H') env1 a) fun x h3=> E x env1 h3):
    ∀x dx,H1 x=none→H1 dx=none→dx≠x→M9 G.K N sp (vs (.ref x)) (upd (upd H1 dx (.own x)) x (.ins (He.ga G.K C) dx [])) (fun v H2=> v= .non∧Q (.ref x) H2) (WE (cW G E) σ):=fun a dx na nd ne=> by
  obtain ⟨ha,_,_⟩:=S1.noAt na
  obtain ⟨S2,x2⟩:=S1.made (C:=C) na nd ne
  refine ⟨ws a,_,_,_,(z a ha).1,S2.hp,S2.tabs,r _ a (x2.keeps S1),(z a ha).2,fun r h' v H' ⟨y1,y⟩ c rr=> ?_,fun x h' cls d H' y c xr=> ?_⟩
  · obtain ⟨S3,x3⟩:=S2.after c
    subst y1
    exact ⟨Rep.of_non (K:=G.K) (H:=H') rr,y (.ref a) H' S3 (x1.trans (x2.trans x3)) (show Rep G.K H' (.ref a) (.ref a) from .ref) trivial⟩
  · obtain ⟨S3,x3⟩:=S2.after c
    exact ⟨x,env1,h',S3,xr,y⟩
theorem B1g (gk:G.K=X.K) (MC:MkC X.K X.mg C) (O:OkM X.prog X.w X.K X.mg X.base C "__init__" st k perm.length ps kws0 sp) (mb:MB "__init__" (C++"."++"__init__") st kws0 ps ks (n0+1) perm mz) (hd:∀H,RepL G.K H ds mz) (hr:Room j X.A) (kj:k+1≤j) (hg:Gl X C) (tkk:Takes X (cW G E)) (ha:AA X G (e::es) t) (hkw:AK X G kws tk)
    (h0:0 < perm.length:=by decide) (hall:(backToKw pos (keywordEach kws X.env)).all (·.1.isSome)=true:=by rfl) (hks:(backToKw pos (keywordEach kws X.env)).filterMap (·.1)=ks:=by rfl) (hdb:(C==("__debug__":Str))=false:=by decide)
    (he:starEach (e::es) X.env=(false,eval e X.env)::starEach es X.env:=by rfl) (hpl:((backTo pos (starEach (e::es) X.env)).any (·.1) || (backToKw pos (keywordEach kws X.env)).any (·.1.isNone))=false:=by rfl):
    AE X G (.Call (.Name C p) (e::es) kws pos) (aMakeM C E sp perm.length (W5 (n0+1) ks.length perm ds) t tk):=by
  obtain ⟨f,fd,M,FD,F⟩:=O.ex
  have F:FnOk X.prog X.w X.K X.mg X.base (L2.CX X.prog X.w) k f fd ps (M9 G.K perm.length sp):=gk▸F
  obtain ⟨mv,kb⟩:=mb _ _ _ FD
  refine ⟨aMakeM.mono O.sm ha.mono hkw.mono,⟨fun pins s σ H Q I ⟨env,h,S,q⟩=> ?_⟩⟩
  have step:cA G t σ H fun us H1=> cA G tk σ H1 fun zs H2=> us.length=n0∧zs.length=ks.length∧∀x dx,H2 x=none→H2 dx=none→dx≠x→M9 G.K perm.length sp (perm.map fun i=> ((V.ref x::us)++(zs++mz)).getD i V.non) (upd (upd H2 dx (.own x)) x (.ins (He.ga X.K C) dx [])) (fun v H2=> v= .non∧Q (.ref x) H2) (WE (cW G E) σ):=by
    refine ⟨env,h,S,ha.mono env h _ _ (fun ws env1 h1 z us H1 S1 x1 r1=> ?_) q⟩
    refine ⟨env1,h1,S1,hkw.mono env1 h1 _ _ (fun zs env2 h2 z vz H2 S2 x2 r2=> ?_) z⟩
    obtain ⟨l1,l2⟩:=B2X (N:=0) h0 (z.1 0)
    rw [List.length_cons] at l1
    have r1':RepL G.K H2 ws us:=RepL.mono (x2.keeps S1) _ _ r1
    refine ⟨by rw [←r1.length];omega,by rw [←r2.length];exact l2,?_⟩
    rw [←gk]
    exact B0z (ws:=fun a=> W5 (n0+1) ks.length perm ds (.ref a::ws) zs) (vs:=fun v=> perm.map fun i=> ((v::us)++(vz++mz)).getD i V.non) S2 (x1.trans x2) (fun H' a kp=> B2K (ws:= .ref a::ws) (vs:= .ref a::us) (by rw [List.length_cons,l1]) l2 (.cons .ref (RepL.mono kp _ _ r1')) (RepL.mono kp _ _ r2) (hd H')) fun a n=> ⟨z.1 a,z.2 a n⟩
  refine wpAny_Call_Name_kw (ld_glob I hg MC.gl ?_ hdb)
  refine PySem.W.callWith_KW (h₀:=X.base) I.ok.mod.kin MC.kp hall (thn (ha.pa.run pos pins s σ H _ I step) fun us s2 ⟨vs,H2,I2,r,q2⟩=> ?_) hpl he
  refine thn (hkw.pk.run pos pins s2 σ H2 _ I2 q2) fun ws s3 ⟨zs,H3,I3,rz,l1,l2,q3⟩=> ⟨I3.kIn,?_⟩
  rw [hks]
  exact B0W ⟨MC.makes,M.at_,M.fn,MC.kp⟩ F (hr.mono kj) kb (passAt tkk σ) I3 r rz l1 l2 q3
end
end Ab
namespace Ab
open PySem PySem.Spec PyProof.Rows L2 RZ
def A5I (l2:List (Str×W)):List (Str×W)→Bool
  | []=> true
  | p::r=> match l2.lookup p.1 with
    | none=> false
    | some u=> F8 p.2 u && A5I l2 r
def A3G (l:List (Str×W)):Bool:=l.all fun p=> p.2.dat 60
section
variable {X:Cx} {pins:List (Addr×Obj)} {σ:L2.St} {H:Hp} {s:Shared}
end
def oEqM:E9:=fun a b Q=> ∃l1 l2,a.toW=g9 l1∧b.toW=g9 l2∧A3G l1=true∧A3G l2=true∧Q (.val (.bl (l1.length==l2.length && A5I l2 l1)))
theorem oEqM.mono (a b:Vw) (Q Q':RV→Prop) (k:∀r,Q r→Q' r) (q:oEqM a b Q):oEqM a b Q':=
  let ⟨l1,l2,x1,x2,c,d,q⟩:=q
  ⟨l1,l2,x1,x2,c,d,k _ q⟩
def oNeM:E9:=fun a b Q=> ∃l1 l2,a.toW=g9 l1∧b.toW=g9 l2∧A3G l1=true∧A3G l2=true∧Q (.val (.bl (!(l1.length==l2.length && A5I l2 l1))))
theorem oNeM.mono (a b:Vw) (Q Q':RV→Prop) (k:∀r,Q r→Q' r) (q:oNeM a b Q):oNeM a b Q':=
  let ⟨l1,l2,x1,x2,c,d,q⟩:=q
  ⟨l1,l2,x1,x2,c,d,k _ q⟩
section
variable {X:Cx}
end
section
variable {X:Cx}
def B3K (x:Str) (n:Int):Str:=⟨(List.replicate n.toNat x.cps.toList).flatten.toArray⟩
end
def oMulX:E9:=fun a b Q=> match b with
  | .wv (.int j)=> match a with
    | .wv (.int i)=> CMulW i j∧Q (.val (.int (i*j)))
    | .wv (.str x)=> (0≤j∧j≤1000∧x.length≤1000)∧Q (.val (.str (B3K x j)))
    | a=> ∃xs,a.seq=some xs∧(-(2 ^ 63)≤j∧j < 2 ^ 63∧xs.length*j.toNat≤sizeLine)∧Q (.own (.seq (List.replicate j.toNat xs).flatten))
  | _=> False
theorem oMulX.mono (a b:Vw) (Q Q':RV→Prop) (k:∀r,Q r→Q' r) (q:oMulX a b Q):oMulX a b Q':=by
  unfold oMulX at q ⊢
  split at q
  · split at q
    · exact ⟨q.1,k _ q.2⟩
    · exact ⟨q.1,k _ q.2⟩
    · obtain ⟨xs,e,z,q⟩:=q;exact ⟨xs,e,z,k _ q⟩
  · exact q
section
variable {X:Cx} {G:Gx} {a b:Expr} {ta tb:AT} {pos:Pos}
end
abbrev AJT:=A0→AH→(Str→A0→AH→Prop)→Prop
def fmtV (v:Vw) (Q:Str→Prop):Prop:=match v with
  | .wv (.str y)=> y.length≤sizeLine∧Q y
  | .wv (.int i)=> i.natAbs.log2 < 1920∧Q (toString i)
  | _=> False
def aFmt (t:AT):AT:=fun env h Q=> t env h fun r env1 h1=> fmtV (view env1 h1 r) fun y=> Q (.val (.str y)) env1 h1
theorem fmtV.imp {v:Vw} {Q Q':Str→Prop} (k:∀y,Q y→Q' y) (q:fmtV v Q):fmtV v Q':=by
  unfold fmtV at q ⊢
  split at q
  · exact ⟨q.1,k _ q.2⟩
  · exact ⟨q.1,k _ q.2⟩
  · exact q
theorem aFmt.mono {t:AT} (m:A2 t):A2 (aFmt t):=fun env h Q Q' k q=> m env h _ _ (fun r e g z=> z.imp fun y z=> k _ _ _ z) q
def jsL:List AT→Str→AJT
  | [],acc=> fun env h Q=> Q acc env h
  | t::ts,acc=> fun env h Q=> t env h fun r env1 h1=> ∃y:Str,r= .val (.str y)∧(acc++y).length≤sizeLine∧jsL ts (acc++y) env1 h1 Q
inductive AJ (X:Cx) (G:Gx):List Expr→List AT→Prop where
  | nil:AJ X G [] []
  | cons {e:Expr} {t:AT} {es:List Expr} {ts:List AT} (h:AE X G e t) (r:AJ X G es ts):AJ X G (e::es) (t::ts)
section
variable {X:Cx} {G:Gx} {e v1 v2:Expr} {t:AT} {es rest:List Expr} {ts:List AT} {pos:Pos}
theorem AJ.mono (a:AJ X G es ts):∀acc,A2 (jsL ts acc):=by
  induction a with
  | nil=> exact fun acc env h Q Q' k q=> k _ _ _ q
  | cons h r ih=> exact fun acc env g Q Q' k q=> h.mono env g _ _ (fun r e g ⟨y,e1,e2,z⟩=> ⟨y,e1,e2,ih _ _ _ _ _ k z⟩) q
end
end Ab
namespace Ab
open PySem PySem.Spec PyProof.Rows L2 RZ
def A83 (x:Str):List W:=x.cps.toList.map fun c=> .str ⟨#[c]⟩
section
variable {X:Cx} {G:Gx} {tg e a b o k:Expr} {t ta tb to:AT} {tk:B5} {pos:Pos}
def A8e (i j:Str):Bool:= !(Builtin.Str.occurrences j i 0 j.length 1).isEmpty
def oInS (neg:Bool):E9:=fun a b Q=> match a,b with
  | .wv (.str i),.wv (.str j)=> Q (.val (.bl (if neg=true then !A8e i j else A8e i j)))
  | _,_=> False
theorem oInS.mono {neg:Bool} (a b:Vw) (Q Q':RV→Prop) (k:∀r,Q r→Q' r) (q:oInS neg a b Q):oInS neg a b Q':=by
  unfold oInS at q ⊢
  split at q
  · exact k _ q
  · exact q
end
end Ab
namespace Ab
open PySem PySem.Spec PyProof.Rows L2 RZ
section
variable {X:Cx} {G:Gx} {i a b:Nat} {n f A B Sn:Str} {kx vx:Expr} {pos p1 p2 p3 p4 p5 p6 p7:Pos} {k0:Nat} {tk tv:B5} {scope:Scope} {own:List (Str×Nat)}
end
section
variable {X:Cx} {G:Gx} {elt tg iter:Expr} {ifs:List Expr} {scope:Scope} {own:List (Str×Nat)} {pos:Pos} {ti:U4} {g:E7} {tt:E4} {te:B5} {sl:List Nat}
variable {ti1:U4} {g1:E7} {tt1:E4} {vs1 sl1:List Nat} {tg1 iter1:Expr} {ifs1:List Expr}
end
end Ab
namespace Ab
open PySem PySem.Spec PyProof.Rows L2 RZ
theorem VRL.three {K:PySem.W.Frag} {H:Hp} {a b c:Vw} {vs:List V} (r:VRL K H [a,b,c] vs):∃v u t,vs=[v,u,t]∧VR K H a v∧VR K H b u∧VR K H c t:=by
  cases r with
  | cons r1 rr=>
    obtain ⟨u,t,rfl,r2,r3⟩:=VRL.two rr
    exact ⟨_,u,t,rfl,r1,r2,r3⟩
def A82 (hi:Int) (n:Nat):List W:=(List.range n).map fun (i:Nat)=> W.int (hi - i)
section
variable {X:Cx} {G:Gx} {tg e:Expr} {pos:Pos} {x:Str}
end
end Ab
namespace Ab
open PySem PySem.Spec PyProof.Rows L2 RZ
section
variable {X:Cx} {G:Gx} {body:List Stmt} {f₀:Stmt} {fs:List Stmt} {pos:Pos} {E:AExc→A0→AH→Prop}
variable {sp:C0} {st:Stmt} {k j n:Nat} {ps:List Str} {x y:Str} {p:Pos} {e:Expr} {es:List Expr} {t:B7}
end
section
variable {P:Program} {w:World} {K:PySem.W.Frag} {mg:Str→Option Value} {base:Heap} {C m:Str} {f:Addr} {fd:FuncData} {N ps:List Str} {k n:Nat} {sp:C0} {st:Stmt} {kws:List (Str×V)}
theorem OkM.mkL {t:(AExc→A0→AH→Prop)→B4} (sm:L1 sp) (cl:Cls K (He.ga K C)) (M:Meth K (He.ga K C) m f) (F:FunD K m (C++"."++m) (defArgs st) (defBody st) (defScope st) [] kws f fd) (S:FnScope N ps (defScope st)) (hn:ps.length=n)
    (lm:∀cdv,A2e K f cdv→MakesL K mg base ((C++"."++m)++".<locals>."++"<lambda>") cdv)
    (hb:∀(cdv:Value) (A:Around) (outer:List Env) (s:Shared) (H:Hp) (E:XK) (G:Gx) (E':AExc→A0→AH→Prop),MakesL K mg base ((C++"."++m)++".<locals>."++"<lambda>") cdv→Room k (A.deeper (envOfC (C++"."++m) (defScope st) s.heap.objs.size f cdv))→G.K=K→Takes (bx P w K mg base N (C++"."++m) (defScope st) f cdv A outer s H E) (cW G E')→
      ASs (bx P w K mg base N (C++"."++m) (defScope st) f cdv A outer s H E) G (defBody st) (t E'))
    (hq:∀ws h Qa Ea,ws.length=n→sp ws h Qa Ea→t (C7 Ea) (C1 Qa) (G2 N.length ws) h):OkM P w K mg base C m st (k+1) n ps kws sp:=by
  refine ⟨sm,cl,f,fd,M,F,?_⟩
  obtain ⟨oc,od,dV,kV,doc,pm,an,cdv,ct,osl,rfl,lk,hcd,_,_⟩:=F.ex
  refine fn_of lk hcd S (fun vs H Q E ⟨ws,h,Qa,Ea,hl,_,_,r,_⟩=> by rw [←r.length,hl,hn]) fun A outer s H vs Q E hr ⟨ws,h,Qa,Ea,hl,hp,tb,r,q,kq,ke⟩=> ?_
  have hwN:ws.length≤N.length:=by
    have z:=congrArg List.length S.pre
    rw [List.length_take] at z
    omega
  exact A6w hwN (hb cdv A outer s H E ⟨K,h,H⟩ (C7 Ea) (lm cdv ⟨oc,od,_,osl,lk,rfl⟩) hr rfl (A6t ke)) hp tb r (hq ws h Qa Ea hl q) kq
end
end Ab
namespace Ab
open PySem PySem.Spec PyProof.Rows L2 RZ
section
variable {K:PySem.W.Frag}
end
section
variable {X:Cx} {G:Gx} {o k e a b tg:Expr} {to ta tb:AT} {tk:B5} {t:B5} {i j:Nat} {x y:Str} {px py pt pos apos cpos:Pos} {kt:Nat} {k2:Nat} {pt2:Pos}
end
end Ab
namespace Ab
open PySem PySem.Spec PyProof.Rows L2
theorem B1S {n:String} {bm:List Value} (h:A4j n bm=true):∃B ii bmB,ExcBaseFacts B n ii bmB∧MroG bm bmB:=by
  unfold A4j at h
  rcases Bool.or_eq_true_iff.mp h with h | h
  · obtain ⟨a,b⟩:=Bool.and_eq_true_iff.mp h
    obtain rfl:=of_decide_eq_true a
    exact ⟨_,_,_,F.excBase_ValueError,A3k B3U _ b⟩
  rcases Bool.or_eq_true_iff.mp h with h | h
  · obtain ⟨a,b⟩:=Bool.and_eq_true_iff.mp h
    obtain rfl:=of_decide_eq_true a
    exact ⟨_,_,_,F.excBase_LookupError,A3k B4J _ b⟩
  · obtain ⟨a,b⟩:=Bool.and_eq_true_iff.mp h
    obtain rfl:=of_decide_eq_true a
    exact ⟨_,_,_,F.excBase_IndexError,A3k B3O _ b⟩
theorem B2B {K:PySem.W.Frag} {C:Addr} (h:A41 K C=true):∃nm q N bs bm bmB B newId initId sn sub ab col dd k0 k1 k2 k3 k5,K.lookup C=some (excClassObj nm q C N bs bm true sn sub ab col dd k0 k1 k2 k3 k5 newId)∧ExcBaseFacts B newId initId bmB∧MroG bm bmB:=by
  unfold A41 at h
  split at h
  · rename_i t dd cd sl e
    obtain ⟨h1,h⟩:=Bool.and_eq_true_iff.mp h
    split at h
    · rename_i C' bm k0 k1 k2 k3 n k5 hm hs
      obtain ⟨h2,h⟩:=Bool.and_eq_true_iff.mp h
      obtain ⟨h3,h⟩:=Bool.and_eq_true_iff.mp h
      obtain ⟨h4,h5⟩:=Bool.and_eq_true_iff.mp h
      have h1:=of_decide_eq_true h1
      have h2:=of_decide_eq_true h2
      obtain ⟨B,ii,bmB,FB,M⟩:=B1S h3
      obtain ⟨nm,bs,mro,ns,qn,hd,sn,sub,ab,col,del⟩:=cd
      dsimp only at hm h4 h5
      have h4:del=false:=by simpa using h4
      subst h1 h2 hm h4 h5
      have es:sl=#[k0,k1,k2,k3,some (.builtin n),k5]:=by
        obtain ⟨l⟩:=sl
        simp only at hs
        rw [hs]
      subst es
      exact ⟨nm,qn,ns,bs,bm,bmB,B,n,ii,sn,sub,ab,col,dd,k0,k1,k2,k3,k5,e,FB,M⟩
    · cases h
  · cases h
structure XkF (K:PySem.W.Frag) (x:Str) (fs:List Str):Prop where
  cls:OexG K (He.ga K x)
  ini:PySem.W.findIn K (.ref (He.ga K x)) "__init__"=some (some (.ref (He.ma K (He.ga K x) "__init__")))
  fn:PySem.W.typeIn K (.ref (He.ma K (He.ga K x) "__init__"))=some (.type "function")
  xf:XfC K (He.ga K x)
  no:∀f∈("word":Str)::fs,PySem.W.findIn K (.ref (He.ga K x)) f=some none
theorem B3V {K:PySem.W.Frag} {x:Str} {fs:List Str} (h:xkB K x fs=true):XkF K x fs:=by
  unfold xkB at h
  obtain ⟨h1,h⟩:=Bool.and_eq_true_iff.mp h
  obtain ⟨h2,h⟩:=Bool.and_eq_true_iff.mp h
  obtain ⟨h3,h⟩:=Bool.and_eq_true_iff.mp h
  obtain ⟨h4,h⟩:=Bool.and_eq_true_iff.mp h
  obtain ⟨h5,h⟩:=Bool.and_eq_true_iff.mp h
  obtain ⟨h6,h⟩:=Bool.and_eq_true_iff.mp h
  obtain ⟨h7,h⟩:=Bool.and_eq_true_iff.mp h
  obtain ⟨h8,h9⟩:=Bool.and_eq_true_iff.mp h
  exact ⟨⟨B2B h1,of_decide_eq_true h2,of_decide_eq_true h3,of_decide_eq_true h4,h5⟩,of_decide_eq_true h6,of_decide_eq_true h7,xfB_ok h8,fun f m=> of_decide_eq_true (List.all_eq_true.mp h9 f m)⟩
theorem B3L {K:PySem.W.Frag} {ks:List Str} {c:Str} (h:A8z K ks c=true):∀k∈ks,PySem.W.exmOne K (.ref (He.ga K k)) (.ref (He.ga K c))=some (d8 k c):=fun k m=> of_decide_eq_true (List.all_eq_true.mp h k m)
theorem B2c {K:PySem.W.Frag} {ks:List Str} {f:Str} (h:A8y K ks f=true):∀c∈ks,XfC K (He.ga K c)∧PySem.W.findIn K (.ref (He.ga K c)) f=some none:=fun c m=> by
  obtain ⟨a,b⟩:=Bool.and_eq_true_iff.mp (List.all_eq_true.mp h c m)
  exact ⟨xfB_ok a,of_decide_eq_true b⟩
theorem xk1 {P:Program} {w:World} {K:PySem.W.Frag} {mg:Str→Option Value} {base:Heap} {x qual word f:Str} {params:Arguments} {scope:Scope} {fd:FuncData} {q1 q2 q3 q4 q5 q6 q7 q8:Pos} {j:Nat} (X:XkF K x [f]) (gl:mg x=some (.ref (He.ga K x)))
    (F:FunD K "__init__" qual params [.Assign [.Attribute (.Name "self" q1) "word" q2] (.Constant (.str word) j q3) q4,.Assign [.Attribute (.Name "self" q5) f q6] (.Name f q7) q8] scope [] [] (He.ma K (He.ga K x) "__init__") fd) (S:FnScope ["self",f] ["self",f] scope)
    (bd:∀(kV doc pm:Value) (an:Option Addr) (cdv ct:Value) (us:List Value),us.length=2→bindArgs (PySem.W.fnOf "__init__" qual params [.Assign [.Attribute (.Name "self" q1) "word" q2] (.Constant (.str word) j q3) q4,.Assign [.Attribute (.Name "self" q5) f q6] (.Name f q7) q8] scope .none kV doc pm an cdv ct) ⟨us,[]⟩=pure ((["self",f]:List Str).zip us))
    (hd:(f==("__debug__":Str))=false:=by decide) (hcd:(f==("__classdict__":Str))=false:=by decide):XkOk P w K mg base x word [f]:=
  ⟨gl,X.cls,_,fd,["self",f],X.ini,X.fn,F.bindsN bd,B3e F S X.cls (X.no _ (by simp)) (X.no _ (by simp)) hd hcd⟩
end Ab
namespace Ab
open PySem PySem.Spec PyProof.Rows L2 RZ
abbrev MC:=AH→(RR→AH→Prop)→(AExc→AH→Prop)→Prop
abbrev CE:=(SV→MC)→MC
abbrev CW:=(W→MC)→MC
abbrev CB:=(Bool→MC)→MC
abbrev CS:=(List SV→MC)→MC
abbrev B2:=(List W→MC)→MC
abbrev CO:=(Option Int→MC)→MC
def SV.fz:SV→W
  | .val w=> w
  | .own c=> c.fz
def SV.rr:SV→RR
  | .val w=> .val w
  | .own c=> .own c
def SV.rv:SV→RV
  | .val w=> .val w
  | .own c=> .own c
def RR.sv:RR→SV
  | .val w=> .val w
  | .own c=> .own c
def G9 (h:AH):SV→Vw
  | .val w=> viewW h w
  | .own c=> .cv c
def bad:MC:=fun _ _ _=> False
def D2 (p:Prop) (m:MC):MC:=fun h Q E=> p∧m h Q E
def ret (x:SV):MC:=fun h Q _=> Q x.rr h
def U2 (k:SV→MC):RV→MC
  | .val w=> k (.val w)
  | .own c=> k (.own c)
  | .slot _=> bad
def B4t:E9:=oII (fun _ _=> True) fun i j=> .int (i - j)
def M7:E9:=oII A81 fun i j=> .int (i % j)
def l8:E9:=oII CDivW fun i j=> .int (i / j)
def m6:E9:=oII CPow fun i j=> .int (i ^ j.toNat)
def m7:E9:=oII (fun _ _=> True) fun i j=> .bl (decide (i < j))
def oLe:E9:=oII (fun _ _=> True) fun i j=> .bl (decide (i≤j))
def y7:E9:=oII (fun _ _=> True) fun i j=> .bl (decide (j < i))
def y6:E9:=oII (fun _ _=> True) fun i j=> .bl (decide (j≤i))
def B4U:G5:=oBls fun bs=> bs.any id
def A1T:G5:=oBls fun bs=> bs.all id
def B40:G5:=o1I fun i=> if i < 0 then -i else i
def B4D:G5:=o2I fun i j=> if j < i then j else i
def B3u:G5:=o2I fun i j=> if j > i then j else i
def eV (x:SV):CE:=fun k=> k x
def eC (w:W):CE:=fun k=> k (.val w)
def B9 (o:E9) (x y:SV) (k:SV→MC):MC:=fun h Q E=> o (G9 h x) (G9 h y) fun r=> U2 k r h Q E
def A4 (o:E9) (a b:CE):CE:=fun k=> a fun x=> b fun y=> B9 o x y k
def A3 (a:CE):CW:=fun k=> a fun x=> k x.fz
def B3:B2:=fun k=> k []
def A9 (a:CW) (b:B2):B2:=fun k=> a fun w=> b fun ws=> k (w::ws)
def A8E (ws:List W) (k:SV→MC):MC:=fun h Q E=> ∃(kvs:List (W×W)) (ks:List Key),ws=A4k kvs∧kvs.map (fun p=> d5 p.1)=ks.map some∧ks.Nodup∧kvs.length≤15∧k (.own (.map kvs)) h Q E
def B3h (a:B2):CE:=fun k=> a fun ws=> A8E ws k
def A8w (x:SV) (w d:W) (k:SV→MC):MC:=fun h Q E=> ∃kvs key,x= .own (.map kvs)∧A8H kvs∧d5 w=some key∧k (.val (A8Z kvs key d)) h Q E
def B3g (x:SV) (mk md:CW):CE:=fun k=> fun h Q E=> (∃kvs,x= .own (.map kvs))∧(mk fun w=> md fun d=> A8w x w d k) h Q E
def d0 (a:B2):CE:=fun k=> a fun ws=> D2 (ws.length≤sizeLine) (k (.val (.tup ws)))
def P7 (a:B2):CE:=fun k=> a fun ws=> D2 (ws.length≤sizeLine) (k (.own (.seq ws)))
def I5 (x:SV) (k:Int→MC):MC:=fun h Q E=> match G9 h x with
  | .wv (.int i)=> k i h Q E
  | _=> False
def T0 (x:SV) (k:Bool→MC):MC:=fun h Q E=> match G9 h x with
  | .wv (.bl i)=> k i h Q E
  | _=> False
def y0:CO:=fun k=> k none
def v7 (a:CE):CO:=fun k=> a fun x=> I5 x fun i=> k (some i)
def slc (x:SV) (l u:Option Int) (k:SV→MC):MC:=fun h Q E=> oSl (G9 h x) l u fun r=> U2 k r h Q E
def x9 (a:CE) (lo hi:CO):CE:=fun k=> a fun x=> lo fun l=> hi fun u=> slc x l u k
def E6:CS:=fun k=> k []
def C3 (a:CE) (b:CS):CS:=fun k=> a fun x=> b fun xs=> k (x::xs)
def cb (o:G5) (xs:List SV) (k:SV→MC):MC:=fun h Q E=> o (xs.map (G9 h)) fun r=> U2 k r h Q E
def F0 (o:G5) (a:CS):CE:=fun k=> a fun xs=> cb o xs k
def A3D:CB:=fun k=> k true
def E3 (a:CE):CB:=fun k=> a fun x=> T0 x k
def tAnd (a b:CB):CB:=fun k=> a fun x=> if x=true then b k else k false
def tOr (a b:CB):CB:=fun k=> a fun x=> if x=true then k true else b k
def T8 (a:CB):CB:=fun k=> a fun x=> k (!x)
def eIf (c:CB) (a b:CE):CE:=fun k=> c fun x=> if x=true then a k else b k
def x7 (a b:CE):CE:=fun k=> a fun x=> T0 x fun c=> if c=true then b k else k (.val (.bl false))
def eOr (a b:CE):CE:=fun k=> a fun x=> T0 x fun c=> if c=true then k (.val (.bl true)) else b k
def A5B (a:CE):CE:=fun k=> a fun x=> T0 x fun c=> k (.val (.bl (!c)))
def i7 (a:CE):CE:=fun k=> a fun x=> I5 x fun i=> k (.val (.int (-i)))
def W2 (P P':Int→Int→Bool) (a b c:CE):CE:=fun k=> a fun x=> b fun y=> I5 x fun i=> I5 y fun j=>
  if P i j=true then c fun z=> I5 z fun l=> k (.val (.bl (P' j l))) else k (.val (.bl false))
def call (m:MC) (k:SV→MC):MC:=fun h Q E=> m h (fun r h'=> k r.sv h' Q E) E
def F4 (f:List W→MC) (a:B2):CE:=fun k=> a fun ws=> call (f ws) k
def call0 (m:MC) (k:SV→MC):MC:=fun h Q E=> m h (fun r h'=> k r.sv h' Q E) fun _ _=> False
def A2V (f:List W→MC) (a:B2):CE:=fun k=> a fun ws=> call0 (f ws) k
def T5 (x:AExc):MC:=fun h _ E=> E x h
def perm (p:List Nat) (ws:List W) (k:List W→MC):MC:=D2 (ws.length=p.length) (k (p.map fun i=> ws.getD i .non))
def A4v (p:List Nat) (a:B2):B2:=fun k=> a fun ws=> perm p ws k
def items (w:W) (k:List W→MC):MC:=match w with
  | .tup ws=> k ws
  | .lst ws=> k ws
  | _=> bad
def A4F (a:CW):B2:=fun k=> a fun w=> items w k
def A28 (xs:List SV) (k:List W→MC):MC:=match xs with
  | [x]=> I5 x fun j=> D2 (-(2 ^ 62)≤j∧j < 2 ^ 62) (k (N3 0 j.toNat))
  | _=> bad
def A40 (xs:List SV) (k:List W→MC):MC:=match xs with
  | [x,y]=> I5 x fun i=> I5 y fun j=> D2 (-(2 ^ 62)≤i∧i < 2 ^ 62∧ -(2 ^ 62)≤j∧j < 2 ^ 62) (k (N3 i (j - i).toNat))
  | _=> bad
def A0M (a:CS):B2:=fun k=> a fun xs=> A28 xs k
def B4L (a:CS):B2:=fun k=> a fun xs=> A40 xs k
def A27 (ws:List W) (k:List W→MC):MC:=match ws with
  | [.tup xs,.tup ys]=> k (List.zipWith (fun a b=> W.tup [a,b]) xs ys)
  | [.lst xs,.lst ys]=> k (List.zipWith (fun a b=> W.tup [a,b]) xs ys)
  | _=> bad
def B4x (a:B2):B2:=fun k=> a fun ws=> A27 ws k
def A1N (a:CW):B2:=fun k=> a fun w=> items w fun ws=> k (N5 ws)
def enz (ws:List W) (k:List W→MC):MC:=match ws with
  | [a,b]=> items a fun xs=> items b fun ys=> k (ezW xs ys)
  | _=> bad
def B4m (a:B2):B2:=fun k=> a fun ws=> enz ws k
def un2 (w:W) (k:W→W→MC):MC:=match w with
  | .tup [a,b]=> k a b
  | _=> bad
def un3 (w:W) (k:W→W→W→MC):MC:=match w with
  | .tup [a,b,c]=> k a b c
  | _=> bad
def un5 (w:W) (k:W→W→W→W→W→MC):MC:=match w with
  | .tup [a,b,c,d,e]=> k a b c d e
  | _=> bad
def uq2 (w:W) (k:W→W→MC):MC:=items w fun ws=> match ws with
  | [a,b]=> k a b
  | _=> bad
def uq3 (w:W) (k:W→W→W→MC):MC:=items w fun ws=> match ws with
  | [a,b,c]=> k a b c
  | _=> bad
def uq4 (w:W) (k:W→W→W→W→MC):MC:=items w fun ws=> match ws with
  | [a,b,c,d]=> k a b c d
  | _=> bad
def uq5 (w:W) (k:W→W→W→W→W→MC):MC:=items w fun ws=> match ws with
  | [a,b,c,d,e]=> k a b c d e
  | _=> bad
def A29 (w:W) (k:W→SV→MC):MC:=items w fun ws=> match ws with
  | x::r=> k x (.own (.seq r))
  | _=> bad
def R8 (body:W→(Option W→MC)→MC) (k:List W→MC):List W→List W→MC
  | [],acc=> k acc
  | w::ws,acc=> body w fun o=> match o with
    | some y=> D2 (acc.length < sizeLine) (R8 body k ws (acc++[y]))
    | none=> R8 body k ws acc
def eLc (it:B2) (body:W→(Option W→MC)→MC):CE:=fun k=> it fun ws=> R8 body (fun acc=> k (.own (.seq acc))) ws []
def i6 {σ:Type} (body:W→σ→(σ→MC)→(σ→MC)→MC) (k:σ→MC):List W→σ→MC
  | [],s=> k s
  | w::ws,s=> body w s (i6 body k ws) k
def w8 {σ:Type} (k:σ→MC) (f:(σ→MC)→MC):MC:=f k
def SV.isSq (h:AH):SV→Prop
  | .own (.seq _)=> True
  | .val (.ref a)=> ∃xs,h a=some (.cont (.seq xs))
  | _=> False
def isq (x:SV) (m:MC):MC:=fun h Q E=> x.isSq h∧m h Q E
def lm (f:O6) (x:SV) (ws:List W) (k:SV→W→MC):MC:=fun h Q E=> match x with
  | .own (.seq xs)=> f xs ws fun xs' w=> k (.own (.seq xs')) w h Q E
  | .val (.ref a)=> (match h a with
    | some (.cont (.seq xs))=> f xs ws fun xs' w=> k (.val (.ref a)) w (C9 h a (.cont (.seq xs'))) Q E
    | _=> False)
  | _=> False
def ext (x y:SV) (k:SV→MC):MC:=fun h Q E=> match G9 h y with
  | .cv (.seq ys)=> (match x with
    | .own (.seq xs)=> xs.length+ys.length≤sizeLine∧k (.own (.seq (xs++ys))) h Q E
    | .val (.ref a)=> (match h a with
      | some (.cont (.seq xs))=> xs.length+ys.length≤sizeLine∧k (.val (.ref a)) (C9 h a (.cont (.seq (xs++ys)))) Q E
      | _=> False)
    | _=> False)
  | _=> False
def l9 (x y:SV) (w:W) (k:SV→MC):MC:=fun h Q E=> match G9 h y with
  | .wv (.int i)=> (match x with
    | .own (.seq xs)=> ∃j,ixN xs.length i=some j∧k (.own (.seq (xs.set j w))) h Q E
    | .val (.ref a)=> (match h a with
      | some (.cont (.seq xs))=> ∃j,ixN xs.length i=some j∧k (.val (.ref a)) (C9 h a (.cont (.seq (xs.set j w)))) Q E
      | _=> False)
    | _=> False)
  | _=> False
def A20 (f:Int→Int→Int) (x y:SV) (e:CE) (k:SV→MC):MC:=I5 y fun i=> D2 (0≤i∧i < 2 ^ 62) fun h Q E=> match x with
  | .own (.seq xs)=> (match xs[i.toNat]? with
    | some (.int a)=> e (fun z=> I5 z fun b=> k (.own (.seq (xs.set i.toNat (.int (f a b)))))) h Q E
    | _=> False)
  | .val (.ref p)=> (match h p with
    | some (.cont (.seq xs))=> (match xs[i.toNat]? with
      | some (.int a)=> e (fun z=> I5 z fun b=> fun h' Q E=> match h' p with
        | some (.cont (.seq ys))=> i.toNat < ys.length∧k (.val (.ref p)) (C9 h' p (.cont (.seq (ys.set i.toNat (.int (f a b)))))) Q E
        | _=> False) h Q E
      | _=> False)
    | _=> False)
  | _=> False
def A49 (x:SV) (k:SV→MC):MC:=I5 x fun n=> D2 (0≤n∧n≤16777216) (k (.own (.seq (N3 0 n.toNat))))
def B3l (a:CE):CE:=fun k=> a fun x=> A49 x k
def F7 (mc:CB) (m1 m2:MC):MC:=mc fun b=> if b=true then m1 else m2
def w9 {σ:Type} (mi:B2) (s0:σ) (body:W→σ→(σ→MC)→(σ→MC)→MC) (k:σ→MC):MC:=mi fun ws=> i6 body k ws s0
def lmC (f:O6) (x:SV) (ma:B2) (k:SV→W→MC):MC:=isq x (ma fun ws=> lm f x ws k)
def B4z (x:SV) (m:CE) (k:SV→MC):MC:=isq x (m fun y=> ext x y k)
def U0 (mv:CW) (x:SV) (m:CE) (k:SV→MC):MC:=mv fun w=> m fun y=> l9 x y w k
def B3y (mv:CW) (x:SV) (m:CE) (m2:SV→CE) (k:SV→MC):MC:=mv fun w=> un2 w fun a b=> m fun y=> l9 x y a fun x1=> m2 x1 fun y2=> l9 x1 y2 b k
def A3A (f:Int→Int→Int) (x:SV) (m m2:CE) (k:SV→MC):MC:=m fun y=> A20 f x y m2 k
def pr2 (ws:List W) (k:W→W→MC):MC:=match ws with
  | [v,w]=> k v w
  | _=> bad
def B4p (ma:B2) (k:W→W→MC):MC:=ma fun ws=> pr2 ws k
def A4w (mv:CW) (k:W→SV→MC):MC:=mv fun w=> A29 w k
def A1R (x:SV) (k:W→MC):MC:=fun h Q E=> match x with
  | .own c=> ∀p,h p=none→k (.ref p) (C9 h p (.cont c)) Q E
  | _=> False
def w7 (m:CE):CW:=fun k=> m fun x=> A1R x k
def lmR (f:O6) (x:SV) (ma:B2) (k:MC):MC:=fun h Q E=> match x with
  | .val (.ref p)=> (∃xs,h p=some (.cont (.seq xs)))∧(ma fun ws=> fun h2 Q E=> match h2 p with
    | some (.cont (.seq xs))=> f xs ws fun xs' _=> k (C9 h2 p (.cont (.seq xs'))) Q E
    | _=> False) h Q E
  | _=> False
def lmE (f:O6) (m:CE) (ma:B2) (k:MC):MC:=m fun x=> lmR f x ma k
def upc (f:List W→MC):C0:=fun ws h Q E=> ∃Q0 E0,(∀r k,Q0 r k→Q r k)∧(∀x k,E0 x k→E x k)∧f ws h Q0 E0
theorem upc.m {f:List W→MC}:L1 (upc f):=fun ws h Q Q' E E' k k' ⟨Q0,E0,a,b,z⟩=> ⟨Q0,E0,fun r h q=> k _ _ (a r h q),fun r h q=> k' _ _ (b r h q),z⟩
end Ab
namespace Ab
open PySem PySem.Spec PyProof.Rows L2 RZ
def Rl (env:A0):RV→SV→Prop
  | .val w,s=> s= .val w
  | .own c,s=> s= .own c
  | .slot i,s=> ∃c,s= .own c∧env[i]? =some (some (.own c))
theorem P3 {env:A0} {h:AH} {r:RV} {s:SV} (a:Rl env r s):view env h r=G9 h s:=by
  cases r with
  | val w=> cases a;rfl
  | own c=> cases a;rfl
  | slot i=> obtain ⟨c,rfl,e⟩:=a;show A4W env[i]? =_;rw [e];rfl
section
variable {Q:RR→AH→Prop} {E:AExc→AH→Prop} {env:A0}
def SE (Q:RR→AH→Prop) (E:AExc→AH→Prop) (env:A0) (t:AT) (m:CE):Prop:=∀h (k:SV→MC) (K:RV→A0→AH→Prop),(∀r s h',Rl env r s→k s h' Q E→K r env h')→m k h Q E→t env h K
def SN (Q:RR→AH→Prop) (E:AExc→AH→Prop) (env:A0) (t:AT) (m:CE):Prop:=∀h (k:SV→MC) (K:RV→A0→AH→Prop),(∀s h',k s h' Q E→K s.rv env h')→m k h Q E→t env h K
def SA {α:Type} (Q:RR→AH→Prop) (E:AExc→AH→Prop) (env:A0) (t:A0→AH→(α→A0→AH→Prop)→Prop) (m:(α→MC)→MC):Prop:=∀h (k:α→MC) (K:α→A0→AH→Prop),(∀s h',k s h' Q E→K s env h')→m k h Q E→t env h K
inductive Rls (env:A0):List RV→List SV→Prop where
  | nil:Rls env [] []
  | cons {r:RV} {rs:List RV} {s:SV} {ss:List SV}:Rl env r s→Rls env rs ss→Rls env (r::rs) (s::ss)
theorem A6f {h:AH} {rs:List RV} {ss:List SV} (a:Rls env rs ss):rs.map (view env h)=ss.map (G9 h):=by
  induction a with
  | nil=> rfl
  | cons a _ ih=> rw [List.map_cons,List.map_cons,P3 a,ih]
def SR (Q:RR→AH→Prop) (E:AExc→AH→Prop) (env:A0) (t:N7) (m:CS):Prop:=∀h (k:List SV→MC) (K:List RV→A0→AH→Prop),(∀r s h',Rls env r s→k s h' Q E→K r env h')→m k h Q E→t env h K
theorem B4M {s:SV}:Rl env s.rv s:=by cases s <;> rfl
variable {t t1 t2 t3:AT} {m m1 m2 m3:CE} {tv:B5} {mv:CW} {ta ta2:B7} {ma ma2:B2} {tb tb2:E4} {mb mb2:CB} {tr:N7} {mr:CS} {tl th:x8} {ml mh:CO} {ti:O7} {mi:B2}
theorem SN.se (a:SN Q E env t m):SE Q E env t m:=fun h k K hk z=> a h k K (fun s h' z=> hk _ _ _ B4M z) z
theorem S8 {i:Nat} {x:SV} (e:env[i]? =some (some x)):SE Q E env (aVar i) (eV x):=fun h k K hk z=> by
  unfold aVar
  rw [e]
  cases x with
  | val w=> exact hk (.val w) (.val w) h rfl z
  | own c=> exact hk (.slot i) (.own c) h ⟨c,rfl,e⟩ z
theorem A5 {i:Nat} {w:W} (e:env[i]? =some (some (.val w))):SN Q E env (aVar i) (eV (.val w)):=fun h k K hk z=> by
  unfold aVar
  rw [e]
  exact hk (.val w) h z
theorem A6 {w:W}:SN Q E env (aC w) (eC w):=fun h k K hk z=> hk _ _ z
def U5 (o:E9):Prop:=∀a b Q Q',(∀r,Q r→Q' r)→o a b Q→o a b Q'
def A0a (o:G5):Prop:=∀as Q Q',(∀r,Q r→Q' r)→o as Q→o as Q'
theorem A4M {k:SV→MC} {K:RV→A0→AH→Prop} {h:AH} (hk:∀s h',k s h' Q E→K s.rv env h') (r:RV) (z:U2 k r h Q E):K r env h:=by
  cases r with
  | val w=> exact hk (.val w) h z
  | own c=> exact hk (.own c) h z
  | slot i=> exact z.elim
theorem B1 {o:E9} (om:U5 o) (a:SE Q E env t1 m1) (b:SE Q E env t2 m2):SN Q E env (aOp2 o t1 t2) (A4 o m1 m2):=fun h k K hk z=>
  a h _ _ (fun rx x h1 r1 z=> b h1 _ _ (fun ry y h2 r2 z=> by rw [P3 r1,P3 r2];exact om _ _ _ _ (fun r z=> A4M hk r z) z) z) z
theorem A7 (a:SN Q E env t m):SA Q E env (aFz t) (A3 m):=fun h k K hk z=> a h _ _ (fun s h' z=> by
  cases s with
  | val w=> exact hk _ _ z
  | own c=> exact hk _ _ z) z
theorem B8:SA Q E env aNil B3:=fun h k K hk z=> hk _ _ z
theorem B0 (a:SA Q E env tv mv) (b:SA Q E env ta ma):SA Q E env (aCons tv ta) (A9 mv ma):=fun h k K hk z=> a h _ _ (fun w h1 z=> b h1 _ _ (fun ws h2 z=> hk _ _ z) z) z
theorem A0G (a:SA Q E env ta ma):SN Q E env (aTup ta) (d0 ma):=fun h k K hk z=> a h _ _ (fun ws h1 z=> ⟨z.1,hk (.val _) _ z.2⟩) z
theorem R3 (a:SA Q E env ta ma):SN Q E env (aLst ta) (P7 ma):=fun h k K hk z=> a h _ _ (fun ws h1 z=> ⟨z.1,hk (.own _) _ z.2⟩) z
theorem A2o (a:SN Q E env t m):SA Q E env (aPrm t) (w7 m):=fun h k K hk z=> a h _ _ (fun s h' z=> by
  cases s with
  | val w=> exact z.elim
  | own c=> exact fun p n=> hk _ _ (z p n)) z
theorem g8 {x:SV} {k:Int→MC} {h:AH} (z:I5 x k h Q E):∃i,G9 h x= .wv (.int i)∧k i h Q E:=by
  unfold I5 at z
  split at z
  · rename_i i e;exact ⟨i,e,z⟩
  · exact z.elim
theorem A4Q {x:SV} {k:Bool→MC} {h:AH} (z:T0 x k h Q E):∃i,G9 h x= .wv (.bl i)∧k i h Q E:=by
  unfold T0 at z
  split at z
  · rename_i i e;exact ⟨i,e,z⟩
  · exact z.elim
theorem A2u:SA Q E env A0A y0:=fun h k K hk z=> hk _ _ z
theorem A2R (a:SE Q E env t m):SA Q E env (A0H t) (v7 m):=fun h k K hk z=> a h _ _ (fun r s h1 rl z=> by
  obtain ⟨i,e,z⟩:=g8 z
  rw [P3 rl,e]
  exact hk _ _ z) z
theorem A2p (a:SE Q E env t m) (b:SA Q E env tl ml) (c:SA Q E env th mh):SN Q E env (aSl t tl th) (x9 m ml mh):=fun h k K hk z=>
  a h _ _ (fun r s h1 rl z=> b h1 _ _ (fun l h2 z=> c h2 _ _ (fun u h3 z=> by rw [P3 rl];exact oSl.mono (fun r z=> A4M hk r z) z) z) z) z
theorem G0:SR Q E env F5 E6:=fun h k K hk z=> hk _ _ _ .nil z
theorem E1 (a:SE Q E env t m) (b:SR Q E env tr mr):SR Q E env (D7 t tr) (C3 m mr):=fun h k K hk z=> a h _ _ (fun r s h1 rl z=> b h1 _ _ (fun rs ss h2 rls z=> hk _ _ _ (.cons rl rls) z) z) z
theorem G8 {o:G5} (om:A0a o) (a:SR Q E env tr mr):SN Q E env (aCB o tr) (F0 o mr):=fun h k K hk z=> a h _ _ (fun rs ss h1 rl z=> by
  rw [A6f rl]
  exact om _ _ _ (fun r z=> A4M hk r z) z) z
theorem A77:SA Q E env A3C A3D:=fun h k K hk z=> hk _ _ z
theorem G7 (a:SE Q E env t m):SA Q E env (aTst t) (E3 m):=fun h k K hk z=> a h _ _ (fun r s h1 rl z=> by
  obtain ⟨i,e,z⟩:=A4Q z
  rw [P3 rl,e]
  exact hk _ _ z) z
theorem u4 {b:Bool} {A B:MC} {P R:Prop} {h:AH} (x:A h Q E→P) (y:B h Q E→R) (z:(if b=true then A else B) h Q E):if b=true then P else R:=by
  cases b with
  | true=> rw [if_pos rfl] at z ⊢;exact x z
  | false=> rw [if_neg Bool.false_ne_true] at z ⊢;exact y z
theorem B26 (a:SA Q E env tb mb) (b:SA Q E env tb2 mb2):SA Q E env (aAndT tb tb2) (tAnd mb mb2):=fun h k K hk z=> a h _ _ (fun x h1 z=> u4 (fun z=> b h1 _ _ hk z) (fun z=> hk _ _ z) z) z
theorem A8a (a:SA Q E env tb mb) (b:SA Q E env tb2 mb2):SA Q E env (aOrT tb tb2) (tOr mb mb2):=fun h k K hk z=> a h _ _ (fun x h1 z=> u4 (fun z=> hk _ _ z) (fun z=> b h1 _ _ hk z) z) z
theorem u9 (a:SA Q E env tb mb):SA Q E env (aNotT tb) (T8 mb):=fun h k K hk z=> a h _ _ (fun x h1 z=> hk _ _ z) z
theorem B3s (c:SA Q E env tb mb) (a:SN Q E env t1 m1) (b:SN Q E env t2 m2):SN Q E env (aIfE tb t1 t2) (eIf mb m1 m2):=fun h k K hk z=> c h _ _ (fun x h1 z=> u4 (fun z=> a h1 _ _ hk z) (fun z=> b h1 _ _ hk z) z) z
theorem A2l (a:SE Q E env t1 m1) (b:SN Q E env t2 m2):SN Q E env (A0O t1 t2) (x7 m1 m2):=fun h k K hk z=> a h _ _ (fun r s h1 rl z=> by
  obtain ⟨i,e,z⟩:=A4Q z
  rw [P3 rl,e]
  exact u4 (fun z=> b h1 _ _ hk z) (fun z=> hk (.val _) _ z) z) z
theorem B2g (a:SE Q E env t1 m1):SN Q E env (A4y t1) (A5B m1):=fun h k K hk z=> a h _ _ (fun r s h1 rl z=> by
  obtain ⟨i,e,z⟩:=A4Q z
  rw [P3 rl,e]
  exact hk (.val _) _ z) z
theorem A1C (a:SE Q E env t1 m1):SN Q E env (v9 t1) (i7 m1):=fun h k K hk z=> a h _ _ (fun r s h1 rl z=> by
  obtain ⟨i,e,z⟩:=g8 z
  rw [P3 rl,e]
  exact hk (.val _) _ z) z
theorem A08 {P P':Int→Int→Bool} (a:SE Q E env t1 m1) (b:SE Q E env t2 m2) (c:SE Q E env t3 m3):SN Q E env (aChn P P' t1 t2 t3) (W2 P P' m1 m2 m3):=fun h k K hk z=>
  a h _ _ (fun r s h1 rl z=> b h1 _ _ (fun r2 s2 h2 rl2 z=> by
    obtain ⟨i,e,z⟩:=g8 z
    obtain ⟨j,e2,z⟩:=g8 z
    rw [P3 rl,P3 rl2,e,e2]
    refine u4 (fun z=> c h2 _ _ (fun r3 s3 h3 rl3 z=> ?_) z) (fun z=> hk (.val _) _ z) z
    obtain ⟨l,e3,z⟩:=g8 z
    rw [P3 rl3,e3]
    exact hk (.val _) _ z) z) z
theorem A3z {E':AExc→A0→AH→Prop} {f:List W→MC} {ws:List W} {h:AH} {k:SV→MC} {K:RV→A0→AH→Prop} (hk:∀s h',k s h' Q E→K s.rv env h') (hE:∀x h,E x h→E' x env h) (z:call (f ws) k h Q E):
    upc f ws h (fun r h2=> match r with
  | .val w=> K (.val w) env h2
  | .own c=> K (.own c) env h2) fun x h2=> E' x env h2:=
  ⟨_,_,fun r h' z=> by cases r <;> exact hk _ _ z,hE,z⟩
theorem K9 {E':AExc→A0→AH→Prop} {f:List W→MC} (hE:∀x h,E x h→E' x env h) (a:SA Q E env ta ma):SN Q E env (aCall E' (upc f) ta) (F4 f ma):=fun h k K hk z=> a h _ _ (fun ws h1 z=> A3z hk hE z) z
theorem A6r {f:List W→MC} (a:SA Q E env ta ma):SN Q E env (aCall E0 (upc f) ta) (A2V f ma):=fun h k K hk z=> a h _ _ (fun ws h1 z=> ⟨_,_,fun r h' z=> by cases r <;> exact hk _ _ z,fun _ _ z=> z,z⟩) z
theorem B2M {p:List Nat} {ws:List W} {h:AH} {k:List W→MC} (z:perm p ws k h Q E):gKw p [] ws=p.map (fun i=> ws.getD i .non)∧ws.length=p.length∧k (p.map fun i=> ws.getD i .non) h Q E:=by
  refine ⟨?_,z.1,z.2⟩
  show (if ([]:List W).isEmpty && ws.length==p.length then _ else _)=_
  rw [z.1]
  simp
theorem B1K {E':AExc→A0→AH→Prop} {f:List W→MC} {p:List Nat} (hE:∀x h,E x h→E' x env h) (a:SA Q E env ta ma):SN Q E env (aCallK E' (upc f) p.length (gKw p) aNil ta) (F4 f (A4v p ma)):=fun h k K hk z=> a h _ _ (fun ws h1 z=> by
  obtain ⟨e,l,z⟩:=B2M z
  exact ⟨by rw [e,List.length_map],by rw [e];exact A3z hk hE z⟩) z
theorem A6X {w:W} {k:List W→MC} {h:AH} (z:items w k h Q E):∃ws,(w= .tup ws∨w= .lst ws)∧k ws h Q E:=by
  unfold items at z
  split at z
  · exact ⟨_,.inl rfl,z⟩
  · exact ⟨_,.inr rfl,z⟩
  · exact z.elim
theorem B02 (a:SA Q E env tv mv):SA Q E env (iSq tv) (A4F mv):=fun h k K hk z=> a h _ _ (fun w h1 z=> by
  obtain ⟨ws,e,z⟩:=A6X z
  rcases e with rfl | rfl <;> exact hk _ _ z) z
theorem A7K (a:SA Q E env tv mv):SA Q E env (iEn tv) (A1N mv):=fun h k K hk z=> a h _ _ (fun w h1 z=> by
  obtain ⟨ws,e,z⟩:=A6X z
  rcases e with rfl | rfl <;> exact hk _ _ z) z
theorem A2O (a:SR Q E env tr mr):SA Q E env (A0R tr) (A0M mr):=fun h k K hk z=> a h _ _ (fun rs ss h1 rl z=> by
  rw [A6f rl]
  unfold A28 at z
  split at z
  · obtain ⟨j,e,z⟩:=g8 z
    rw [List.map_cons,List.map_nil,e]
    exact ⟨z.1.1,z.1.2,hk _ _ z.2⟩
  · exact z.elim) z
def Gd (g:E7) (w:W) (env e1:A0):Prop:=∀h (K:A0→AH→Prop),K e1 h→g w env h K
theorem i3 {i:Nat} {w:W}:Gd (K7 i) w env (env.set i (some (.val w))):=fun h K k=> k
theorem A8f {g1 g2:E7} {a b:W} {e1 e2:A0} (d1:Gd g1 a env e1) (d2:Gd g2 b e1 e2):Gd (gTp 2 (u8 g1 (u8 g2 A2t))) (.tup [a,b]) env e2:=fun h K k=>
  ⟨rfl,a,[b],rfl,d1 h _ ⟨b,[],rfl,d2 h _ ⟨rfl,k⟩⟩⟩
theorem A7j {w:W} {f:W→W→MC} {h:AH} (z:un2 w f h Q E):∃a b,w= .tup [a,b]∧f a b h Q E:=by
  unfold un2 at z
  split at z
  · exact ⟨_,_,rfl,z⟩
  · exact z.elim
def lcb (mt:CB) (me:CW) (kk:Option W→MC):MC:=mt fun b=> if b=true then me fun y=> kk (some y) else kk none
theorem A3y {vs:List Nat} {g:E7} {w:W} {e1:A0} (gd:Gd g w (P6 env vs) e1) (tst:SA Q E e1 tb mb) (elt:SA Q E e1 tv mv) (hm:mend env e1 vs=env) {h:AH} {kk:Option W→MC} {K1:W→A0→AH→Prop} {K0:A0→AH→Prop}
    (h1:∀y h',kk (some y) h' Q E→K1 y env h') (h0:∀h',kk none h' Q E→K0 env h') (z:lcb mb mv kk h Q E):
    g w (P6 env vs) h fun e1 h1=> tb e1 h1 fun b e2 h2=> if b=true then tv e2 h2 fun y e3 h3=> K1 y (mend env e3 vs) h3 else K0 (mend env e2 vs) h2:=
  gd h _ (tst h _ _ (fun b h2 z=> u4 (fun z=> elt h2 _ _ (fun y h3 z=> by rw [hm];exact h1 y h3 z) z) (fun z=> by rw [hm];exact h0 h2 z) z) z)
def LcB (Q:RR→AH→Prop) (E:AExc→AH→Prop) (env:A0) (vs:List Nat) (g:E7) (tt:E4) (te:B5) (mb:W→(Option W→MC)→MC):Prop:=
  ∀w h (kk:Option W→MC) (K1:W→A0→AH→Prop) (K0:A0→AH→Prop),(∀y h',kk (some y) h' Q E→K1 y env h')→(∀h',kk none h' Q E→K0 env h')→mb w kk h Q E→
    g w (P6 env vs) h fun e1 h1=> tt e1 h1 fun b e2 h2=> if b=true then te e2 h2 fun y e3 h3=> K1 y (mend env e3 vs) h3 else K0 (mend env e2 vs) h2
theorem A2x {vs:List Nat} {g:E7} {body:W→(Option W→MC)→MC} {k:List W→MC} {K:List W→A0→AH→Prop} (hk:∀acc h',k acc h' Q E→K acc env h') (b:LcB Q E env vs g tb tv body):
    ∀(ws acc:List W) (h:AH),R8 body k ws acc h Q E→lcLoop vs g tb tv K ws acc env h
  | [],acc,h,z=> hk acc h z
  | w::ws,acc,h,z=> b w h _ (fun y e3 h3=> acc.length < sizeLine∧lcLoop vs g tb tv K ws (acc++[y]) e3 h3) (fun e2 h2=> lcLoop vs g tb tv K ws acc e2 h2)
      (fun y h' z=> ⟨z.1,A2x hk b ws (acc++[y]) h' z.2⟩) (fun h' z=> A2x hk b ws acc h' z) z
theorem A8I {vs:List Nat} {g:E7} {body:W→(Option W→MC)→MC} (it:SA Q E env ti mi) (b:LcB Q E env vs g tb tv body):SN Q E env (e9 vs ti g tb tv) (eLc mi body):=fun h k K hk z=>
  it h _ _ (fun ws h1 z=> A2x (k:=fun acc=> k (.own (.seq acc))) (fun acc h' z=> hk (.own (.seq acc)) h' z) b ws [] h1 z) z
variable {D:AEnds} {s u:B4} {i j:Nat}
theorem D3 {mc:MC} (a:∀h,mc h Q E→s { D with nx:=u D } env h):∀h,mc h Q E→aSeq s u D env h:=a
theorem D5 {mc:MC} (a:∀h,mc h Q E→u D env h):∀h,mc h Q E→({ D with nx:=u D }:AEnds).nx env h:=a
theorem M0 (hr:∀r s env h,Rl env r s→Q s.rr h→D.rt r env h) (a:SE Q E env t m):∀h,(m ret) h Q E→K6 t D env h:=fun h z=> a h _ _ (fun r s h' rl z=> hr _ _ _ _ rl z) z
theorem A03 {k:SV→MC} (a:SE Q E env t m) (n:∀s h,k s h Q E→D.nx env h):∀h,(m k) h Q E→c5 t D env h:=fun h z=> a h _ _ (fun r s h' rl z=> n s h' z) z
theorem A2X {k:SV→MC} (e':SV→A0) (he:∀x,env.set i (some x)=e' x) (a:SN Q E env t m) (n:∀x h,k x h Q E→D.nx (e' x) h):∀h,(m k) h Q E→A0U i t D env h:=fun h z=> a h _ _ (fun s h' z=> by
  have q:=n s h' z
  rw [←he] at q
  cases s <;> exact q) z
theorem T3 {k:W→MC} (e':W→A0) (he:∀x,env.set i (some (.val x))=e' x) (a:SA Q E env tv mv) (n:∀x h,k x h Q E→D.nx (e' x) h):∀h,(mv k) h Q E→G3 tv (K7 i) D env h:=fun h z=> a h _ _ (fun s h' z=> by
  have q:=n s h' z
  rw [←he] at q
  exact q) z
theorem A25 {P R:AH→Prop} (h:AH) (z:P h) (f:∀h,P h→R h):R h:=f h z
theorem A2n {g:E7} {w:W} {e1:A0} (e2:A0) (gd:Gd g w env e1) (he:e1=e2):Gd g w env e2:=he▸gd
theorem B1B {vs:List Nat} {g:E7} {body:W→(Option W→MC)→MC} {k:SV→MC} (e':SV→A0) (he:∀x,env.set i (some x)=e' x) (it:SA Q E env ti mi) (b:LcB Q E env vs g tb tv body) (n:∀x h,k x h Q E→D.nx (e' x) h):∀h,(eLc mi body k) h Q E→A4E i (e9 vs ti g tb tv) D env h:=fun h z=>
  it h _ _ (fun ws h1 z=> A2x (k:=fun acc=> k (.own (.seq acc))) (fun acc h' z=> by
    have q:=n (.own (.seq acc)) h' z
    rw [←he] at q
    exact q) b ws [] h1 z) z
theorem K4 {c:E4} {mc:CB} {m1 m2:MC} (a:SA Q E env c mc) (x:∀h,m1 h Q E→s D env h) (y:∀h,m2 h Q E→u D env h):∀h,F7 mc m1 m2 h Q E→I8 c s u D env h:=fun h z=>
  a h _ _ (fun b h' z=> u4 (x h') (y h') z) z
theorem M2 {mc:MC} (n:∀h,mc h Q E→D.nx env h):∀h,mc h Q E→K5 D env h:=n
theorem A3q:∀h,bad h Q E→A06 D env h:=fun _ z=> z
theorem B2y {x:SV} {mc:MC} (e':A0) (he:env.set i (some (.val x.fz))=e') (e:env[i]? =some (some x)) (a:∀h,mc h Q E→s D e' h):∀h,mc h Q E→aFrz i s D env h:=fun h z=> by
  have q:=a h z
  rw [←he] at q
  unfold aFrz
  rw [e]
  cases x with
  | own c=> exact q
  | val w=>
    obtain ⟨hi,e'⟩:=List.getElem?_eq_some_iff.mp e
    have:env.set i (some (SV.val (SV.val w).fz))=env:=by
      conv=> rhs;rw [←List.set_getElem_self (as:=env) hi]
      rw [e']
      rfl
    rw [this] at q
    exact q
theorem B1v {x:SV} {k:W→MC} (e':W→A0) (he:∀p,env.set i (some (.val p))=e' p) (e:env[i]? =some (some x)) (a:∀p h,k p h Q E→s D (e' p) h):∀h,A1R x k h Q E→A0P i s D env h:=fun h z=> by
  unfold A0P
  rw [e]
  cases x with
  | val w=> exact z.elim
  | own c=>
    intro p n
    have q:=a _ _ (z p n)
    rw [←he] at q
    exact q
theorem A2S {β J:Type} {kk:β→MC} {f:(β→MC)→MC} (envOf:β→J→A0) (r:∀b j h,kk b h Q E→u D (envOf b j) h)
    (b:(∀b j h,kk b h Q E→({ D with nx:=u D }:AEnds).nx (envOf b j) h)→∀h,f kk h Q E→s { D with nx:=u D } env h):∀h,w8 kk f h Q E→aSeq s u D env h:=b r
theorem A7A {σ J:Type} {g:E7} {tb:B4} {body:W→σ→(σ→MC)→(σ→MC)→MC} {k:σ→MC} (envOf:σ→J→A0) (r:∀s j h,k s h Q E→D.nx (envOf s j) h)
    (b:∀w s j (kn:σ→MC) (N:A0→AH→Prop),(∀s j h,kn s h Q E→N (envOf s j) h)→∀h,body w s kn k h Q E→g w (envOf s j) h fun e1 h1=> tb { D with nx:=N,ct:=N,bk:=D.nx } e1 h1):
    ∀ws s j h,i6 body k ws s h Q E→aLoop g tb D ws (envOf s j) h
  | [],s,j,h,z=> r s j h z
  | w::ws,s,j,h,z=> b w s j (i6 body k ws) (aLoop g tb D ws) (fun s j h z=> A7A envOf r b ws s j h z) h z
theorem A2W {σ J:Type} {g:E7} {tb:B4} {body:W→σ→(σ→MC)→(σ→MC)→MC} {k:σ→MC} (envOf:σ→J→A0) (s0:σ) (j0:J) (he:envOf s0 j0=env) (it:SA Q E env ti mi) (r:∀s j h,k s h Q E→D.nx (envOf s j) h)
    (b:(∀s j h,k s h Q E→D.nx (envOf s j) h)→∀w s j (kn:σ→MC) (N:A0→AH→Prop),(∀s j h,kn s h Q E→N (envOf s j) h)→∀h,body w s kn k h Q E→g w (envOf s j) h fun e1 h1=> tb { D with nx:=N,ct:=N,bk:=D.nx } e1 h1):
    ∀h,w9 mi s0 body k h Q E→A0X ti g tb D env h:=fun h z=> it h _ _ (fun ws h' z=> he▸A7A envOf r (b r) ws s0 j0 h' z) z
theorem A4N {x:SV} (e:env[i]? =some (some x)):env.set i (some x)=env:=by
  obtain ⟨hi,e'⟩:=List.getElem?_eq_some_iff.mp e
  conv=> rhs;rw [←List.set_getElem_self (as:=env) hi]
  rw [e']
theorem A3v {x:SV} {h:AH} {K:RV→A0→AH→Prop} (e:env[i]? =some (some x)) (q:∀r,(∃c,x= .own c∧r= .slot i)∨(∃w,x= .val w∧r= .val w)→K r env h):aVar i env h K:=by
  unfold aVar
  rw [e]
  cases x with
  | val w=> exact q _ (.inr ⟨w,rfl,rfl⟩)
  | own c=> exact q _ (.inl ⟨c,rfl,rfl⟩)
theorem A2D {h:AH} {c:Cont} (e:env[i]? =some (some (.own c))):K2 env h (.slot i)=some c:=by
  show (match env[i]? with
    | some (some (.own c))=> some c
    | _=> none)=_
  rw [e]
theorem A04 {h:AH} {p:Addr} {c:Cont} (e:h p=some (.cont c)):K2 env h (.val (.ref p))=some c:=by
  show (match h p with
    | some (.cont c)=> some c
    | _=> none)=_
  rw [e]
def LmM (f:O6):Prop:=∀xs ws Q Q',(∀a b,Q a b→Q' a b)→f xs ws Q→f xs ws Q'
theorem B35 {f:O6} {x:SV} {k:SV→W→MC} {K:RV→A0→AH→Prop} (fm:LmM f) (e:env[i]? =some (some x)) (a:SA Q E env ta ma) (n:∀x' w h,k x' w h Q E→K (.val w) (env.set i (some x')) h):
    ∀h,lmC f x ma k h Q E→aLm f (aVar i) ta env h K:=fun h z=> by
  refine A3v e fun r hr=> ?_
  obtain ⟨zi,z⟩:=z
  rcases hr with ⟨c,rfl,rfl⟩ | ⟨w,rfl,rfl⟩
  · have pl:K2 env h (.slot i)=some c:=A2D e
    cases c with
    | map kvs=> exact zi.elim
    | seq xs=>
      refine ⟨by rw [pl];trivial,a h _ _ (fun ws h2 z=> ?_) z⟩
      have pl:K2 env h2 (.slot i)=some (.seq xs):=A2D e
      rw [pl]
      exact fm _ _ _ _ (fun xs' w z=> n _ _ _ z) z
  · cases w with
    | ref p=>
      obtain ⟨xs,ep⟩:=zi
      have pl:K2 env h (.val (.ref p))=some (.seq xs):=A04 ep
      refine ⟨by rw [pl];trivial,a h _ _ (fun ws h2 z=> ?_) z⟩
      have z:(match h2 p with
        | some (.cont (.seq xs))=> f xs ws fun xs' w=> k (.val (.ref p)) w (C9 h2 p (.cont (.seq xs'))) Q E
        | _=> False):=z
      split at z
      · rename_i xs2 e2
        have pl:K2 env h2 (.val (.ref p))=some (.seq xs2):=A04 e2
        rw [pl]
        refine fm _ _ _ _ (fun xs' w z=> ?_) z
        have q:=n _ _ _ z
        rw [A4N e] at q
        exact q
      · exact z.elim
    | _=> exact zi.elim
theorem A8P {f:O6} {x:SV} {k:SV→W→MC} (e':SV→A0) (he:∀x,env.set i (some x)=e' x) (fm:LmM f) (e:env[i]? =some (some x)) (a:SA Q E env ta ma) (n:∀x' w h,k x' w h Q E→D.nx (e' x') h):∀h,lmC f x ma k h Q E→c5 (aLm f (aVar i) ta) D env h:=
  B35 (K:=fun _ env1 h1=> D.nx env1 h1) fm e a (fun x' w h z=> by rw [he];exact n x' w h z)
theorem r9 {x:SV} {k:SV→MC} (e':SV→A0) (he:∀x,env.set i (some x)=e' x) (a:SA Q E env tv mv) (e:env[i]? =some (some x)) (b:SE Q E env t m) (n0:∀x' h,k x' h Q E→D.nx (e' x') h):∀h,U0 mv x m k h Q E→G3 tv (i5 (aVar i) t) D env h:=fun h z=> have n:∀x' h,k x' h Q E→D.nx (env.set i (some x')) h:=fun x' h z=> by rw [he];exact n0 x' h z
  a h _ _ (fun w h1 z=> by
  refine A3v (K:=fun ro env1 h1=> t env1 h1 fun ri env2 h2=> match view env2 h2 ri with
    | .wv (.int k)=> match K2 env2 h2 ro with
      | some (.seq xs)=> ∃j,ixN xs.length k=some j∧D.nx (W3 env2 ro (.seq (xs.set j w))) (W4 h2 ro (.seq (xs.set j w)))
      | _=> False
    | _=> False) e fun r hr=> b h1 _ _ (fun ri y h2 rl z=> ?_) z
  rw [P3 rl]
  unfold l9 at z
  split at z
  · rename_i q e1
    try rw [e1]
    rcases hr with ⟨c,rfl,rfl⟩ | ⟨v,rfl,rfl⟩
    · cases c with
      | map kvs=> exact z.elim
      | seq xs=>
        have pl:K2 env h2 (.slot i)=some (.seq xs):=A2D e
        rw [pl]
        obtain ⟨j,ej,z⟩:=z
        exact ⟨j,ej,n _ _ z⟩
    · cases v with
      | ref p=>
        have z:(match h2 p with
          | some (.cont (.seq xs))=> ∃j,ixN xs.length q=some j∧k (.val (.ref p)) (C9 h2 p (.cont (.seq (xs.set j w)))) Q E
          | _=> False):=z
        split at z
        · rename_i xs2 e2
          have pl:K2 env h2 (.val (.ref p))=some (.seq xs2):=A04 e2
          rw [pl]
          obtain ⟨j,ej,z⟩:=z
          have q:=n _ _ z
          rw [A4N e] at q
          exact ⟨j,ej,q⟩
        · exact z.elim
      | _=> exact z.elim
  · exact z.elim) z
theorem A6u {f:Int→Int→Int} {x:SV} {k:SV→MC} {t2:AT} {m2:CE} (e':SV→A0) (he:∀x,env.set i (some x)=e' x) (e:env[i]? =some (some x)) (b:SE Q E env t m) (c:SE Q E env t2 m2) (n0:∀x' h,k x' h Q E→D.nx (e' x') h):∀h,A3A f x m m2 k h Q E→aAugS f (aVar i) t t2 D env h:=fun h z=> by
  have n:∀x' h,k x' h Q E→D.nx (env.set i (some x')) h:=fun x' h z=> by rw [he];exact n0 x' h z
  refine A3v e fun r hr=> b h _ _ (fun ri y h2 rl z=> ?_) z
  obtain ⟨q,e1,z0,z⟩:=g8 z
  rw [P3 rl,e1]
  refine ⟨z0,?_⟩
  rcases hr with ⟨c',rfl,rfl⟩ | ⟨v,rfl,rfl⟩
  · cases c' with
    | map kvs=> exact z.elim
    | seq xs=>
      have pl:∀h,K2 env h (.slot i)=some (.seq xs):=fun h=> A2D e
      rw [pl]
      have z:(match xs[q.toNat]? with
        | some (.int a)=> m2 (fun z=> I5 z fun b=> k (.own (.seq (xs.set q.toNat (.int (f a b)))))) h2 Q E
        | _=> False):=z
      show (match xs[q.toNat]? with
        | some (.int x)=> t2 env h2 fun re env3 h3=> (match view env3 h3 re with
          | .wv (.int y)=> (match K2 env3 h3 (.slot i) with
            | some (.seq ys)=> q.toNat < ys.length∧D.nx (W3 env3 (.slot i) (.seq (ys.set q.toNat (.int (f x y))))) (W4 h3 (.slot i) (.seq (ys.set q.toNat (.int (f x y)))))
            | _=> False)
          | _=> False)
        | _=> False)
      split at z
      · rename_i a ea
        refine c h2 _ _ (fun re s3 h3 rl3 z=> ?_) z
        obtain ⟨b',e3,z⟩:=g8 z
        rw [P3 rl3,e3]
        show (match K2 env h3 (.slot i) with
            | some (.seq ys)=> q.toNat < ys.length∧D.nx (W3 env (.slot i) (.seq (ys.set q.toNat (.int (f a b'))))) (W4 h3 (.slot i) (.seq (ys.set q.toNat (.int (f a b')))))
            | _=> False)
        rw [pl]
        exact ⟨(List.getElem?_eq_some_iff.mp ea).1,n _ _ z⟩
      · exact z.elim
  · cases v with
    | ref p=>
      have z:(match h2 p with
        | some (.cont (.seq xs))=> (match xs[q.toNat]? with
          | some (.int a)=> m2 (fun z=> I5 z fun b=> fun h' Q E=> match h' p with
            | some (.cont (.seq ys))=> q.toNat < ys.length∧k (.val (.ref p)) (C9 h' p (.cont (.seq (ys.set q.toNat (.int (f a b)))))) Q E
            | _=> False) h2 Q E
          | _=> False)
        | _=> False):=z
      split at z
      · rename_i xs2 e2
        have pl:K2 env h2 (.val (.ref p))=some (.seq xs2):=A04 e2
        rw [pl]
        show (match xs2[q.toNat]? with
          | some (.int x)=> t2 env h2 fun re env3 h3=> (match view env3 h3 re with
            | .wv (.int y)=> (match K2 env3 h3 (.val (.ref p)) with
              | some (.seq ys)=> q.toNat < ys.length∧D.nx (W3 env3 (.val (.ref p)) (.seq (ys.set q.toNat (.int (f x y))))) (W4 h3 (.val (.ref p)) (.seq (ys.set q.toNat (.int (f x y)))))
              | _=> False)
            | _=> False)
          | _=> False)
        split at z
        · rename_i a ea
          refine c h2 _ _ (fun re s3 h3 rl3 z=> ?_) z
          obtain ⟨b',e3,z⟩:=g8 z
          rw [P3 rl3,e3]
          split at z
          · rename_i ys e4
            have pl:K2 env h3 (.val (.ref p))=some (.seq ys):=A04 e4
            show (match K2 env h3 (.val (.ref p)) with
              | some (.seq ys)=> q.toNat < ys.length∧D.nx (W3 env (.val (.ref p)) (.seq (ys.set q.toNat (.int (f a b'))))) (W4 h3 (.val (.ref p)) (.seq (ys.set q.toNat (.int (f a b')))))
              | _=> False)
            rw [pl]
            have q:=n _ _ z.2
            rw [A4N e] at q
            exact ⟨z.1,q⟩
          · exact z.elim
        · exact z.elim
      · exact z.elim
    | _=> exact z.elim
theorem u3:U5 M7:=fun _ _ _ _ k q=> oII.mono _ _ _ _ k q
theorem A6z:U5 l8:=fun _ _ _ _ k q=> oII.mono _ _ _ _ k q
theorem A4O:U5 m6:=fun _ _ _ _ k q=> oII.mono _ _ _ _ k q
theorem A4x:U5 m7:=fun _ _ _ _ k q=> oII.mono _ _ _ _ k q
theorem A8V:U5 y7:=fun _ _ _ _ k q=> oII.mono _ _ _ _ k q
theorem A8X:U5 y6:=fun _ _ _ _ k q=> oII.mono _ _ _ _ k q
theorem R1:U5 oAdd:=oAdd.mono
theorem L4:U5 oIx:=oIx.mono
theorem V2:U5 oMulT:=oMulT.mono
theorem S9 {neg:Bool}:U5 (C6 neg):=fun a b Q Q' k q=> ⟨q.1,q.2.1,k _ q.2.2⟩
theorem A37 {neg:Bool}:U5 (H9 neg):=fun a b Q Q' k q=> ⟨q.1,q.2.1,k _ q.2.2⟩
theorem R0:A0a C4:=fun as Q Q' k q=> by
  unfold C4 at q ⊢
  split at q
  · exact ⟨q.1,k _ q.2⟩
  · obtain ⟨xs,e,q⟩:=q
    exact ⟨xs,e,k _ q⟩
  · exact q
theorem B2b {g:List Bool→Bool}:A0a (oBls g):=oBls.mono
theorem V4:A0a B6:=fun as Q Q' k q=> by
  unfold B6 at q ⊢
  split at q
  · obtain ⟨n,b,e,f,q⟩:=q
    exact ⟨n,b,e,f,k _ q⟩
  · exact q
theorem A7D:A0a O5:=fun as Q Q' k q=> by
  unfold O5 at q ⊢
  split at q
  · obtain ⟨xs,e,q⟩:=q
    exact ⟨xs,e,k _ q⟩
  · exact q
theorem B15:A0a Q7:=fun as Q Q' k q=> by
  unfold Q7 at q ⊢
  split at q
  · obtain ⟨xs,e,q⟩:=q
    exact ⟨xs,e,k _ q⟩
  · exact q
theorem A6I:LmM Z7:=fun xs ws Q Q' k q=> by
  unfold Z7 at q ⊢
  split at q
  · exact ⟨q.1,k _ _ q.2⟩
  · exact q
variable {Q':RR→AH→Prop} {E':AExc→AH→Prop}
theorem P4 (hQ:∀r h,Q r h→Q' r h):∀r s env h,Rl env r s→Q s.rr h→(C1 Q').rt r env h:=fun r s env h rl q=> by
  refine ⟨h,fun _ _ e=> e,?_⟩
  cases r with
  | val w=> cases rl;exact hQ _ _ q
  | own w=> cases rl;exact hQ _ _ q
  | slot i=>
    obtain ⟨c,rfl,e⟩:=rl
    show (match env[i]? with
      | some (some (.val w))=> Q' (.val w) h
      | some (some (.own c))=> Q' (.own c) h
      | _=> False)
    rw [e]
    exact hQ _ _ q
theorem P5 (hE:∀x h,E x h→E' x h) (env:A0):∀x h,E x h→C7 E' x env h:=fun x h q=> ⟨h,fun _ _ e=> e,hE _ _ q⟩
theorem A2a (hQ:∀r h,Q r h→Q' r h) (env:A0):∀h,(ret (.val .non)) h Q E→(C1 Q').nx env h:=fun h z=> ⟨h,fun _ _ e=> e,hQ _ _ z⟩
end
end Ab
namespace Ab
open PySem PySem.Spec PyProof.Rows L2 RZ
section
variable {Q:RR→AH→Prop} {E:AExc→AH→Prop} {h:AH}
@[simp] theorem E5 {x:SV} {k:SV→MC}:eV x k=k x:=rfl
@[simp] theorem F6 {x:W} {k:SV→MC}:eC x k=k (.val x):=rfl
@[simp] theorem I4 {o:E9} {a b:CE} {k:SV→MC}:A4 o a b k=a fun x=> b fun y=> B9 o x y k:=rfl
@[simp] theorem E8 {a:CE} {k:W→MC}:A3 a k=a fun x=> k x.fz:=rfl
@[simp] theorem F3 {k:List W→MC}:B3 k=k []:=rfl
@[simp] theorem G6 {a:CW} {b:B2} {k:List W→MC}:A9 a b k=a fun w=> b fun ws=> k (w::ws):=rfl
@[simp] theorem A4g {a:B2} {k:SV→MC}:d0 a k=a fun ws=> D2 (ws.length≤sizeLine) (k (.val (.tup ws))):=rfl
@[simp] theorem k9 {a:B2} {k:SV→MC}:P7 a k=a fun ws=> D2 (ws.length≤sizeLine) (k (.own (.seq ws))):=rfl
@[simp] theorem A8C {k:Option Int→MC}:y0 k=k none:=rfl
@[simp] theorem A67 {a:CE} {k:Option Int→MC}:v7 a k=a fun x=> I5 x fun i=> k (some i):=rfl
@[simp] theorem A8h {a:CE} {l u:CO} {k:SV→MC}:x9 a l u k=a fun x=> l fun l=> u fun u=> slc x l u k:=rfl
@[simp] theorem L0 {k:List SV→MC}:E6 k=k []:=rfl
@[simp] theorem K8 {a:CE} {b:CS} {k:List SV→MC}:C3 a b k=a fun w=> b fun ws=> k (w::ws):=rfl
@[simp] theorem L6 {o:G5} {a:CS} {k:SV→MC}:F0 o a k=a fun xs=> cb o xs k:=rfl
@[simp] theorem V7 {k:Bool→MC}:A3D k=k true:=rfl
@[simp] theorem M5 {a:CE} {k:Bool→MC}:E3 a k=a fun x=> T0 x k:=rfl
@[simp] theorem B3N {a b:CB} {k:Bool→MC}:tAnd a b k=a fun x=> if x=true then b k else k false:=rfl
@[simp] theorem W0 {a b:CB} {k:Bool→MC}:tOr a b k=a fun x=> if x=true then k true else b k:=rfl
@[simp] theorem u7 {a:CB} {k:Bool→MC}:T8 a k=a fun x=> k (!x):=rfl
@[simp] theorem B4n {c:CB} {a b:CE} {k:SV→MC}:eIf c a b k=c fun x=> if x=true then a k else b k:=rfl
@[simp] theorem a9 {a b:CE} {k:SV→MC}:x7 a b k=a fun x=> T0 x fun c=> if c=true then b k else k (.val (.bl false)):=rfl
@[simp] theorem B74 {a b:CE} {k:SV→MC}:eOr a b k=a fun x=> T0 x fun c=> if c=true then k (.val (.bl true)) else b k:=rfl
@[simp] theorem b9 {a:CE} {k:SV→MC}:A5B a k=a fun x=> T0 x fun c=> k (.val (.bl (!c))):=rfl
@[simp] theorem A4r {a:CE} {k:SV→MC}:i7 a k=a fun x=> I5 x fun i=> k (.val (.int (-i))):=rfl
@[simp] theorem A0Q {P P':Int→Int→Bool} {a b c:CE} {k:SV→MC}:W2 P P' a b c k=a fun x=> b fun y=> I5 x fun i=> I5 y fun j=>
  if P i j=true then c fun z=> I5 z fun l=> k (.val (.bl (P' j l))) else k (.val (.bl false)):=rfl
@[simp] theorem Q6 {f:List W→MC} {a:B2} {k:SV→MC}:F4 f a k=a fun ws=> call (f ws) k:=rfl
@[simp] theorem V1 {f:List W→MC} {a:B2} {k:SV→MC}:A2V f a k=a fun ws=> call0 (f ws) k:=rfl
@[simp] theorem B1k {p:List Nat} {a:B2} {k:List W→MC}:A4v p a k=a fun ws=> perm p ws k:=rfl
@[simp] theorem B1J {a:CW} {k:List W→MC}:A4F a k=a fun w=> items w k:=rfl
@[simp] theorem R9 {a:CS} {k:List W→MC}:A0M a k=a fun w=> A28 w k:=rfl
@[simp] theorem B6j {a:CS} {k:List W→MC}:B4L a k=a fun w=> A40 w k:=rfl
@[simp] theorem B7Q {a:B2} {k:List W→MC}:B4x a k=a fun w=> A27 w k:=rfl
@[simp] theorem A2L {a:CW} {k:List W→MC}:A1N a k=a fun w=> items w fun ws=> k (N5 ws):=rfl
@[simp] theorem B7W {a:B2} {k:List W→MC}:B4m a k=a fun ws=> enz ws k:=rfl
@[simp] theorem M6 {mc:CB} {m1 m2:MC}:F7 mc m1 m2=mc fun b=> if b=true then m1 else m2:=rfl
@[simp] theorem B62 {a:CE} {k:SV→MC}:B3l a k=a fun x=> A49 x k:=rfl
@[simp] theorem B7H {a:B2} {k:W→W→MC}:B4p a k=a fun ws=> pr2 ws k:=rfl
@[simp] theorem B6A {a:CW} {k:W→SV→MC}:A4w a k=a fun w=> A29 w k:=rfl
@[simp] theorem A1D {mv:CW} {x:SV} {m:CE} {k:SV→MC}:U0 mv x m k=mv fun w=> m fun y=> l9 x y w k:=rfl
@[simp] theorem B5y {mv:CW} {x:SV} {m:CE} {m2:SV→CE} {k:SV→MC}:B3y mv x m m2 k=mv fun w=> un2 w fun a b=> m fun y=> l9 x y a fun x1=> m2 x1 fun y2=> l9 x1 y2 b k:=rfl
@[simp] theorem A4H {f:Int→Int→Int} {x:SV} {m m2:CE} {k:SV→MC}:A3A f x m m2 k=m fun y=> A20 f x y m2 k:=rfl
@[simp] theorem T6 {mt:CB} {me:CW} {kk:Option W→MC}:lcb mt me kk=mt fun b=> if b=true then me fun y=> kk (some y) else kk none:=rfl
@[simp] theorem T9 {it:B2} {body:W→(Option W→MC)→MC} {k:SV→MC}:eLc it body k=it fun ws=> R8 body (fun acc=> k (.own (.seq acc))) ws []:=rfl
@[simp] theorem A0B {σ:Type} {mi:B2} {s0:σ} {body:W→σ→(σ→MC)→(σ→MC)→MC} {k:σ→MC}:w9 mi s0 body k=mi fun ws=> i6 body k ws s0:=rfl
@[simp] theorem B60 {σ:Type} {k:σ→MC} {f:(σ→MC)→MC}:w8 k f=f k:=rfl
theorem A6n:∀{as bs:List Char},as.map Char.toNat=bs.map Char.toNat→as=bs
  | [],[],_=> rfl
  | [],_::_,h=> by cases h
  | _::_,[],h=> by cases h
  | a::as,b::bs,h=> by
    rw [List.map_cons,List.map_cons] at h
    injection h with h1 h2
    rw [Char.toNat_inj.mp h1,A6n h2]
@[simp] theorem B1w {a b:String}:(Str.ofString a=Str.ofString b)=(a=b):=by
  refine propext ⟨fun e=> ?_,fun e=> by rw [e]⟩
  rw [Str.ofString_eq_toList,Str.ofString_eq_toList] at e
  injection e with e
  have z:=A6n (congrArg Array.toList e)
  exact String.toList_inj.mp z
@[simp] theorem D4 {w:W}:SV.fz (.val w)=w:=rfl
@[simp] theorem A07 {ws:List W}:SV.fz (.own (.seq ws))= .lst ws:=rfl
@[simp] theorem B68 {w:W}:SV.rr (.val w)= .val w:=rfl
@[simp] theorem B7O {c:Cont}:SV.rr (.own c)= .own c:=rfl
@[simp] theorem Z9 {w:W}:RR.sv (.val w)= .val w:=rfl
@[simp] theorem B63 {c:Cont}:RR.sv (.own c)= .own c:=rfl
theorem O4:sizeLine=16777216:=rfl
@[simp] theorem T2 {i:Int} {k:Int→MC}:I5 (.val (.int i)) k=k i:=rfl
@[simp] theorem H8 {i:Bool} {k:Bool→MC}:T0 (.val (.bl i)) k=k i:=rfl
@[simp] theorem A14 {ws:List W} {k:List W→MC}:items (.tup ws) k=k ws:=rfl
@[simp] theorem B5Q {ws:List W} {k:List W→MC}:items (.lst ws) k=k ws:=rfl
@[simp] theorem A7S {a b:W} {k:W→W→MC}:un2 (.tup [a,b]) k=k a b:=rfl
@[simp] theorem B6Q {a b c:W} {k:W→W→W→MC}:un3 (.tup [a,b,c]) k=k a b c:=rfl
@[simp] theorem B6F {a b c d e:W} {k:W→W→W→W→W→MC}:un5 (.tup [a,b,c,d,e]) k=k a b c d e:=rfl
@[simp] theorem B6l {a b:W} {k:W→W→MC}:uq2 (.tup [a,b]) k=k a b:=rfl
@[simp] theorem B6K {a b c:W} {k:W→W→W→MC}:uq3 (.tup [a,b,c]) k=k a b c:=rfl
@[simp] theorem B6d {a b:W} {k:W→W→MC}:uq2 (.lst [a,b]) k=k a b:=rfl
@[simp] theorem B52 {a b c:W} {k:W→W→W→MC}:uq3 (.lst [a,b,c]) k=k a b c:=rfl
@[simp] theorem B5x {a b c d:W} {k:W→W→W→W→MC}:uq4 (.tup [a,b,c,d]) k=k a b c d:=rfl
@[simp] theorem B6S {a b c d e:W} {k:W→W→W→W→W→MC}:uq5 (.tup [a,b,c,d,e]) k=k a b c d e:=rfl
@[simp] theorem B5k {x:W} {r:List W} {k:W→SV→MC}:A29 (.tup (x::r)) k=k x (.own (.seq r)):=rfl
@[simp] theorem B5a {x:W} {r:List W} {k:W→SV→MC}:A29 (.lst (x::r)) k=k x (.own (.seq r)):=rfl
@[simp] theorem B7y {x y:W} {k:W→W→MC}:pr2 [x,y] k=k x y:=rfl
@[simp] theorem B5X {xs ys:List W} {k:List W→MC}:A27 [.tup xs,.tup ys] k=k (List.zipWith (fun a b=> W.tup [a,b]) xs ys):=rfl
@[simp] theorem B5l {xs ys:List W} {k:List W→MC}:A27 [.lst xs,.lst ys] k=k (List.zipWith (fun a b=> W.tup [a,b]) xs ys):=rfl
@[simp] theorem B7g {a b:W} {k:List W→MC}:enz [a,b] k=items a fun xs=> items b fun ys=> k (ezW xs ys):=rfl
@[simp] theorem q9 {j:Int} {k:List W→MC}:A28 [.val (.int j)] k=D2 (-(2 ^ 62)≤j∧j < 2 ^ 62) (k (N3 0 j.toNat)):=rfl
@[simp] theorem B5q {i j:Int} {k:List W→MC}:A40 [.val (.int i),.val (.int j)] k=D2 (-(2 ^ 62)≤i∧i < 2 ^ 62∧ -(2 ^ 62)≤j∧j < 2 ^ 62) (k (N3 i (j - i).toNat)):=rfl
@[simp] theorem B5b {n:Int} {k:SV→MC}:A49 (.val (.int n)) k=D2 (0≤n∧n≤16777216) (k (.own (.seq (N3 0 n.toNat)))):=rfl
theorem C2 {p:Prop} {m:MC} (hp:p):D2 p m=m:=by funext h Q E;exact propext ⟨fun z=> z.2,fun z=> ⟨hp,z⟩⟩
@[simp] theorem l5 {m:MC}:D2 True m=m:=C2 trivial
theorem A0D {p:Prop} {m:MC}:D2 p m h Q E=(p∧m h Q E):=rfl
@[simp] theorem B7B {x:SV}:ret x h Q E=Q x.rr h:=rfl
@[simp] theorem B5g {x:AExc}:T5 x h Q E=E x h:=rfl
@[simp] theorem U9 {x:SV} {k:SV→MC}:call (ret x) k=k x:=by cases x <;> rfl
@[simp] theorem B0X {x:SV} {k:SV→MC}:call0 (ret x) k=k x:=by cases x <;> rfl
@[simp] theorem A0x {x:AExc} {k:SV→MC}:call (T5 x) k=T5 x:=rfl
theorem A1H {p:Prop}:(True∧p)=p:=by simp
@[simp] theorem B4w {a:W} {k:List W→MC}:perm [0] [a] k=k [a]:=C2 rfl
@[simp] theorem B7r {a b:W} {k:List W→MC}:perm [0,1] [a,b] k=k [a,b]:=C2 rfl
@[simp] theorem B7x {a b:W} {k:List W→MC}:perm [1,0] [a,b] k=k [b,a]:=C2 rfl
@[simp] theorem B7J {a b c:W} {k:List W→MC}:perm [0,1,2] [a,b,c] k=k [a,b,c]:=C2 rfl
@[simp] theorem B7D {a b c:W} {k:List W→MC}:perm [0,2,1] [a,b,c] k=k [a,c,b]:=C2 rfl
@[simp] theorem B69 {a b c:W} {k:List W→MC}:perm [1,0,2] [a,b,c] k=k [b,a,c]:=C2 rfl
@[simp] theorem B7G {a b c:W} {k:List W→MC}:perm [1,2,0] [a,b,c] k=k [b,c,a]:=C2 rfl
@[simp] theorem B7V {a b c:W} {k:List W→MC}:perm [2,0,1] [a,b,c] k=k [c,a,b]:=C2 rfl
@[simp] theorem B7b {a b c:W} {k:List W→MC}:perm [2,1,0] [a,b,c] k=k [c,b,a]:=C2 rfl
@[simp] theorem B6Y {a b c d:W} {k:List W→MC}:perm [0,1,2,3] [a,b,c,d] k=k [a,b,c,d]:=C2 rfl
@[simp] theorem B5s {a b c d:W} {k:List W→MC}:perm [0,1,3,2] [a,b,c,d] k=k [a,b,d,c]:=C2 rfl
@[simp] theorem B6R {a b c d:W} {k:List W→MC}:perm [0,2,1,3] [a,b,c,d] k=k [a,c,b,d]:=C2 rfl
@[simp] theorem B50 {a b c d:W} {k:List W→MC}:perm [0,2,3,1] [a,b,c,d] k=k [a,c,d,b]:=C2 rfl
@[simp] theorem B6r {a b c d:W} {k:List W→MC}:perm [0,3,1,2] [a,b,c,d] k=k [a,d,b,c]:=C2 rfl
@[simp] theorem B51 {a b c d:W} {k:List W→MC}:perm [0,3,2,1] [a,b,c,d] k=k [a,d,c,b]:=C2 rfl
@[simp] theorem B6P {a b c d:W} {k:List W→MC}:perm [1,0,2,3] [a,b,c,d] k=k [b,a,c,d]:=C2 rfl
@[simp] theorem B6W {a b c d:W} {k:List W→MC}:perm [1,0,3,2] [a,b,c,d] k=k [b,a,d,c]:=C2 rfl
@[simp] theorem B6h {a b c d:W} {k:List W→MC}:perm [1,2,0,3] [a,b,c,d] k=k [b,c,a,d]:=C2 rfl
@[simp] theorem B5w {a b c d:W} {k:List W→MC}:perm [1,2,3,0] [a,b,c,d] k=k [b,c,d,a]:=C2 rfl
@[simp] theorem B6k {a b c d:W} {k:List W→MC}:perm [1,3,0,2] [a,b,c,d] k=k [b,d,a,c]:=C2 rfl
@[simp] theorem B6M {a b c d:W} {k:List W→MC}:perm [1,3,2,0] [a,b,c,d] k=k [b,d,c,a]:=C2 rfl
@[simp] theorem B6X {a b c d:W} {k:List W→MC}:perm [2,0,1,3] [a,b,c,d] k=k [c,a,b,d]:=C2 rfl
@[simp] theorem B6L {a b c d:W} {k:List W→MC}:perm [2,0,3,1] [a,b,c,d] k=k [c,a,d,b]:=C2 rfl
@[simp] theorem B6p {a b c d:W} {k:List W→MC}:perm [2,1,0,3] [a,b,c,d] k=k [c,b,a,d]:=C2 rfl
@[simp] theorem B59 {a b c d:W} {k:List W→MC}:perm [2,1,3,0] [a,b,c,d] k=k [c,b,d,a]:=C2 rfl
@[simp] theorem B5z {a b c d:W} {k:List W→MC}:perm [2,3,0,1] [a,b,c,d] k=k [c,d,a,b]:=C2 rfl
@[simp] theorem B55 {a b c d:W} {k:List W→MC}:perm [2,3,1,0] [a,b,c,d] k=k [c,d,b,a]:=C2 rfl
@[simp] theorem B6N {a b c d:W} {k:List W→MC}:perm [3,0,1,2] [a,b,c,d] k=k [d,a,b,c]:=C2 rfl
@[simp] theorem B6c {a b c d:W} {k:List W→MC}:perm [3,0,2,1] [a,b,c,d] k=k [d,a,c,b]:=C2 rfl
@[simp] theorem B6C {a b c d:W} {k:List W→MC}:perm [3,1,0,2] [a,b,c,d] k=k [d,b,a,c]:=C2 rfl
@[simp] theorem B6E {a b c d:W} {k:List W→MC}:perm [3,1,2,0] [a,b,c,d] k=k [d,b,c,a]:=C2 rfl
@[simp] theorem B6n {a b c d:W} {k:List W→MC}:perm [3,2,0,1] [a,b,c,d] k=k [d,c,a,b]:=C2 rfl
@[simp] theorem B6b {a b c d:W} {k:List W→MC}:perm [3,2,1,0] [a,b,c,d] k=k [d,c,b,a]:=C2 rfl
section
variable {i j:Int} {k:SV→MC} {xs ys:List W}
@[simp] theorem B7m:B9 B4t (.val (.int i)) (.val (.int j)) k=k (.val (.int (i - j))):=by funext h Q E;exact A1H
@[simp] theorem A44:B9 m7 (.val (.int i)) (.val (.int j)) k=k (.val (.bl (decide (i < j)))):=by funext h Q E;exact A1H
@[simp] theorem B75:B9 oLe (.val (.int i)) (.val (.int j)) k=k (.val (.bl (decide (i≤j)))):=by funext h Q E;exact A1H
@[simp] theorem B46:B9 y7 (.val (.int i)) (.val (.int j)) k=k (.val (.bl (decide (j < i)))):=by funext h Q E;exact A1H
@[simp] theorem A8x:B9 y6 (.val (.int i)) (.val (.int j)) k=k (.val (.bl (decide (j≤i)))):=by funext h Q E;exact A1H
@[simp] theorem A23:B9 M7 (.val (.int i)) (.val (.int j)) k=D2 (0 < j) (k (.val (.int (i % j)))):=rfl
@[simp] theorem A7y:B9 l8 (.val (.int i)) (.val (.int j)) k=D2 (CDivW i j) (k (.val (.int (i / j)))):=rfl
@[simp] theorem A8B:B9 m6 (.val (.int i)) (.val (.int j)) k=D2 (CPow i j) (k (.val (.int (i ^ j.toNat)))):=rfl
@[simp] theorem A4l:B9 oMulT (.val (.int i)) (.val (.int j)) k=D2 (CMulW i j) (k (.val (.int (i*j)))):=rfl
@[simp] theorem A4a:B9 oMulT (.own (.seq xs)) (.val (.int j)) k=D2 (-(2 ^ 63)≤j∧j < 2 ^ 63∧xs.length*j.toNat≤sizeLine) (k (.own (.seq (List.replicate j.toNat xs).flatten))):=rfl
@[simp] theorem A7a:B9 oMulT (.val (.tup xs)) (.val (.int j)) k=D2 (-(2 ^ 63)≤j∧j≤1000∧1≤xs.length∧xs.length≤1000) (k (.val (.tup (List.replicate j.toNat xs).flatten))):=rfl
@[simp] theorem m4:B9 oAdd (.val (.int i)) (.val (.int j)) k=k (.val (.int (i+j))):=rfl
@[simp] theorem B7M {x y:Str}:B9 oAdd (.val (.str x)) (.val (.str y)) k=D2 (x.length+y.length≤sizeLine) (k (.val (.str (x++y)))):=rfl
@[simp] theorem A7z:B9 oAdd (.val (.tup xs)) (.val (.tup ys)) k=D2 (xs.length+ys.length≤sizeLine) (k (.val (.tup (xs++ys)))):=rfl
@[simp] theorem B6o:B9 oAdd (.val (.lst xs)) (.val (.lst ys)) k=D2 (xs.length+ys.length≤sizeLine) (k (.own (.seq (xs++ys)))):=rfl
@[simp] theorem B6i:B9 oAdd (.val (.lst xs)) (.own (.seq ys)) k=D2 (xs.length+ys.length≤sizeLine) (k (.own (.seq (xs++ys)))):=rfl
@[simp] theorem B56:B9 oAdd (.own (.seq xs)) (.val (.lst ys)) k=D2 (xs.length+ys.length≤sizeLine) (k (.own (.seq (xs++ys)))):=rfl
@[simp] theorem B5t:B9 oAdd (.own (.seq xs)) (.own (.seq ys)) k=D2 (xs.length+ys.length≤sizeLine) (k (.own (.seq (xs++ys)))):=rfl
def N6 (xs:List W) (i:Int) (k:W→MC):MC:=match L2.atI xs i with
  | some w=> k w
  | none=> bad
theorem A6v {v:Vw} {i:Int} {Q:RV→Prop} (hv:v.items=some xs) (hs:∀x,v≠ .wv (.str x)):oIx v (.wv (.int i)) Q=match L2.atI xs i with
  | some w=> Q (.val w)
  | none=> False:=by
  rw [B4X]
  have z:ixK v i Q=match L2.atI xs i with
    | some w=> Q (.val w)
    | none=> False:=by
    unfold ixK
    rw [hv]
    rfl
  cases v with
  | wv w=> cases w with
    | str x=> exact absurd rfl (hs x)
    | _=> exact z
  | _=> exact z
theorem A4T {x:SV} {v:Vw} (e:∀h,G9 h x=v) (hv:v.items=some xs) (hs:∀x,v≠ .wv (.str x)):B9 oIx x (.val (.int i)) k=N6 xs i fun w=> k (.val w):=by
  funext h Q E
  show oIx (G9 h x) (.wv (.int i)) _=_
  rw [e,A6v hv hs]
  unfold N6
  cases L2.atI xs i <;> rfl
@[simp] theorem A4Y:B9 oIx (.val (.tup xs)) (.val (.int i)) k=N6 xs i fun w=> k (.val w):=A4T (v:= .wv (.tup xs)) (fun _=> rfl) rfl (fun _ z=> by cases z)
@[simp] theorem A4Z:B9 oIx (.val (.lst xs)) (.val (.int i)) k=N6 xs i fun w=> k (.val w):=A4T (v:= .wv (.lst xs)) (fun _=> rfl) rfl (fun _ z=> by cases z)
@[simp] theorem B3n:B9 oIx (.own (.seq xs)) (.val (.int i)) k=N6 xs i fun w=> k (.val w):=A4T (v:= .cv (.seq xs)) (fun _=> rfl) rfl (fun _ z=> by cases z)
theorem z8 {k:W→MC} {w:W} (e:L2.atI xs i=some w):N6 xs i k=k w:=by unfold N6;rw [e]
@[simp] theorem A4o {k:W→MC} {w:W}:N6 (w::xs) 0 k=k w:=z8 B4e
@[simp] theorem A8M {k:W→MC} {w v:W}:N6 (w::v::xs) 1 k=k v:=z8 B4h
@[simp] theorem A4s {k:W→MC} {w v u:W}:N6 (w::v::u::xs) 2 k=k u:=z8 B4j
@[simp] theorem A4p {k:W→MC} {w v u t:W}:N6 (w::v::u::t::xs) 3 k=k t:=z8 (atI_nat (j:=3) rfl)
@[simp] theorem A8N {k:W→MC} {w v u t s:W}:N6 (w::v::u::t::s::xs) 4 k=k s:=z8 (atI_nat (j:=4) rfl)
theorem A2T {k:W→MC} {n:Nat} (hn:n < xs.length):N6 xs (n:Int) k=k xs[n]:=z8 (atI_nat (List.getElem?_eq_getElem hn))
theorem A7U {α:Type} {e:α→W} {l:List α} {k:W→MC} {n:Nat} (hn:n < l.length):N6 (l.map e) (n:Int) k=k (e l[n]):=by
  rw [A2T (by rw [List.length_map];exact hn),List.getElem_map]
@[simp] theorem A78 {l u:Option Int}:slc (.val (.tup xs)) l u k=k (.val (.tup (N4 xs l u))):=rfl
@[simp] theorem B4I {l u:Option Int}:slc (.val (.lst xs)) l u k=k (.own (.seq (N4 xs l u))):=rfl
@[simp] theorem B7e {l u:Option Int}:slc (.own (.seq xs)) l u k=k (.own (.seq (N4 xs l u))):=rfl
theorem B1d {n:Nat}:N4 xs (some (n:Int)) none=xs.drop n:=by
  unfold N4
  rw [HT.sIx_none,HT.sIx_nat]
  rcases Nat.le_total n xs.length with h | h
  · rw [Nat.min_eq_left h,List.take_of_length_le (by rw [List.length_drop];omega)]
  · rw [Nat.min_eq_right h,Nat.sub_self,List.take_zero,List.drop_eq_nil_of_le h]
section
variable {w:W} {k1:SV→W→MC}
theorem A7J {m:MC}:isq (.own (.seq xs)) m=m:=C2 trivial
@[simp] theorem B6I {m:CE}:B4z (.own (.seq xs)) m k=m fun y=> ext (.own (.seq xs)) y k:=A7J
@[simp] theorem B65:ext (.own (.seq xs)) (.own (.seq ys)) k=D2 (xs.length+ys.length≤sizeLine) (k (.own (.seq (xs++ys)))):=rfl
@[simp] theorem B2h {f:O6} {ma:B2}:lmC f (.own (.seq xs)) ma k1=ma fun ws=> lm f (.own (.seq xs)) ws k1:=A7J
@[simp] theorem B0N:lm Z7 (.own (.seq xs)) [w] k1=D2 (xs.length < sizeLine) (k1 (.own (.seq (xs++[w]))) .non):=rfl
theorem B2P {f:Int→Int→Int} {e:CE} {j:Nat} {a:Int} (h:xs[j]? =some (.int a)) (hj:j < 4611686018427387904):A20 f (.own (.seq xs)) (.val (.int (j:Int))) e k=e fun z=> I5 z fun b=> k (.own (.seq (xs.set j (.int (f a b))))):=by
  funext h' Q E
  show ((0≤(j:Int)∧(j:Int) < 2 ^ 62)∧(match xs[(j:Int).toNat]? with
    | some (.int a)=> e (fun z=> I5 z fun b=> k (.own (.seq (xs.set (j:Int).toNat (.int (f a b)))))) h' Q E
    | _=> False))=_
  rw [Int.toNat_natCast,h]
  refine propext ⟨fun q=> q.2,fun q=> ⟨⟨by omega,by omega⟩,q⟩⟩
end
@[simp] theorem V5:cb C4 [.val (.tup xs)] k=k (.val (.int xs.length)):=by
  funext h Q E;show C4 [.wv (.tup xs)] _=_;rw [A24];rfl
@[simp] theorem A36:cb C4 [.val (.lst xs)] k=k (.val (.int xs.length)):=by
  funext h Q E;show C4 [.wv (.lst xs)] _=_;rw [A24];rfl
@[simp] theorem B7X:cb C4 [.own (.seq xs)] k=k (.val (.int xs.length)):=by
  funext h Q E;show C4 [.cv (.seq xs)] _=_;rw [A24];rfl
@[simp] theorem A7o {x:Str}:cb C4 [.val (.str x)] k=D2 (x.length≤sizeLine) (k (.val (.int x.length))):=by
  funext h Q E;show C4 [.wv (.str x)] _=_;rw [A24];rfl
@[simp] theorem B6w {a:B2} {k:SV→MC}:B3h a k=a fun ws=> A8E ws k:=rfl
@[simp] theorem B7Z {kvs:List (W×W)} {a b:CW} {k:SV→MC}:B3g (.own (.map kvs)) a b k=a fun w=> b fun d=> A8w (.own (.map kvs)) w d k:=by
  funext h Q E
  exact propext ⟨fun z=> z.2,fun z=> ⟨⟨kvs,rfl⟩,z⟩⟩
@[simp] theorem B7n {m:CE} {k:W→MC}:w7 m k=m fun x=> A1R x k:=rfl
@[simp] theorem B7z {f:O6} {m:CE} {ma:B2} {k:MC}:lmE f m ma k=m fun x=> lmR f x ma k:=rfl
@[simp] theorem B7L:cb oBack [.val (.tup xs),.val (.int i)] k=D2 (i= -1) (k (.val (.tup xs.reverse))):=rfl
@[simp] theorem B7E:cb O5 [.val (.tup xs)] k=k (.val (.tup xs)):=by
  funext h Q E;show O5 [.wv (.tup xs)] _=_;rw [A4D];rfl
@[simp] theorem B7c:cb O5 [.val (.lst xs)] k=k (.val (.tup xs)):=by
  funext h Q E;show O5 [.wv (.lst xs)] _=_;rw [A4D];rfl
@[simp] theorem A7b:cb O5 [.own (.seq xs)] k=k (.val (.tup xs)):=by
  funext h Q E;show O5 [.cv (.seq xs)] _=_;rw [A4D];rfl
@[simp] theorem B6x:cb Q7 [.val (.tup xs)] k=k (.own (.seq xs)):=by
  funext h Q E;show Q7 [.wv (.tup xs)] _=_;rw [A4L];rfl
@[simp] theorem B67:cb Q7 [.val (.lst xs)] k=k (.own (.seq xs)):=by
  funext h Q E;show Q7 [.wv (.lst xs)] _=_;rw [A4L];rfl
@[simp] theorem B27:cb Q7 [.own (.seq xs)] k=k (.own (.seq xs)):=by
  funext h Q E;show Q7 [.cv (.seq xs)] _=_;rw [A4L];rfl
theorem B2p {a b:Int}:(if b < a then b else a)=min a b:=by rw [Int.min_def];split <;> split <;> omega
theorem B2o {a b:Int}:(if b > a then b else a)=max a b:=by rw [Int.max_def];split <;> split <;> omega
theorem B2f {a:Int}:(if a < 0 then -a else a)=(a.natAbs:Int):=by split <;> omega
@[simp] theorem B7K:cb B4D [.val (.int i),.val (.int j)] k=k (.val (.int (min i j))):=by
  rw [←B2p];rfl
@[simp] theorem B6y:cb B3u [.val (.int i),.val (.int j)] k=k (.val (.int (max i j))):=by
  rw [←B2o];rfl
@[simp] theorem B7k:cb B40 [.val (.int i)] k=k (.val (.int (i.natAbs:Int))):=by
  rw [←B2f];rfl
theorem A33 {as bs:List Int} (e:as.map W.int=bs.map W.int):as=bs:=by
  induction as generalizing bs with
  | nil=> cases bs with
    | nil=> rfl
    | cons _ _=> cases e
  | cons a as ih=> cases bs with
    | nil=> cases e
    | cons b bs=>
      rw [List.map_cons,List.map_cons] at e
      injection e with e1 e2
      injection e1 with e1
      rw [e1,ih e2]
theorem B2z {as bs:List Bool} (e:as.map W.bl=bs.map W.bl):as=bs:=by
  induction as generalizing bs with
  | nil=> cases bs with
    | nil=> rfl
    | cons _ _=> cases e
  | cons a as ih=> cases bs with
    | nil=> cases e
    | cons b bs=>
      rw [List.map_cons,List.map_cons] at e
      injection e with e1 e2
      injection e1 with e1
      rw [e1,ih e2]
theorem B1C {g:List Int→(RV→Prop)→Prop} {ns:List Int} {v:Vw} {Q:RV→Prop} (e:v.seq=some (ns.map W.int)):oInts g [v] Q=g ns Q:=by
  refine propext ⟨fun ⟨ms,e2,q⟩=> ?_,fun q=> ⟨ns,e,q⟩⟩
  rw [e] at e2
  rw [A33 (Option.some.inj e2)]
  exact q
theorem B1s {g:List Bool→Bool} {ns:List Bool} {v:Vw} {Q:RV→Prop} (e:v.seq=some (ns.map W.bl)):oBls g [v] Q=Q (.val (.bl (g ns))):=by
  refine propext ⟨fun ⟨ms,e2,q⟩=> ?_,fun q=> ⟨ns,e,q⟩⟩
  rw [e] at e2
  rw [B2z (Option.some.inj e2)]
  exact q
theorem A7u {g:List Bool→Bool} {ns:List Bool} {x:SV} {v:Vw} (e:∀h,G9 h x=v) (es:v.seq=some (ns.map W.bl)):cb (oBls g) [x] k=k (.val (.bl (g ns))):=by
  funext h Q E
  unfold cb
  rw [List.map_cons,List.map_nil,e,B1s es]
  rfl
theorem A7T {g:List Int→(RV→Prop)→Prop} {ns:List Int} {x:SV} {v:Vw} (e:∀h,G9 h x=v) (es:v.seq=some (ns.map W.int)):cb (oInts g) [x] k=fun h Q E=> g ns fun r=> U2 k r h Q E:=by
  funext h Q E
  unfold cb
  rw [List.map_cons,List.map_nil,e,B1C es]
theorem A4K {ns:List Int} {x:SV} {v:Vw} (e:∀h,G9 h x=v) (es:v.items=some (ns.map W.int)):cb A2w [x] k=k (.val (.int ns.sum)):=by
  funext h Q E
  unfold cb
  rw [List.map_cons,List.map_nil,e]
  refine propext ⟨fun ⟨ms,e2,q⟩=> ?_,fun q=> ⟨ns,es,q⟩⟩
  rw [es] at e2
  rw [A33 (Option.some.inj e2)]
  exact q
@[simp] theorem B5j {ns:List Int}:cb A7C [.own (.seq (ns.map W.int))] k=k (.own (.seq ((srt ns).map W.int))):=A7T (v:= .cv (.seq _)) (fun _=> rfl) rfl
@[simp] theorem B5T {ns:List Int}:cb A7C [.val (.lst (ns.map W.int))] k=k (.own (.seq ((srt ns).map W.int))):=A7T (v:= .wv (.lst _)) (fun _=> rfl) rfl
@[simp] theorem B6v {ns:List Int}:cb A2w [.own (.seq (ns.map W.int))] k=k (.val (.int ns.sum)):=A4K (v:= .cv (.seq _)) (fun _=> rfl) rfl
@[simp] theorem B7a {ns:List Int}:cb A2w [.val (.lst (ns.map W.int))] k=k (.val (.int ns.sum)):=A4K (v:= .wv (.lst _)) (fun _=> rfl) rfl
@[simp] theorem B7T {ns:List Int}:cb A2w [.val (.tup (ns.map W.int))] k=k (.val (.int ns.sum)):=A4K (v:= .wv (.tup _)) (fun _=> rfl) rfl
@[simp] theorem B7U {ns:List Bool}:cb B4U [.own (.seq (ns.map W.bl))] k=k (.val (.bl (ns.any id))):=A7u (v:= .cv (.seq _)) (fun _=> rfl) rfl
@[simp] theorem A7q {ns:List Bool}:cb A1T [.own (.seq (ns.map W.bl))] k=k (.val (.bl (ns.all id))):=A7u (v:= .cv (.seq _)) (fun _=> rfl) rfl
end
end
end Ab
namespace Ab
open PySem PySem.Spec PyProof.Rows L2 RZ
section
variable {Q:RR→AH→Prop} {E:AExc→AH→Prop} {h:AH} {α β σ:Type}
theorem B17 {n:Nat}:N3 0 n=(List.range n).map fun (i:Nat)=> W.int i:=by
  unfold N3
  simp
theorem A7r {e:α→W} {l:List α}:N5 (l.map e)=l.zipIdx.map fun p=> W.tup [.int (p.2:Int),e p.1]:=by
  refine List.ext_getElem (by simp [N5]) fun i h1 h2=> ?_
  have hi:i < l.length:=by simpa [N5] using h1
  simp [N5,List.getD_eq_getElem?_getD,hi]
section
variable {body:W→(Option W→MC)→MC} {k:List W→MC}
theorem A2i (e:α→W) (f:α→Option W):∀(l:List α) (acc:List W),(∀a∈l,∀kk,body (e a) kk=kk (f a))→acc.length+l.length≤sizeLine→R8 body k (l.map e) acc=k (acc++l.filterMap f)
  | [],acc,_,_=> by simp [R8]
  | a::l,acc,hb,hl=> by
    rw [List.length_cons] at hl
    show body (e a) _=_
    rw [hb a (by simp)]
    cases q:f a with
    | none=>
      show R8 body k (l.map e) acc=_
      rw [A2i e f l acc (fun b hb'=> hb b (by simp [hb'])) (by omega),List.filterMap_cons_none q]
    | some y=>
      show D2 _ _=_
      rw [C2 (by omega),A2i e f l (acc++[y]) (fun b hb'=> hb b (by simp [hb'])) (by rw [List.length_append,List.length_singleton];omega),List.filterMap_cons_some q]
      simp
theorem B2n (e:α→W) (g:α→W) (l:List α) (hb:∀a∈l,∀kk,body (e a) kk=kk (some (g a))) (hl:l.length≤sizeLine):R8 body k (l.map e) []=k (l.map g):=by
  rw [A2i e (fun a=> some (g a)) l [] hb (by simpa using hl)]
  congr 1
  rw [List.nil_append,List.filterMap_eq_map']
theorem B3T (e:α→W) (p:α→Bool) (g:α→W) (l:List α) (hb:∀a∈l,∀kk,body (e a) kk=if p a=true then kk (some (g a)) else kk none) (hl:l.length≤sizeLine):R8 body k (l.map e) []=k ((l.filter p).map g):=by
  rw [A2i e (fun a=> if p a=true then some (g a) else none) l [] (fun a ha kk=> by rw [hb a ha kk];split <;> rfl) (by simpa using hl)]
  congr 1
  rw [List.nil_append]
  induction l with
  | nil=> rfl
  | cons a l ih=>
    have ih:=ih (fun b hb'=> hb b (by simp [hb'])) (by rw [List.length_cons] at hl;omega)
    by_cases q:p a=true
    · rw [List.filterMap_cons_some (by rw [if_pos q]),List.filter_cons_of_pos q,List.map_cons,ih]
    · rw [List.filterMap_cons_none (by rw [if_neg q]),List.filter_cons_of_neg q,ih]
theorem A8Q (I:Nat→AH→Prop) (P:W→W→Prop):∀(ws acc:List W) (i:Nat) (h:AH),acc.length+ws.length≤sizeLine→I i h→
    (∀w∈ws,∀j h kk,j < i+ws.length→I j h→(∀y h',P w y→I (j+1) h'→kk (some y) h' Q E)→body w kk h Q E)→
    (∀ys h',All2 P ws ys→I (i+ws.length) h'→k (acc++ys) h' Q E)→R8 body k ws acc h Q E
  | [],acc,i,h,_,j,_,q=> by
    have z:=q [] h .nil (by simpa using j)
    simpa [R8] using z
  | w::ws,acc,i,h,hl,j,hb,q=> by
    rw [List.length_cons] at hl
    refine hb w (by simp) i h _ (by rw [List.length_cons];omega) j fun y h' py j'=> ⟨by omega,?_⟩
    refine A8Q I P ws (acc++[y]) (i+1) h' (by rw [List.length_append,List.length_singleton];omega) j' (fun v hv j h kk hj=> hb v (by simp [hv]) j h kk (by rw [List.length_cons];omega)) fun ys h2 ay j2=> ?_
    have z:=q (y::ys) h2 (.cons py ay) (by rw [List.length_cons];rwa [show i+(ws.length+1)=i+1+ws.length by omega])
    simpa using z
end
section
variable {body:W→σ→(σ→MC)→(σ→MC)→MC} {k:σ→MC}
theorem A7E {τ:Type} (e:α→W) (eS:τ→σ) (f:τ→α→τ) (I:Nat→τ→Prop):∀(l:List α) (t:τ) (i:Nat),I i t→(∀(j:Nat) a,l[j]? =some a→∀t,I (i+j) t→I (i+j+1) (f t a)∧∀kn,body (e a) (eS t) kn k=kn (eS (f t a)))→i6 body k (l.map e) (eS t)=k (eS (l.foldl f t))
  | [],t,i,_,_=> rfl
  | a::l,t,i,h0,hb=> by
    obtain ⟨i',hb'⟩:=hb 0 a rfl t h0
    show body (e a) (eS t) _ k=_
    rw [hb',A7E e eS f I l (f t a) (i+1) i' fun j b hj t hi=> ?_]
    · rfl
    · have z:=hb (j+1) b (by simpa using hj) t (by rwa [show i+(j+1)=i+1+j by omega])
      rwa [show i+(j+1)+1=i+1+j+1 by omega] at z
inductive Stp (σ:Type) where
  | go (s:σ) | out (m:MC)
theorem A6Y {body:W→Unit→(Unit→MC)→(Unit→MC)→MC} {k:Unit→MC} (e:α→W) (r:α→Option MC):∀(l:List α),(∀a∈l,∀kn,body (e a) () kn k=(r a).getD (kn ()))→i6 body k (l.map e) ()=(l.findSome? r).getD (k ())
  | [],_=> rfl
  | a::l,hb=> by
    show body (e a) () _ k=_
    rw [hb a (by simp)]
    cases q:r a with
    | some m=> simp [q]
    | none=>
      rw [List.findSome?_cons_of_isNone (by rw [q];rfl)]
      exact A6Y e r l fun b hb2=> hb b (by simp [hb2])
theorem B07 {body:W→Unit→(Unit→MC)→(Unit→MC)→MC} {k:Unit→MC} (ws:List W) (hb:∀w∈ws,∀kn,body w () kn k=kn ()):i6 body k ws ()=k ():=by
  induction ws with
  | nil=> rfl
  | cons w ws ih=>
    show body w () _ k=_
    rw [hb w (by simp)]
    exact ih fun v hv=> hb v (by simp [hv])
theorem A7e (I:List W→σ→AH→Prop) (h0:∀s h,I [] s h→k s h Q E) (hs:∀w ws s h kn,I (w::ws) s h→(∀s' h',I ws s' h'→kn s' h' Q E)→body w s kn k h Q E):∀ws s h,I ws s h→i6 body k ws s h Q E
  | [],s,h,i=> h0 s h i
  | w::ws,s,h,i=> hs w ws s h _ i fun s' h' i'=> A7e I h0 hs ws s' h' i'
end
end
mutual
def W.nb:Nat→W→Bool
  | _,.non=> true
  | _,.int _=> true
  | _,.str _=> true
  | n+1,.tup xs=> W.nbs n xs
  | n+1,.lst xs=> W.nbs n xs
  | _,_=> false
def W.nbs:Nat→List W→Bool
  | _,[]=> true
  | n,x::xs=> W.nb n x && W.nbs n xs
end
theorem W.nbs_of {n:Nat}:∀{xs:List W},(∀x∈xs,x.nb n=true)→W.nbs n xs=true
  | [],_=> rfl
  | x::xs,h=> by
    simp only [W.nbs,Bool.and_eq_true]
    exact ⟨h x (by simp),W.nbs_of fun y hy=> h y (by simp [hy])⟩
theorem W.nbs_mem {n:Nat}:∀{xs:List W},W.nbs n xs=true→∀x∈xs,x.nb n=true
  | [],_,x,h=> by cases h
  | y::ys,e,x,h=> by
    simp only [W.nbs,Bool.and_eq_true] at e
    rcases List.mem_cons.mp h with rfl | h
    · exact e.1
    · exact W.nbs_mem e.2 x h
theorem A7i {n:Nat} {i:Int}:(W.int i).nb n=true:=by cases n <;> rfl
theorem A74 {n:Nat} {xs:List W} (h:∀x∈xs,x.nb n=true):(W.tup xs).nb (n+1)=true:=W.nbs_of h
theorem B29 {n:Nat} {xs:List W} (h:∀x∈xs,x.nb n=true):(W.lst xs).nb (n+1)=true:=W.nbs_of h
theorem A66 {n:Nat} {xs:List Int}:∀x∈xs.map W.int,x.nb n=true:=fun x hx=> by
  obtain ⟨i,_,rfl⟩:=List.mem_map.mp hx
  exact A7i
theorem A38:∀{n:Nat} {w:W},w.nb n=true→w.dat n=true
  | 0,.non,_=> rfl
  | 0,.int _,_=> rfl
  | 0,.str _,_=> rfl
  | _+1,.non,_=> rfl
  | _+1,.int _,_=> rfl
  | _+1,.str _,_=> rfl
  | n+1,.tup xs,h=> by
    show xs.all (W.dat n)=true
    rw [List.all_eq_true]
    exact fun x hx=> A38 (W.nbs_mem h x hx)
  | n+1,.lst xs,h=> by
    show xs.all (W.dat n)=true
    rw [List.all_eq_true]
    exact fun x hx=> A38 (W.nbs_mem h x hx)
  | 0,.tup _,h=> by simp [W.nb] at h
  | 0,.lst _,h=> by simp [W.nb] at h
  | _,.bl _,h=> by simp [W.nb] at h
  | _,.dct _ _,h=> by simp [W.nb] at h
  | _,.ref _,h=> by simp [W.nb] at h
  | _,.ty _,h=> by simp [W.nb] at h
theorem A4B:∀{n m:Nat} {w:W},n≤m→w.dat n=true→w.dat m=true
  | _,0,.non,_,_=> rfl
  | _,0,.int _,_,_=> rfl
  | _,0,.str _,_,_=> rfl
  | _,0,.bl _,_,_=> rfl
  | _,_+1,.non,_,_=> rfl
  | _,_+1,.int _,_,_=> rfl
  | _,_+1,.str _,_,_=> rfl
  | _,_+1,.bl _,_,_=> rfl
  | 0,_,.tup _,_,h=> by simp [W.dat] at h
  | 0,_,.lst _,_,h=> by simp [W.dat] at h
  | n+1,m+1,.tup xs,l,h=> by
    have h:xs.all (W.dat n)=true:=h
    show xs.all (W.dat m)=true
    rw [List.all_eq_true] at h ⊢
    exact fun x hx=> A4B (by omega) (h x hx)
  | n+1,m+1,.lst xs,l,h=> by
    have h:xs.all (W.dat n)=true:=h
    show xs.all (W.dat m)=true
    rw [List.all_eq_true] at h ⊢
    exact fun x hx=> A4B (by omega) (h x hx)
  | _+1,0,.tup _,l,_=> by omega
  | _+1,0,.lst _,l,_=> by omega
  | _,_,.dct _ _,_,h=> by simp [W.dat] at h
  | _,_,.ref _,_,h=> by simp [W.dat] at h
  | _,_,.ty _,_,h=> by simp [W.dat] at h
def W.plain (w:W):Prop:=∃n,n≤60∧w.nb n=true
@[simp] theorem A2U {i:Int}:(W.int i).plain:=⟨0,by omega,rfl⟩
@[simp] theorem A1A {i:Str}:(W.str i).plain:=⟨0,by omega,rfl⟩
@[simp] theorem B7C:W.non.plain:=⟨0,by omega,rfl⟩
theorem B2m (n:Nat) (hn:n < 60) {xs:List W} (h:∀x∈xs,x.nb n=true):(W.tup xs).plain:=⟨n+1,hn,A74 h⟩
theorem A4C (n:Nat) (hn:n < 60) {xs:List W} (h:∀x∈xs,x.nb n=true):(W.lst xs).plain:=⟨n+1,hn,B29 h⟩
@[simp] theorem A2J {xs:List Int}:(W.tup (xs.map W.int)).plain:=B2m 0 (by omega) A66
@[simp] theorem B5i {xs:List Int}:(W.lst (xs.map W.int)).plain:=A4C 0 (by omega) A66
mutual
theorem eqw_nb:∀(n:Nat) (a b:W) (m:Nat),a.nb n=true→b.nb m=true→(F8 a b=true↔a=b)
  | _,.non,.non,_,_,_=> by simp [F8,W.pd,PyData.eqv]
  | _,.non,.int _,_,_,_=> by simp [F8,W.pd,PyData.eqv]
  | _,.non,.str _,_,_,_=> by simp [F8,W.pd,PyData.eqv]
  | _,.non,.tup _,_,_,_=> by simp [F8,W.pd,PyData.eqv]
  | _,.non,.lst _,_,_,_=> by simp [F8,W.pd,PyData.eqv]
  | _,.int _,.non,_,_,_=> by simp [F8,W.pd,PyData.eqv]
  | _,.int _,.int _,_,_,_=> by simp [F8,W.pd,PyData.eqv]
  | _,.int _,.str _,_,_,_=> by simp [F8,W.pd,PyData.eqv]
  | _,.int _,.tup _,_,_,_=> by simp [F8,W.pd,PyData.eqv]
  | _,.int _,.lst _,_,_,_=> by simp [F8,W.pd,PyData.eqv]
  | _,.str _,.non,_,_,_=> by simp [F8,W.pd,PyData.eqv]
  | _,.str _,.int _,_,_,_=> by simp [F8,W.pd,PyData.eqv]
  | _,.str _,.str _,_,_,_=> by simp [F8,W.pd,PyData.eqv]
  | _,.str _,.tup _,_,_,_=> by simp [F8,W.pd,PyData.eqv]
  | _,.str _,.lst _,_,_,_=> by simp [F8,W.pd,PyData.eqv]
  | _,.tup _,.non,_,_,_=> by simp [F8,W.pd,PyData.eqv]
  | _,.tup _,.int _,_,_,_=> by simp [F8,W.pd,PyData.eqv]
  | _,.tup _,.str _,_,_,_=> by simp [F8,W.pd,PyData.eqv]
  | n+1,.tup xs,.tup ys,m+1,h,g=> by
    have z:=eqws_nb n xs ys m h g
    show PyData.eqvAll (W.pds xs) (W.pds ys)=true↔_
    rw [z]
    simp
  | _,.tup _,.lst _,_,_,_=> by simp [F8,W.pd,PyData.eqv]
  | _,.lst _,.non,_,_,_=> by simp [F8,W.pd,PyData.eqv]
  | _,.lst _,.int _,_,_,_=> by simp [F8,W.pd,PyData.eqv]
  | _,.lst _,.str _,_,_,_=> by simp [F8,W.pd,PyData.eqv]
  | _,.lst _,.tup _,_,_,_=> by simp [F8,W.pd,PyData.eqv]
  | n+1,.lst xs,.lst ys,m+1,h,g=> by
    have z:=eqws_nb n xs ys m h g
    show PyData.eqvAll (W.pds xs) (W.pds ys)=true↔_
    rw [z]
    simp
  | 0,.tup _,.tup _,_,h,_=> by simp [W.nb] at h
  | _,.tup _,.tup _,0,_,h=> by simp [W.nb] at h
  | 0,.lst _,.lst _,_,h,_=> by simp [W.nb] at h
  | _,.lst _,.lst _,0,_,h=> by simp [W.nb] at h
  | _,.bl _,_,_,h,_=> by simp [W.nb] at h
  | _,.dct _ _,_,_,h,_=> by simp [W.nb] at h
  | _,.ref _,_,_,h,_=> by simp [W.nb] at h
  | _,.ty _,_,_,h,_=> by simp [W.nb] at h
  | _,_,.bl _,_,_,h=> by simp [W.nb] at h
  | _,_,.dct _ _,_,_,h=> by simp [W.nb] at h
  | _,_,.ref _,_,_,h=> by simp [W.nb] at h
  | _,_,.ty _,_,_,h=> by simp [W.nb] at h
theorem eqws_nb:∀(n:Nat) (xs ys:List W) (m:Nat),W.nbs n xs=true→W.nbs m ys=true→(PyData.eqvAll (W.pds xs) (W.pds ys)=true↔xs=ys)
  | _,[],[],_,_,_=> by simp [W.pds,PyData.eqvAll]
  | _,[],_::_,_,_,_=> by simp [W.pds,PyData.eqvAll]
  | _,_::_,[],_,_,_=> by simp [W.pds,PyData.eqvAll]
  | n,x::xs,y::ys,m,h,g=> by
    simp only [W.nbs,Bool.and_eq_true] at h g
    have z1:=eqw_nb n x y m h.1 g.1
    have z2:=eqws_nb n xs ys m h.2 g.2
    simp only [W.pds,PyData.eqvAll,Bool.and_eq_true]
    rw [z2,show PyData.eqv x.pd y.pd=F8 x y from rfl,z1]
    simp
end
def SV.pl (x:SV):Prop:=match x with
  | .val w=> w.plain
  | .own c=> c.fz.plain
theorem A6G {w:W} (h:w.plain) (k:AH):viewW k w= .wv w:=by
  obtain ⟨n,_,h⟩:=h
  cases w with
  | ref a=> simp [W.nb] at h
  | _=> rfl
theorem p8 {x:SV} (h:x.pl) (k:AH):(G9 k x).toW=x.fz∧G9 k x≠ .bad∧x.fz.plain:=by
  cases x with
  | val w=>
    have h:w.plain:=h
    refine ⟨by show (viewW k w).toW=w;rw [A6G h];rfl,by show viewW k w≠ .bad;rw [A6G h];exact (fun z=> nomatch z),h⟩
  | own c=> exact ⟨rfl,(fun z=> nomatch z),h⟩
theorem B0n {w:W} (h:w.plain):w.dat 60=true:=by
  obtain ⟨n,hn,h⟩:=h
  exact A4B hn (A38 h)
theorem A6e {x:SV} (h:x.pl) (k:AH):(G9 k x).ok=true:=by
  obtain ⟨a,b,c⟩:=p8 h k
  have d:=B0n c
  cases e:G9 k x with
  | bad=> exact absurd e b
  | wv w=> rw [e] at a;show w.dat 60=true;rw [show w=x.fz from a];exact d
  | cv w=> rw [e] at a;show w.fz.dat 60=true;rw [show w.fz=x.fz from a];exact d
theorem A43 {x y:SV} {neg:Bool} {k:SV→MC} (hx:x.pl) (hy:y.pl):B9 (C6 neg) x y k=k (.val (.bl (if neg=true then !F8 x.fz y.fz else F8 x.fz y.fz))):=by
  funext h Q E
  unfold B9 C6
  rw [(p8 hx h).1,(p8 hy h).1]
  refine propext ⟨fun z=> z.2.2,fun z=> ⟨A6e hx h,A6e hy h,z⟩⟩
noncomputable instance:DecidableEq W:=fun _ _=> Classical.propDecidable _
theorem sp {w:W} (h:w.plain):SV.pl (.val w):=h
theorem so {c:Cont} (h:c.fz.plain):SV.pl (.own c):=h
theorem A8i {x y:SV} {k:Bool→MC} (hx:x.pl) (hy:y.pl):(B9 (C6 false) x y fun r=> T0 r k)=k (decide (x.fz=y.fz)):=by
  rw [A43 hx hy]
  obtain ⟨_,_,n,_,hn⟩:=p8 hx (fun _=> none)
  obtain ⟨_,_,m,_,hm⟩:=p8 hy (fun _=> none)
  have z:=eqw_nb n x.fz y.fz m hn hm
  have:F8 x.fz y.fz=decide (x.fz=y.fz):=by
    by_cases q:x.fz=y.fz
    · rw [z.mpr q,decide_eq_true q]
    · have q':=mt z.mp q
      rw [decide_eq_false q]
      simpa using q'
  rw [this]
  rfl
theorem A22 {x y:SV} {k:SV→MC} (hx:x.pl) (hy:y.pl):B9 (C6 false) x y k=k (.val (.bl (decide (x.fz=y.fz)))):=by
  rw [A43 hx hy]
  obtain ⟨_,_,n,_,hn⟩:=p8 hx (fun _=> none)
  obtain ⟨_,_,m,_,hm⟩:=p8 hy (fun _=> none)
  have z:=eqw_nb n x.fz y.fz m hn hm
  have:F8 x.fz y.fz=decide (x.fz=y.fz):=by
    by_cases q:x.fz=y.fz
    · rw [z.mpr q,decide_eq_true q]
    · have q':=mt z.mp q
      rw [decide_eq_false q]
      simpa using q'
  rw [this]
  rfl
theorem A4t {x y:SV} {k:SV→MC} (hx:x.pl) (hy:y.pl):B9 (C6 true) x y k=k (.val (.bl (!decide (x.fz=y.fz)))):=by
  have z:=A22 (k:=fun r=> match r with
    | .val (.bl b)=> k (.val (.bl (!b)))
    | _=> bad) hx hy
  rw [A43 hx hy] at z ⊢
  exact z
theorem y9 {p q:Prop} [Decidable p] [Decidable q] (h:p↔q):decide p=decide q:=decide_eq_decide.mpr h
section
variable {k:SV→MC} {i j:Int} {a b:Str} {as bs:List Int} {xs:List W}
@[simp] theorem A4b:B9 (C6 false) (.val (.int i)) (.val (.int j)) k=k (.val (.bl (decide (i=j)))):=by
  rw [A22 (sp A2U) (sp A2U),y9 (q:=i=j) (by simp)]
@[simp] theorem A0L:B9 (C6 true) (.val (.int i)) (.val (.int j)) k=k (.val (.bl (!decide (i=j)))):=by
  rw [A4t (sp A2U) (sp A2U),y9 (q:=i=j) (by simp)]
@[simp] theorem A4U:B9 (C6 false) (.val (.str a)) (.val (.str b)) k=k (.val (.bl (decide (a=b)))):=by
  rw [A22 (sp A1A) (sp A1A),y9 (q:=a=b) (by simp)]
@[simp] theorem B7R:B9 (C6 true) (.val (.str a)) (.val (.str b)) k=k (.val (.bl (!decide (a=b)))):=by
  rw [A4t (sp A1A) (sp A1A),y9 (q:=a=b) (by simp)]
theorem A6j:W.tup (as.map W.int)=W.tup (bs.map W.int)↔as=bs:=⟨fun e=> by injection e with e;exact A33 e,fun e=> by rw [e]⟩
@[simp] theorem B7s:B9 (C6 false) (.val (.tup (as.map W.int))) (.val (.tup (bs.map W.int))) k=k (.val (.bl (decide (as=bs)))):=by
  rw [A22 (sp A2J) (sp A2J),D4,D4,y9 (q:=as=bs) A6j]
@[simp] theorem B3a:B9 (C6 true) (.val (.tup (as.map W.int))) (.val (.tup (bs.map W.int))) k=k (.val (.bl (!decide (as=bs)))):=by
  rw [A4t (sp A2J) (sp A2J),D4,D4,y9 (q:=as=bs) A6j]
theorem V3 {w:W} {neg:Bool} (hv:∀h,viewW h w= .wv w):B9 (H9 neg) (.val w) (.val .non) k=k (.val (.bl (if neg then !(Vw.wv w).isNon else (Vw.wv w).isNon))):=by
  funext h Q E
  show H9 neg (viewW h w) (.wv .non) _=_
  rw [hv,B4O]
  refine propext ⟨fun z=> z.2,fun z=> ⟨(fun e=> nomatch e),z⟩⟩
@[simp] theorem A6x:B9 (H9 false) (.val .non) (.val .non) k=k (.val (.bl true)):=V3 (fun _=> rfl)
@[simp] theorem A6y:B9 (H9 false) (.val (.int i)) (.val .non) k=k (.val (.bl false)):=V3 (fun _=> rfl)
@[simp] theorem A7N:B9 (H9 false) (.val (.str a)) (.val .non) k=k (.val (.bl false)):=V3 (fun _=> rfl)
@[simp] theorem B2W:B9 (H9 false) (.val (.tup xs)) (.val .non) k=k (.val (.bl false)):=V3 (fun _=> rfl)
@[simp] theorem B2E:B9 (H9 false) (.val (.lst xs)) (.val .non) k=k (.val (.bl false)):=V3 (fun _=> rfl)
@[simp] theorem B1e:B9 (H9 true) (.val .non) (.val .non) k=k (.val (.bl false)):=V3 (fun _=> rfl)
@[simp] theorem B5f:B9 (H9 true) (.val (.int i)) (.val .non) k=k (.val (.bl true)):=V3 (fun _=> rfl)
@[simp] theorem B5m:B9 (H9 true) (.val (.str a)) (.val .non) k=k (.val (.bl true)):=V3 (fun _=> rfl)
@[simp] theorem B5r:B9 (H9 true) (.val (.tup xs)) (.val .non) k=k (.val (.bl true)):=V3 (fun _=> rfl)
@[simp] theorem B5Y:B9 (H9 true) (.val (.lst xs)) (.val .non) k=k (.val (.bl true)):=V3 (fun _=> rfl)
end
end Ab
namespace Ab
open PySem PySem.Spec PyProof.Rows L2 RZ
abbrev CL:=(Addr→List W→MC)→MC
def A1O (mw:B2):CL:=fun k h Q E=> ∀f:Addr,mw (fun ws=> k f (.ref f::ws)) h Q E
def B4A (a:CW) (u:CL):CL:=fun k=> a fun w=> u fun f ws=> k f (w::ws)
def w4 (b:CE):List W→MC
  | []=> b ret
  | _=> bad
def B4s (b:W→CE):List W→MC
  | [w]=> b w ret
  | _=> bad
def z9 (m:Addr→List W→MC) (l:CL):CE:=fun k=> l fun f ws=> call (m f ws) k
section
variable {Q:RR→AH→Prop} {E:AExc→AH→Prop} {env:A0} {h:AH} {k:SV→MC}
@[simp] theorem B0Y {m:Addr→List W→MC} {l:CL}:z9 m l k=l fun f ws=> call (m f ws) k:=rfl
@[simp] theorem B5u {a:CW} {u:CL} {k:Addr→List W→MC}:B4A a u k=a fun w=> u fun f ws=> k f (w::ws):=rfl
@[simp] theorem B1P {b:CE}:w4 b []=b ret:=rfl
@[simp] theorem B5n {b:W→CE} {w:W}:B4s b [w]=b w ret:=rfl
def SL (Q:RR→AH→Prop) (E:AExc→AH→Prop) (env:A0) (t:m9) (m:CL):Prop:=∀h (k:Addr→List W→MC) (K:Addr→List W→A0→AH→Prop),(∀f ws h',k f ws h' Q E→K f ws env h')→m k h Q E→t env h K
theorem A2P {ta:B7} {ma:B2} (a:SA Q E env ta ma):SL Q E env (s4 ta) (A1O ma):=fun h k K hk z f=> a h _ _ (fun ws h1 y=> hk _ _ _ y) (z f)
theorem B24 {E':AExc→A0→AH→Prop} {i:Nat} {f:Addr} {sp:C0} {ML:List W→MC} {ta:B7} {ma:B2} (hE:∀x h,E x h→E' x env h) (hs:∀ws h Q E,upc ML ws h Q E→sp ws h Q E) (e:env[i]? =some (some (.val (.ref f)))) (a:SA Q E env ta ma):SN Q E env (A5F E' i f sp ta) (F4 ML ma):=fun h k K hk z=>
  ⟨e,a h _ _ (fun ws h1 z=> hs _ _ _ _ (A3z hk hE z)) z⟩
theorem A12 {E':AExc→A0→AH→Prop} {n m:Nat} {tc:Addr→C0→(AExc→A0→AH→Prop)→B4} {tb:(AExc→A0→AH→Prop)→AT} {tl:m9} {ml:CL} {mm:Addr→List W→MC} {ML:List W→MC} (hE:∀x h,E x h→E' x env h)
    (hz:∀(f:Addr) (sp:C0),(∀ws h Q E,upc ML ws h Q E→sp ws h Q E)→∀ws h Qa Ea,ws.length=n→upc (mm f) ws h Qa Ea→tc f sp (C7 Ea) (C1 Qa) (G2 m ws) h)
    (hb:∀ws h Q E,upc ML ws h Q E→A0J tb env ws h Q E) (a:SL Q E env tl ml):SN Q E env (y8 E' n m tc tb tl) (z9 mm ml):=fun h k K hk z=>
  a h _ _ (fun f ws h1 z=> ⟨fun r h2=> k r.sv h2 Q E,E,fun r h2 z=> by cases r <;> exact hk _ _ z,fun x h2 z=> hE x h2 z,fun l=> hz f _ hb _ _ _ _ l ⟨_,_,fun _ _ z=> z,fun _ _ z=> z,z⟩⟩) z
theorem A2G {tb:(AExc→A0→AH→Prop)→AT} {b:CE} (s:∀(Q:RR→AH→Prop) (E:AExc→AH→Prop) (E':AExc→A0→AH→Prop),(∀env x h,E x h→E' x env h)→SE Q E (t0 env []) (tb E') b):∀ws h Q E,upc (w4 b) ws h Q E→A0J tb env ws h Q E:=fun ws h Qa Ea ⟨Q0,E0,hQ,hE,z⟩=> by
  match ws with
  | []=> exact ⟨C7 Ea,fun _ _ _ z=> z,s Q0 E0 (C7 Ea) (P5 hE) h ret _ (fun r x h' rl q=> P4 hQ r x _ h' rl q) z⟩
  | _::_=> exact z.elim
def A2k (x word:Str) (fs:List Str) (ma:B2):MC:=ma fun ws=> T5 ⟨x,initF (W.str word) fs ws⟩
@[simp] theorem B1O {x word:Str} {fs:List Str} {ma:B2}:A2k x word fs ma=ma fun ws=> T5 ⟨x,initF (W.str word) fs ws⟩:=rfl
theorem A6a {E':AExc→A0→AH→Prop} {D:AEnds} {x word:Str} {fs:List Str} {ta:B7} {ma:B2} (hE:∀x h,E x h→E' x env h) (a:SA Q E env ta ma):∀h,A2k x word fs ma h Q E→A2Z E' x word fs ta D env h:=fun h z=>
  a h (fun ws=> T5 ⟨x,initF (W.str word) fs ws⟩) (fun ws env1 h1=> E' ⟨x,initF (W.str word) fs ws⟩ env1 h1) (fun ws h1 y=> hE _ _ y) z
def A1B (ks:List Str):List (Str×XT)→(W→MC)→AExc→MC
  | [],_,x=> T5 x
  | (c,sv)::r,k,x=> fun h Q E=> x.n∈ks∧if d8 x.n c=true then sv x (fun w=> k w h Q E) else A1B ks r k x h Q E
def A3H (b:(W→MC)→MC) (k:W→MC) (hd:(W→MC)→AExc→MC):MC:=fun h Q E=> b (fun s h' _ _=> k s h' Q E) h Q fun x h'=> hd k x h' Q E
theorem B1D {b:(W→MC)→MC} {k:W→MC} {hd:(W→MC)→AExc→MC} {w:W} (e:∀kk:W→MC,b kk=kk w):A3H b k hd=k w:=by
  funext h Q E
  show b _ h Q _=_
  rw [e]
inductive MonoL2:List (Str×XT)→Prop where
  | nil:MonoL2 []
  | cons {c:Str} {sv:XT} {l:List (Str×XT)} (m:A4h sv) (t:MonoL2 l):MonoL2 ((c,sv)::l)
theorem B2x {f:Str}:A4h (A1V f):=fun x K K' k ⟨w,e,q⟩=> ⟨w,e,k _ q⟩
theorem A6b {E':AExc→A0→AH→Prop} {D:AEnds} {ks:List Str} {i j:Nat} {k:W→MC} (hi:i < env.length) (N:∀w h,k w h Q E→D.nx ((env.set j (some (.val w))).set i none) h) (hE:∀x h,E x h→E' x env h):
    ∀{l:List (Str×XT)},MonoL2 l→∀x h,A1B ks l k x h Q E→t9 ks (l.map fun p=> (p.1,i,j,p.2)) E' D x env h
  | _,.nil,x,h,z=> hE x h z
  | _,.cons m t,x,h,z=> by
    obtain ⟨z1,z2⟩:=z
    refine ⟨z1,hi,?_⟩
    split at z2
    · rename_i b
      rw [if_pos b]
      exact m x _ _ (fun w y=> N w h y) z2
    · rename_i b
      rw [if_neg b]
      exact A6b hi N hE t x h z2
theorem B23 {E':AExc→A0→AH→Prop} {D:AEnds} {ks:List Str} {i j:Nat} {k:W→MC} {b:(W→MC)→MC} {l:List (Str×XT)} {t:(AExc→A0→AH→Prop)→B4} (no:A2r env=true) (hi:i < env.length) (ml:MonoL2 l) (hE:∀x h,E x h→E' x env h)
    (N:∀w h,k w h Q E→D.nx ((env.set j (some (.val w))).set i none) h)
    (hb:∀(E2:AExc→AH→Prop) (Ein:AExc→A0→AH→Prop) (hz:∀x h,E2 x h→Ein x env h) (kk:W→MC),(∀w h,kk w h Q E2→D.nx ((env.set j (some (.val w))).set i none) h)→∀h,b kk h Q E2→t Ein D env h):
    ∀h,A3H b k (A1B ks l) h Q E→A5G ks (l.map fun p=> (p.1,i,j,p.2)) E' t D env h:=fun h z=>
  ⟨no,fun x e g=> t9 ks (l.map fun p=> (p.1,i,j,p.2)) E' D x e g,fun _ _ _ y=> y,hb (fun x h'=> A1B ks l k x h' Q E) _ (fun x h' y=> A6b hi N hE ml x h' y) (fun s h' _ _=> k s h' Q E) (fun w h' y=> N w h' y) h z⟩
end
end Ab
namespace Ab
open PySem PySem.Spec PyProof.Rows L2 RZ
section
variable {Q:RR→AH→Prop} {E:AExc→AH→Prop} {env:A0} {D:AEnds}
end
def getT (x:SV) (w:W) (k:SV→MC):MC:=fun h Q E=> ∃(l:List (List Int×W)) (ns:List Int) (v:W),x= .own (.map (A0Z l))∧w= .tup (ns.map .int)∧A1G l ns=some v∧k (.val v) h Q E
section
variable {Q:RR→AH→Prop} {E:AExc→AH→Prop} {env:A0} {D:AEnds} {k:SV→MC} {h:AH}
end
end Ab
namespace Ab
open PySem PySem.Spec PyProof.Rows L2 RZ
def B4H:E9:=oII A8L fun i j=> .int (i ^ j.toNat)
section
variable {i j:Int} {k:SV→MC}
@[simp] theorem B61:B9 B4H (.val (.int i)) (.val (.int j)) k=D2 (A8L i j) (k (.val (.int (i ^ j.toNat)))):=rfl
end
def idx (x:SV) (ws:List W) (k:SV→MC):MC:=fun h Q E=> oIndexW (G9 h x) ws fun r=> U2 k r h Q E
def A3B (x:SV) (m:MC):MC:=fun h Q E=> (∃ns:List Int,(G9 h x).seq=some (ns.map W.int))∧m h Q E
def B4Y (a:CE) (ma:B2):CE:=fun k=> a fun x=> A3B x (ma fun ws=> idx x ws k)
section
variable {Q:RR→AH→Prop} {E:AExc→AH→Prop} {env:A0} {t:AT} {m:CE} {ta:B7} {ma:B2} {k:SV→MC} {ns:List Int} {x:Int}
@[simp] theorem B73 {a:CE}:B4Y a ma k=a fun x=> A3B x (ma fun ws=> idx x ws k):=rfl
@[simp] theorem B5e {m:MC}:A3B (.own (.seq (ns.map W.int))) m=m:=by
  funext h Q E
  exact propext ⟨fun z=> z.2,fun z=> ⟨⟨ns,rfl⟩,z⟩⟩
@[simp] theorem B5Z {m:MC}:A3B (.val (.lst (ns.map W.int))) m=m:=by
  funext h Q E
  exact propext ⟨fun z=> z.2,fun z=> ⟨⟨ns,rfl⟩,z⟩⟩
end
def j3 (n0 m0:Nat) (perm:List Nat) (ds us ws:List W) (k:List W→MC):MC:=D2 (us.length=n0∧ws.length=m0) (k (perm.map fun i=> (us++(ws++ds)).getD i .non))
def wMx (n0 m0:Nat) (perm:List Nat) (ds:List W) (a b:B2):B2:=fun k=> a fun us=> b fun ws=> j3 n0 m0 perm ds us ws k
@[simp] theorem B7u {n0 m0:Nat} {perm:List Nat} {ds:List W} {a b:B2} {k:List W→MC}:wMx n0 m0 perm ds a b k=a fun us=> b fun ws=> j3 n0 m0 perm ds us ws k:=rfl
theorem A0C {n0 m0:Nat} {perm:List Nat} {ds us ws:List W} {k:List W→MC} (h:us.length=n0∧ws.length=m0):j3 n0 m0 perm ds us ws k=k (perm.map fun i=> (us++(ws++ds)).getD i .non):=C2 h
section
variable {Q:RR→AH→Prop} {E:AExc→AH→Prop} {env:A0} {ta tb:B7} {ma mb:B2}
end
theorem A7R {neg x y:Bool} {k:SV→MC}:B9 (A45 neg) (.val (.bl x)) (.val (.bl y)) k=k (.val (.bl (if neg then !decide (x=y) else decide (x=y)))):=by
  funext h Q E
  refine propext ⟨fun ⟨u,v,e1,e2,q⟩=> ?_,fun q=> ⟨x,y,rfl,rfl,q⟩⟩
  cases e1
  cases e2
  exact q
@[simp] theorem B7j {x y:Bool} {k:SV→MC}:B9 (A45 false) (.val (.bl x)) (.val (.bl y)) k=k (.val (.bl (decide (x=y)))):=A7R
@[simp] theorem B7N {x y:Bool} {k:SV→MC}:B9 (A45 true) (.val (.bl x)) (.val (.bl y)) k=k (.val (.bl (!decide (x=y)))):=A7R
section
variable {a b c d e f x:W} {k:List W→MC}
@[simp] theorem B7I:j3 3 2 [0,1,2,3,4] [] [a,b,c] [d,e] k=k [a,b,c,d,e]:=by rw [A0C (by exact ⟨rfl,rfl⟩)];rfl
@[simp] theorem B6a:j3 3 2 [0,1,2,4,3] [] [a,b,c] [d,e] k=k [a,b,c,e,d]:=by rw [A0C (by exact ⟨rfl,rfl⟩)];rfl
@[simp] theorem B7A:j3 0 5 [4,3,2,1,0] [] [] [a,b,c,d,e] k=k [e,d,c,b,a]:=by rw [A0C (by exact ⟨rfl,rfl⟩)];rfl
@[simp] theorem B64:j3 3 1 [0,1,2,3,4] [x] [a,b,c] [d] k=k [a,b,c,d,x]:=by rw [A0C (by exact ⟨rfl,rfl⟩)];rfl
@[simp] theorem B7d:j3 4 2 [0,1,2,3,4,5] [] [a,b,c,d] [e,f] k=k [a,b,c,d,e,f]:=by rw [A0C (by exact ⟨rfl,rfl⟩)];rfl
@[simp] theorem B57:j3 0 5 [4,3,2,1,0,5] [x] [] [a,b,c,d,e] k=k [e,d,c,b,a,x]:=by rw [A0C (by exact ⟨rfl,rfl⟩)];rfl
end
def A3J (x:SV) (k:SV→MC):MC:=fun h Q E=> ∃xs,(G9 h x).seq=some xs∧k (.own (.seq xs.reverse)) h Q E
def B4N (a:CE):CE:=fun k=> a fun x=> A3J x k
section
variable {Q:RR→AH→Prop} {E:AExc→AH→Prop} {env:A0} {t:AT} {m:CE} {k:SV→MC} {xs:List W}
@[simp] theorem B6z {a:CE}:B4N a k=a fun x=> A3J x k:=rfl
@[simp] theorem B5c:A3J (.own (.seq xs)) k=k (.own (.seq xs.reverse)):=by
  funext h Q E
  exact propext ⟨fun ⟨ys,e,z⟩=> by cases e;exact z,fun z=> ⟨xs,rfl,z⟩⟩
@[simp] theorem B5V:A3J (.val (.lst xs)) k=k (.own (.seq xs.reverse)):=by
  funext h Q E
  exact propext ⟨fun ⟨ys,e,z⟩=> by cases e;exact z,fun z=> ⟨xs,rfl,z⟩⟩
end
end Ab
namespace Ab
open PySem PySem.Spec PyProof.Rows L2 RZ
def A7t (w:W) (k:SV→MC):MC:=fun h Q E=> oLenSet [.wv w] fun r=> U2 k r h Q E
def B2D (mk:CW):CE:=fun k=> mk fun w=> A7t w k
section
variable {Q:RR→AH→Prop} {E:AExc→AH→Prop} {env:A0} {t:B5} {mk:CW} {k:SV→MC} {ns:List Int} {h:AH}
@[simp] theorem B5R:B2D mk k=mk fun w=> A7t w k:=rfl
end
def pr3 (ws:List W) (k:W→W→W→MC):MC:=match ws with
  | [a,b,c]=> k a b c
  | _=> bad
def B3Z (ma:B2) (k:W→W→W→MC):MC:=ma fun ws=> pr3 ws k
@[simp] theorem B6s {a:B2} {k:W→W→W→MC}:B3Z a k=a fun ws=> pr3 ws k:=rfl
@[simp] theorem B70 {x y z:W} {k:W→W→W→MC}:pr3 [x,y,z] k=k x y z:=rfl
end Ab
namespace Ab
open PySem PySem.Spec PyProof.Rows L2 RZ
def A8n (n f:Str) (x:SV) (k:SV→MC):MC:=fun h Q E=> match x with
  | .val (.ref a)=> ∃fs w,h a=some (.ins n fs)∧fs.lookup f=some w∧k (.val w) h Q E
  | _=> False
def B4u (n f:Str) (m:CE):CE:=fun k=> m fun x=> A8n n f x k
def d7 (n f:Str) (x:SV) (w:W) (k:MC):MC:=fun h Q E=> match x with
  | .val (.ref a)=> ∃fs,h a=some (.ins n fs)∧fs.length < 1000∧k (C9 h a (.ins n (w5 f w fs))) Q E
  | _=> False
def c7 (n f:Str) (mv:CW) (m:CE) (k:MC):MC:=mv fun w=> m fun x=> d7 n f x w k
def B4r (n f:Str) (mv:CW) (m:W→CE) (k:W→MC):MC:=mv fun w=> un2 w fun a b=> m a fun x=> d7 n f x b (k a)
def ffC (n f n2 g:Str) (mv:CW) (m m2:CE) (k:MC):MC:=mv fun w=> un2 w fun a b=> m fun x=> d7 n f x a (m2 fun y=> d7 n2 g y b k)
def m8 (C nm:Str) (x:SV) (k:Addr→MC):MC:=fun h Q E=> match x with
  | .val (.ref a)=> (∃fs,h a=some (.ins C fs)∧fs.lookup nm=none)∧k a h Q E
  | _=> False
def B3w (C nm:Str) (f:List W→MC) (mo:CE) (ma:B2):CE:=fun k=> mo fun x=> m8 C nm x fun a=> ma fun ws=> call (f (.ref a::ws)) k
def B2r (C nm:Str) (f:List W→MC) (mo:CE) (ma:B2):CE:=fun k=> mo fun x=> m8 C nm x fun a=> ma fun ws=> call0 (f (.ref a::ws)) k
def mxW (n0 m0:Nat) (P:List Nat) (ds us zs:List W) (k:List W→MC):MC:=D2 (us.length=n0∧zs.length=m0) (k (P.map fun i=> (us++(zs++ds)).getD i .non))
def B3H (C nm:Str) (f:List W→MC) (n0 m0:Nat) (P:List Nat) (ds:List W) (mo:CE) (ma mk:B2):CE:=fun k=> mo fun x=> m8 C nm x fun a=> ma fun ws=> mk fun zs=> mxW (n0+1) m0 P ds (.ref a::ws) zs fun vs=> call (f vs) k
def B18 (C nm:Str) (f:List W→MC) (n0 m0:Nat) (P:List Nat) (ds:List W) (mo:CE) (ma mk:B2):CE:=fun k=> mo fun x=> m8 C nm x fun a=> ma fun ws=> mk fun zs=> mxW (n0+1) m0 P ds (.ref a::ws) zs fun vs=> call0 (f vs) k
def mkX (C:Str) (f:Addr→MC) (k:SV→MC):MC:=fun h Q E=> ∀a,h a=none→f a (C9 h a (.ins C [])) (fun r h2=> r= .val .non∧k (.val (.ref a)) h2 Q E) E
def A3I (C:Str) (f:Addr→MC) (k:SV→MC):MC:=fun h Q E=> ∀a,h a=none→f a (C9 h a (.ins C [])) (fun r h2=> r= .val .non∧k (.val (.ref a)) h2 Q E) fun _ _=> False
def A1M (C:Str) (f:List W→MC) (ma:B2):CE:=fun k=> ma fun ws=> mkX C (fun a=> f (.ref a::ws)) k
def B28 (C:Str) (f:List W→MC) (ma:B2):CE:=fun k=> ma fun ws=> A3I C (fun a=> f (.ref a::ws)) k
def A2j (C:Str) (f:List W→MC) (n0 m0:Nat) (P:List Nat) (ds:List W) (ma mk:B2):CE:=fun k=> ma fun ws=> mk fun zs=> D2 (ws.length=n0∧zs.length=m0) (mkX C (fun a=> f (P.map fun i=> ((.ref a::ws)++(zs++ds)).getD i .non)) k)
def B2I (C:Str) (f:List W→MC) (n0 m0:Nat) (P:List Nat) (ds:List W) (ma mk:B2):CE:=fun k=> ma fun ws=> mk fun zs=> D2 (ws.length=n0∧zs.length=m0) (A3I C (fun a=> f (P.map fun i=> ((.ref a::ws)++(zs++ds)).getD i .non)) k)
def A8l (C:Str) (f:List W→MC) (po:RR→(RV→Prop)→Prop) (x:SV) (k:SV→MC):MC:=fun h Q E=> match x with
  | .val (.ref a)=> ∃fs,h a=some (.ins C fs)∧f [.ref a] h (fun r h2=> po r fun y=> U2 k y h2 Q E) fun _ _=> False
  | _=> False
def B4c (C:Str) (f:List W→MC) (po:RR→(RV→Prop)→Prop) (m:CE):CE:=fun k=> m fun x=> A8l C f po x k
def eqX (C:Str) (neg:Bool) (f:List W→MC) (x y:SV) (k:SV→MC):MC:=fun h Q E=> match x,y with
  | .val (.ref a),.val (.ref b)=> (∃fs gs,h a=some (.ins C fs)∧h b=some (.ins C gs))∧f [.ref a,.ref b] h (fun r h2=> ∃c:Bool,r= .val (.bl c)∧k (.val (.bl (if neg=true then !c else c))) h2 Q E) fun _ _=> False
  | _,_=> False
def B4Z (C:Str) (neg:Bool) (f:List W→MC) (m m2:CE):CE:=fun k=> m fun x=> m2 fun y=> eqX C neg f x y k
def A8j (n:Str) (b:Bool) (x:SV) (k:SV→MC):MC:=fun h Q E=> match x with
  | .val (.ref a)=> (∃fs,h a=some (.ins n fs))∧k (.val (.bl b)) h Q E
  | _=> False
def B4y (n:Str) (b:Bool) (m:CE):CE:=fun k=> m fun x=> A8j n b x k
def inX (neg:Bool) (w:W) (x:SV) (k:SV→MC):MC:=fun h Q E=> inM neg (G9 h x) w fun r=> U2 k r h Q E
def B4o (neg:Bool) (mk:CW) (m:CE):CE:=fun k=> mk fun w=> m fun x=> inX neg w x k
def A8J (x:SV) (w:W) (k:SV→MC):MC:=fun h Q E=> A80 (G9 h x) w fun r=> U2 k r h Q E
def B37 (m:CE) (mk:CW):CE:=fun k=> m fun x=> mk fun w=> A8J x w k
def A0T (x:SV) (w v:W) (k:SV→MC):MC:=fun h Q E=> match x with
  | .own (.map kvs)=> ∃l s,kvs=smap l∧w= .str s∧l.length < sizeLine∧k (.own (.map (smap (A1P l s v)))) h Q E
  | .val (.ref a)=> ∃l s,h a=some (.cont (.map (smap l)))∧w= .str s∧l.length < sizeLine∧k (.val (.ref a)) (C9 h a (.cont (.map (smap (A1P l s v))))) Q E
  | _=> False
def B3P (mv:CW) (x:SV) (mk:CW) (k:SV→MC):MC:=mv fun v=> mk fun w=> A0T x w v k
def T7 (x:SV) (w v:W) (k:MC):MC:=fun h Q E=> match x with
  | .val (.ref a)=> ∃l s,h a=some (.cont (.map (smap l)))∧w= .str s∧l.length < sizeLine∧k (C9 h a (.cont (.map (smap (A1P l s v))))) Q E
  | _=> False
def B3W (mv:CW) (m:CE) (mk:CW) (k:MC):MC:=mv fun v=> m fun x=> mk fun w=> T7 x w v k
def A8o (x:SV) (w:W) (k:MC):MC:=fun h Q E=> match x with
  | .val (.ref a)=> ∃l s,h a=some (.cont (.map (smap l)))∧w= .str s∧(l.lookup s).isSome=true∧k (C9 h a (.cont (.map (smap (A8A l s))))) Q E
  | _=> False
def B3p (m:CE) (mk:CW) (k:MC):MC:=m fun x=> mk fun w=> A8o x w k
def A2m:CE:=fun k=> k (.own (.map (smap [])))
def A0S (x:SV) (k:(AH→Prop)→List W→MC):MC:=fun h Q E=> match x with
  | .val (.ref a)=> ∃ws,h a=some (.cont (.seq ws))∧k (fun g=> g a=some (.cont (.seq ws))) ws h Q E
  | .val (.lst ws)=> k (fun _=> True) ws h Q E
  | .val (.tup ws)=> k (fun _=> True) ws h Q E
  | _=> False
abbrev U3:=((AH→Prop)→List W→MC)→MC
def B3j (m:CE):U3:=fun k=> m fun x=> A0S x k
def B4W (m:CE):U3:=fun k=> m fun x=> A0S x fun ok ws=> k ok (N5 ws)
def B4k (m:B2):U3:=fun k=> m fun ws=> k (fun _=> True) ws
def A0K (ok:AH→Prop) (m:MC):MC:=fun h Q E=> ok h∧m h Q E
def A4n {σ:Type} (ok:AH→Prop) (body:W→σ→(σ→MC)→(σ→MC)→MC) (k:σ→MC):List W→σ→MC
  | [],s=> A0K ok (k s)
  | w::ws,s=> A0K ok (body w s (A4n ok body k ws) k)
def B30 {σ:Type} (mi:U3) (s0:σ) (body:W→σ→(σ→MC)→(σ→MC)→MC) (k:σ→MC):MC:=mi fun ok ws=> A4n ok body k ws s0
def A0Y (ok:AH→Prop) (body:W→(Option W→MC)→MC) (k:List W→MC):List W→List W→MC
  | [],acc=> A0K ok (k acc)
  | w::ws,acc=> A0K ok (body w fun o=> match o with
    | some y=> D2 (acc.length < sizeLine) (A0Y ok body k ws (acc++[y]))
    | none=> A0Y ok body k ws acc)
def B4b (mi:U3) (body:W→(Option W→MC)→MC):CE:=fun k=> mi fun ok ws=> A0Y ok body (fun acc=> k (.own (.seq acc))) ws []
def A48 (ok:AH→Prop) (body:W→List W→(List W→MC)→MC) (k:List W→MC):List W→List W→MC
  | [],acc=> A0K ok (k acc)
  | w::ws,acc=> A0K ok (body w acc (A48 ok body k ws))
def B42 (mi:U3) (body:W→List W→(List W→MC)→MC):CE:=fun k=> mi fun ok ws=> A48 ok body (fun acc=> k (.own (.seq acc))) ws []
def B4g (mt:CB) (mi:U3) (body:W→(Option W→MC)→MC) (acc:List W) (kk:List W→MC):MC:=mt fun b=> if b=true then mi fun ok ws=> A0Y ok body kk ws acc else kk acc
def dcM (mv:W→W→CW) (K:List (Str×W)→Prop) (Q:RR→AH→Prop) (E:AExc→AH→Prop):List (Str×W)→List (Str×W)→Prop
  | [],acc=> W.nodcts (acc.map (·.2))=true∧K acc
  | p::r,acc=> mv (.str p.1) p.2 (fun u=> fun _ _ _=> acc.length < sizeLine∧dcM mv K Q E r (A1P acc p.1 u)) (fun _=> none) Q E
def dcX (n f:Str) (x:SV) (mv:W→W→CW) (k:SV→MC):MC:=fun h Q E=> match x with
  | .val (.ref s)=> ∃fs q l,h s=some (.ins n fs)∧fs.lookup f=some (.ref q)∧h q=some (.cont (.map (smap l)))∧dcM mv (fun acc=> k (.own (.map (smap acc))) h Q E) Q E l []
  | _=> False
def B4a (n f:Str) (x:SV) (mv:W→W→CW):CE:=fun k=> dcX n f x mv k
def A8g (x:SV) (k:Str→MC):MC:=fun h Q E=> fmtV (G9 h x) fun y=> k y h Q E
def B4l (m:CE):CE:=fun k=> m fun x=> A8g x fun y=> k (.val (.str y))
def asS (x:SV) (k:Str→MC):MC:=fun h Q E=> match x with
  | .val (.str y)=> k y h Q E
  | _=> False
def jsM:List CE→Str→(Str→MC)→MC
  | [],acc,k=> k acc
  | m::ms,acc,k=> m fun x=> asS x fun y=> D2 ((acc++y).length≤sizeLine) (jsM ms (acc++y) k)
def B2T (ms:List CE):CE:=fun k=> jsM ms Str.empty fun s=> k (.val (.str s))
section
variable {Q:RR→AH→Prop} {E:AExc→AH→Prop} {env:A0} {t t1 t2:AT} {m m1 m2:CE} {tv tv2:B5} {mv mv2:CW} {ta tk:B7} {ma mk:B2} {tb:E4} {mb:CB} {D:AEnds} {i j:Nat}
theorem B2k {h:AH} {r:RV} {a:Addr} (rl:Rl env r (.val (.ref a))):r= .val (.ref a):=by
  cases r with
  | val w=> have e:SV.val (.ref a)= .val w:=rl;injection e with e;rw [e]
  | own c=> have e:SV.val (.ref a)= .own c:=rl;cases e
  | slot i=> obtain ⟨c,e,_⟩:=rl;cases e
theorem B1m {n f:Str} {x:SV} {w:W} {k:MC} {h:AH} {r:RV} (rl:Rl env r x) {P:A0→AH→Prop} (hk:∀h,k h Q E→P env h) (z:d7 n f x w k h Q E):∃a fs,r= .val (.ref a)∧h a=some (.ins n fs)∧fs.length < 1000∧P env (C9 h a (.ins n (w5 f w fs))):=by
  unfold d7 at z
  split at z
  · obtain ⟨fs,z1,z2,z3⟩:=z
    exact ⟨_,fs,B2k (h:=h) rl,z1,z2,hk _ z3⟩
  · exact z.elim
theorem j8 {n f:Str} {k:MC} (a:SA Q E env tv mv) (o:SE Q E env t m) (nx:∀h,k h Q E→D.nx env h):∀h,c7 n f mv m k h Q E→G3 tv (d4 n f t) D env h:=fun h z=>
  a h _ _ (fun w h1 z=> o h1 _ _ (fun r x h2 rl z=> B1m rl nx z) z) z
theorem B4E {n0 m0:Nat} {P:List Nat} {ds us zs:List W} (h:us.length=n0∧zs.length=m0):W5 n0 m0 P ds us zs=P.map fun i=> (us++(zs++ds)).getD i .non:=by
  unfold W5 A3F
  rw [if_pos (by simp [h.1,h.2])]
theorem A8Y {C:Str} {E':AExc→A0→AH→Prop} {f:List W→MC} {g:Addr→List W} {k:SV→MC} {K:RV→A0→AH→Prop} {h:AH} (hk:∀s h',k s h' Q E→K s.rv env h') (hE:∀x h,E x h→E' x env h) (z:mkX C (fun a=> f (g a)) k h Q E):
    ∀a,h a=none→upc f (g a) (C9 h a (.ins C [])) (kMk K env a) fun x h3=> E' x env h3:=fun a n=> ⟨_,_,fun r h' y=> ⟨y.1,hk (.val (.ref a)) _ y.2⟩,hE,z a n⟩
theorem A68 {C:Str} {E':AExc→A0→AH→Prop} {f:List W→MC} (hE:∀x h,E x h→E' x env h) (a:SA Q E env ta ma):SN Q E env (aMake C E' (upc f) ta) (A1M C f ma):=fun h k K hk z=> a h _ _ (fun ws h1 z=> A8Y (g:=fun a=> .ref a::ws) hk hE z) z
theorem B1Z {C:Str} {E':AExc→A0→AH→Prop} {f:List W→MC} {n0 m0:Nat} {P:List Nat} {ds:List W} (hE:∀x h,E x h→E' x env h) (a:SA Q E env ta ma) (b:SA Q E env tk mk):SN Q E env (aMakeM C E' (upc f) P.length (W5 (n0+1) m0 P ds) ta tk) (A2j C f n0 m0 P ds ma mk):=fun h k K hk z=>
  a h _ _ (fun ws h1 z=> b h1 _ _ (fun zs h2 ⟨z1,z2⟩=> by
    have e:∀a:Addr,W5 (n0+1) m0 P ds (.ref a::ws) zs=P.map fun i=> ((.ref a::ws)++(zs++ds)).getD i .non:=fun a=> B4E ⟨by rw [List.length_cons,z1.1],z1.2⟩
    refine ⟨fun a=> by rw [e,List.length_map],fun a n=> ?_⟩
    rw [e]
    exact A8Y (g:=fun a=> P.map fun i=> ((.ref a::ws)++(zs++ds)).getD i .non) hk hE z2 a n) z) z
end
end Ab
namespace Ab
open PySem PySem.Spec PyProof.Rows L2 RZ
def A8m (f:O6) (x:SV) (ma:B2) (k:SV→MC):MC:=fun h Q E=> match x with
  | .val (.ref p)=> (∃xs,h p=some (.cont (.seq xs)))∧(ma fun ws=> fun h2 Q E=> match h2 p with
    | some (.cont (.seq xs))=> f xs ws fun xs' w=> k (.val w) (C9 h2 p (.cont (.seq xs'))) Q E
    | _=> False) h Q E
  | _=> False
def B4v (f:O6) (m:CE) (ma:B2):CE:=fun k=> m fun x=> A8m f x ma k
section
variable {Q:RR→AH→Prop} {E:AExc→AH→Prop} {env:A0} {t t1 t2:AT} {m m1 m2:CE} {tv tv2:B5} {mv mv2:CW} {ta tk:B7} {ma mk:B2} {tb:E4} {mb:CB} {D:AEnds} {i j:Nat} {ti:U4} {mi:U3}
theorem A6i:SN Q E env A2d A2m:=fun h k K hk z=> hk (.own _) h z
inductive SJ (Q:RR→AH→Prop) (E:AExc→AH→Prop) (env:A0):List AT→List CE→Prop where
  | nil:SJ Q E env [] []
  | cons {t:AT} {m:CE} {ts:List AT} {ms:List CE} (a:SE Q E env t m) (r:SJ Q E env ts ms):SJ Q E env (t::ts) (m::ms)
end
end Ab
namespace Ab
open PySem PySem.Spec PyProof.Rows L2 RZ
def B3G (m:CE):B2:=fun k=> m fun x=> asS x fun s=> k (A83 s)
def B3R (mv:CW) (m1:CE) (mk1:CW) (m2:CE) (mk2:CW) (k:MC):MC:=mv fun w=> un2 w fun a b=> m1 fun x=> mk1 fun w1=> T7 x w1 a (m2 fun y=> mk2 fun w2=> T7 y w2 b k)
def un4 (w:W) (k:W→W→W→W→MC):MC:=match w with
  | .tup [a,b,c,d]=> k a b c d
  | _=> bad
section
variable {Q:RR→AH→Prop} {E:AExc→AH→Prop} {env:A0} {t t1 t2:AT} {m m1 m2:CE} {tv tv2 tk1 tk2:B5} {mv mv2 mk1 mk2:CW} {D:AEnds} {i j:Nat}
end
section
variable {Q:RR→AH→Prop} {E:AExc→AH→Prop} {h:AH}
@[simp] theorem B6T {a b c d:W} {k:W→W→W→W→MC}:un4 (.tup [a,b,c,d]) k=k a b c d:=rfl
@[simp] theorem B6f {s:Str} {k:Str→MC}:asS (.val (.str s)) k=k s:=rfl
@[simp] theorem B5p {m:CE} {k:List W→MC}:B3G m k=m fun x=> asS x fun s=> k (A83 s):=rfl
@[simp] theorem B53 {mv:CW} {m1 m2:CE} {mk1 mk2:CW} {k:MC}:B3R mv m1 mk1 m2 mk2 k=mv fun w=> un2 w fun a b=> m1 fun x=> mk1 fun w1=> T7 x w1 a (m2 fun y=> mk2 fun w2=> T7 y w2 b k):=rfl
@[simp] theorem B7f {n f:Str} {m:CE} {k:SV→MC}:B4u n f m k=m fun x=> A8n n f x k:=rfl
@[simp] theorem A7W {n f:Str} {mv:CW} {m:CE} {k:MC}:c7 n f mv m k=mv fun w=> m fun x=> d7 n f x w k:=rfl
@[simp] theorem B7F {n f:Str} {mv:CW} {m:W→CE} {k:W→MC}:B4r n f mv m k=mv fun w=> un2 w fun a b=> m a fun x=> d7 n f x b (k a):=rfl
@[simp] theorem B7o {n f n2 g:Str} {mv:CW} {m m2:CE} {k:MC}:ffC n f n2 g mv m m2 k=mv fun w=> un2 w fun a b=> m fun x=> d7 n f x a (m2 fun y=> d7 n2 g y b k):=rfl
@[simp] theorem B66 {C nm:Str} {f:List W→MC} {mo:CE} {ma:B2} {k:SV→MC}:B3w C nm f mo ma k=mo fun x=> m8 C nm x fun a=> ma fun ws=> call (f (.ref a::ws)) k:=rfl
@[simp] theorem B6q {C nm:Str} {f:List W→MC} {mo:CE} {ma:B2} {k:SV→MC}:B2r C nm f mo ma k=mo fun x=> m8 C nm x fun a=> ma fun ws=> call0 (f (.ref a::ws)) k:=rfl
@[simp] theorem B6e {C nm:Str} {f:List W→MC} {n0 m0:Nat} {P:List Nat} {ds:List W} {mo:CE} {ma mk:B2} {k:SV→MC}:B3H C nm f n0 m0 P ds mo ma mk k=mo fun x=> m8 C nm x fun a=> ma fun ws=> mk fun zs=> mxW (n0+1) m0 P ds (.ref a::ws) zs fun vs=> call (f vs) k:=rfl
@[simp] theorem B5o {C nm:Str} {f:List W→MC} {n0 m0:Nat} {P:List Nat} {ds:List W} {mo:CE} {ma mk:B2} {k:SV→MC}:B18 C nm f n0 m0 P ds mo ma mk k=mo fun x=> m8 C nm x fun a=> ma fun ws=> mk fun zs=> mxW (n0+1) m0 P ds (.ref a::ws) zs fun vs=> call0 (f vs) k:=rfl
@[simp] theorem A7n {C:Str} {f:List W→MC} {ma:B2} {k:SV→MC}:A1M C f ma k=ma fun ws=> mkX C (fun a=> f (.ref a::ws)) k:=rfl
@[simp] theorem B58 {C:Str} {f:List W→MC} {ma:B2} {k:SV→MC}:B28 C f ma k=ma fun ws=> A3I C (fun a=> f (.ref a::ws)) k:=rfl
@[simp] theorem B1t {C:Str} {f:List W→MC} {n0 m0:Nat} {P:List Nat} {ds:List W} {ma mk:B2} {k:SV→MC}:A2j C f n0 m0 P ds ma mk k=ma fun ws=> mk fun zs=> D2 (ws.length=n0∧zs.length=m0) (mkX C (fun a=> f (P.map fun i=> ((.ref a::ws)++(zs++ds)).getD i .non)) k):=rfl
@[simp] theorem B5h {C:Str} {f:List W→MC} {n0 m0:Nat} {P:List Nat} {ds:List W} {ma mk:B2} {k:SV→MC}:B2I C f n0 m0 P ds ma mk k=ma fun ws=> mk fun zs=> D2 (ws.length=n0∧zs.length=m0) (A3I C (fun a=> f (P.map fun i=> ((.ref a::ws)++(zs++ds)).getD i .non)) k):=rfl
@[simp] theorem B7l {C:Str} {f:List W→MC} {po:RR→(RV→Prop)→Prop} {m:CE} {k:SV→MC}:B4c C f po m k=m fun x=> A8l C f po x k:=rfl
@[simp] theorem B7v {C:Str} {neg:Bool} {f:List W→MC} {m m2:CE} {k:SV→MC}:B4Z C neg f m m2 k=m fun x=> m2 fun y=> eqX C neg f x y k:=rfl
@[simp] theorem B72 {n:Str} {b:Bool} {m:CE} {k:SV→MC}:B4y n b m k=m fun x=> A8j n b x k:=rfl
@[simp] theorem B7w {neg:Bool} {mk:CW} {m:CE} {k:SV→MC}:B4o neg mk m k=mk fun w=> m fun x=> inX neg w x k:=rfl
@[simp] theorem B6u {m:CE} {mk:CW} {k:SV→MC}:B37 m mk k=m fun x=> mk fun w=> A8J x w k:=rfl
@[simp] theorem B6D {mv:CW} {x:SV} {mk:CW} {k:SV→MC}:B3P mv x mk k=mv fun v=> mk fun w=> A0T x w v k:=rfl
@[simp] theorem B6V {mv:CW} {m:CE} {mk:CW} {k:MC}:B3W mv m mk k=mv fun v=> m fun x=> mk fun w=> T7 x w v k:=rfl
@[simp] theorem B6H {m:CE} {mk:CW} {k:MC}:B3p m mk k=m fun x=> mk fun w=> A8o x w k:=rfl
@[simp] theorem B11 {k:SV→MC}:A2m k=k (.own (.map (smap []))):=rfl
@[simp] theorem B6m {m:CE} {k:(AH→Prop)→List W→MC}:B3j m k=m fun x=> A0S x k:=rfl
@[simp] theorem B7P {m:CE} {k:(AH→Prop)→List W→MC}:B4W m k=m fun x=> A0S x fun ok ws=> k ok (N5 ws):=rfl
@[simp] theorem B7Y {m:B2} {k:(AH→Prop)→List W→MC}:B4k m k=m fun ws=> k (fun _=> True) ws:=rfl
@[simp] theorem B6U {σ:Type} {mi:U3} {s0:σ} {body:W→σ→(σ→MC)→(σ→MC)→MC} {k:σ→MC}:B30 mi s0 body k=mi fun ok ws=> A4n ok body k ws s0:=rfl
@[simp] theorem B7h {mi:U3} {body:W→(Option W→MC)→MC} {k:SV→MC}:B4b mi body k=mi fun ok ws=> A0Y ok body (fun acc=> k (.own (.seq acc))) ws []:=rfl
@[simp] theorem B7i {mi:U3} {body:W→List W→(List W→MC)→MC} {k:SV→MC}:B42 mi body k=mi fun ok ws=> A48 ok body (fun acc=> k (.own (.seq acc))) ws []:=rfl
@[simp] theorem B6t {mt:CB} {mi:U3} {body:W→(Option W→MC)→MC} {acc:List W} {kk:List W→MC}:B4g mt mi body acc kk=mt fun b=> if b=true then mi fun ok ws=> A0Y ok body kk ws acc else kk acc:=rfl
@[simp] theorem B7p {m:CE} {k:SV→MC}:B4l m k=m fun x=> A8g x fun y=> k (.val (.str y)):=rfl
@[simp] theorem B5U {ms:List CE} {k:SV→MC}:B2T ms k=jsM ms Str.empty fun s=> k (.val (.str s)):=rfl
@[simp] theorem B6G {acc:Str} {k:Str→MC}:jsM [] acc k=k acc:=rfl
@[simp] theorem B5d {m:CE} {ms:List CE} {acc:Str} {k:Str→MC}:jsM (m::ms) acc k=m fun x=> asS x fun y=> D2 ((acc++y).length≤sizeLine) (jsM ms (acc++y) k):=rfl
@[simp] theorem B7q {f:O6} {m:CE} {ma:B2} {k:SV→MC}:B4v f m ma k=m fun x=> A8m f x ma k:=rfl
@[simp] theorem B71 {n f:Str} {x:SV} {mv:W→W→CW} {k:SV→MC}:B4a n f x mv k=dcX n f x mv k:=rfl
@[simp] theorem A72 {m:CE} {k:W→MC}:w7 m k=m fun x=> A1R x k:=rfl
@[simp] theorem B6B {ws:List W} {k:(AH→Prop)→List W→MC}:A0S (.val (.lst ws)) k=k (fun _=> True) ws:=rfl
@[simp] theorem B5v {ws:List W} {k:(AH→Prop)→List W→MC}:A0S (.val (.tup ws)) k=k (fun _=> True) ws:=rfl
end
end Ab
namespace Ab
open PySem PySem.Spec PyProof.Rows L2 RZ
section
variable {Q:RR→AH→Prop} {E:AExc→AH→Prop} {h:AH} {a:Addr} {n f C nm:Str} {fs:List (Str×W)} {w u v:W} {l:List (Str×W)} {s:Str} {ws:List W}
end
end Ab
namespace Ab
open PySem PySem.Spec PyProof.Rows L2 RZ
def A5D (xs:List SV) (k:List W→MC):MC:=match xs with
  | [x,y,z]=> I5 x fun i=> I5 y fun j=> I5 z fun c=> D2 (c= -1∧ -(2 ^ 62)≤i∧i < 2 ^ 62∧ -(2 ^ 62)≤j∧j < 2 ^ 62) (k (A82 i (i - j).toNat))
  | _=> bad
def B36 (a:CS):B2:=fun k=> a fun xs=> A5D xs k
section
variable {Q:RR→AH→Prop} {E:AExc→AH→Prop} {env:A0} {tr:N7} {mr:CS}
@[simp] theorem B6g {a:CS} {k:List W→MC}:B36 a k=a fun w=> A5D w k:=rfl
@[simp] theorem B5W {i j:Int} {k:List W→MC}:A5D [.val (.int i),.val (.int j),.val (.int (-1))] k=D2 (-(2 ^ 62)≤i∧i < 2 ^ 62∧ -(2 ^ 62)≤j∧j < 2 ^ 62) (k (A82 i (i - j).toNat)):=by
  funext h Q E
  exact propext ⟨fun ⟨a,z⟩=> ⟨a.2,z⟩,fun ⟨a,z⟩=> ⟨⟨rfl,a⟩,z⟩⟩
end
end Ab
namespace Ab
open PySem PySem.Spec PyProof.Rows L2 RZ
section
variable {Q:RR→AH→Prop} {E:AExc→AH→Prop} {h:AH} {l:List (Str×W)} {s:Str} {u w:W}
end
def A8r (x:SV) (w:W) (k:SV→MC):MC:=fun h Q E=> match x with
  | .own (.map kvs)=> ∃l s,kvs=smap l∧w= .str s∧(l.lookup s).isSome=true∧k (.own (.map (smap (A8A l s)))) h Q E
  | _=> False
def B3m (x:SV) (mk:CW) (k:SV→MC):MC:=fun h Q E=> (∃l,x= .own (.map (smap l)))∧mk (fun w=> A8r x w k) h Q E
def itK (w:W) (k:List W→MC):MC:=fun h Q E=> ∃l,w=g9 l∧k (l.map fun p=> W.str p.1) h Q E
def B4q (a:CW):B2:=fun k=> a fun w=> itK w k
def A4m (x y:SV) (k:SV→SV→MC):MC:=match x,y with
  | .own c,.own d=> k (.own c) (.own d)
  | _,_=> bad
def B4G (a b:CE) (k:SV→SV→MC):MC:=a fun x=> b fun y=> A4m x y k
def B3S (mv:CW) (x:SV) (mk1:CW) (y:SV) (mk2:SV→CW) (k:SV→SV→MC):MC:=mv fun w=> un2 w fun a b=> mk1 fun w1=> A0T x w1 a fun x'=> mk2 x' fun w2=> A0T y w2 b fun y'=> k x' y'
def B3z (mv:CW) (m1:CE) (mk1:CW) (m2:CE) (mk2:CW) (m3:CE) (mk3:CW) (k:MC):MC:=mv fun w=> un3 w fun a b c=> m1 fun x=> mk1 fun w1=> T7 x w1 a (m2 fun y=> mk2 fun w2=> T7 y w2 b (m3 fun z=> mk3 fun w3=> T7 z w3 c k))
section
variable {Q:RR→AH→Prop} {E:AExc→AH→Prop} {env:A0} {t t1 t2 t3 ta tb:AT} {m m1 m2 m3 ma mb:CE} {tv tv2 tk1 tk2 tk3:B5} {mv mv2 mk1 mk2 mk3:CW} {D:AEnds} {i j:Nat}
@[simp] theorem B6Z {l:List (Str×W)} {mk:CW} {k:SV→MC}:B3m (.own (.map (smap l))) mk k=mk fun w=> A8r (.own (.map (smap l))) w k:=by
  funext h Q E
  exact propext ⟨fun z=> z.2,fun z=> ⟨⟨l,rfl⟩,z⟩⟩
@[simp] theorem B7S {a:CW} {k:List W→MC}:B4q a k=a fun w=> itK w k:=rfl
@[simp] theorem B54 {a b:CE} {k:SV→SV→MC}:B4G a b k=a fun x=> b fun y=> A4m x y k:=rfl
@[simp] theorem B5S {c d:Cont} {k:SV→SV→MC}:A4m (.own c) (.own d) k=k (.own c) (.own d):=rfl
@[simp] theorem B6J {mv:CW} {x:SV} {mk1:CW} {y:SV} {mk2:SV→CW} {k:SV→SV→MC}:B3S mv x mk1 y mk2 k=mv fun w=> un2 w fun a b=> mk1 fun w1=> A0T x w1 a fun x'=> mk2 x' fun w2=> A0T y w2 b fun y'=> k x' y':=rfl
@[simp] theorem B6O {mv:CW} {m1:CE} {mk1:CW} {m2:CE} {mk2:CW} {m3:CE} {mk3:CW} {k:MC}:B3z mv m1 mk1 m2 mk2 m3 mk3 k=mv fun w=> un3 w fun a b c=> m1 fun x=> mk1 fun w1=> T7 x w1 a (m2 fun y=> mk2 fun w2=> T7 y w2 b (m3 fun z=> mk3 fun w3=> T7 z w3 c k)):=rfl
end
end Ab
namespace Ab
open PySem PySem.Spec PyProof.Rows L2 RZ
def A1W (ss:List Int):Prop:=1≤ss.length∧ss.length≤6∧∀s∈ss,1≤s∧s≤40
inductive Dd where
  | swap (i j:Nat) | tap (n:Int) (c:Nat) | drain (n:Int) (c:Nat) | over (n:Int) (cs:List Nat) | down (n:Int) (cs:List Nat)
abbrev M8 (c:Nat):W:= .int (c:Int)
def Dd.w:Dd→W
  | .swap i j=> .tup [.str "swap",M8 i,M8 j]
  | .tap n c=> .tup [.str "tap",.int n,M8 c]
  | .drain n c=> .tup [.str "drain",.int n,M8 c]
  | .over n cs=> .tup (.str "over":: .int n::cs.map M8)
  | .down n cs=> .tup (.str "down":: .int n::cs.map M8)
def A8k (ss:List Int) (cs:List Nat):Prop:=2≤cs.length∧cs.length≤ss.length∧cs.Nodup∧∀c∈cs,c < ss.length
def A2s:Int:=1000000000000000000000000000000
def Dd.ok (ss:List Int):Dd→Prop
  | .swap i j=> i < ss.length∧j < ss.length∧i≠j∧ss[i]? =ss[j]?
  | .tap n c=> 0≤n∧n < A2s∧c < ss.length
  | .drain n c=> 0≤n∧n < A2s∧c < ss.length
  | .over n cs=> 0≤n∧n < A2s∧A8k ss cs
  | .down n cs=> 0≤n∧n < A2s∧A8k ss cs
theorem B1q {c:Nat}:M8 c= .int (c:Int):=rfl
theorem B3F {n:Nat} {c:Nat}:(M8 c).nb n=true:=A7i
theorem B4P (d:Dd):d.w.nb 1=true:=by
  cases d <;> refine A74 (n:=0) fun x hx=> ?_
  all_goals simp only [List.mem_cons,List.not_mem_nil,or_false,List.mem_map] at hx
  · rcases hx with rfl | rfl | rfl <;> rfl
  · rcases hx with rfl | rfl | rfl <;> rfl
  · rcases hx with rfl | rfl | rfl <;> rfl
  · rcases hx with rfl | rfl | ⟨c,_,rfl⟩ <;> rfl
  · rcases hx with rfl | rfl | ⟨c,_,rfl⟩ <;> rfl
theorem A6P (n:Nat):N3 0 n=(List.range n).map M8:=B17
def Dd.word:Dd→Str
  | .swap _ _=> "swap"
  | .tap _ _=> "tap"
  | .drain _ _=> "drain"
  | .over _ _=> "over"
  | .down _ _=> "down"
def Dd.rest:Dd→List W
  | .swap i j=> [M8 i,M8 j]
  | .tap n c=> [.int n,M8 c]
  | .drain n c=> [.int n,M8 c]
  | .over n cs=> .int n::cs.map M8
  | .down n cs=> .int n::cs.map M8
end Ab
namespace Ab
open PySem PySem.Spec PyProof.Rows L2 RZ
def A0q (x_script:W):MC:=
  ((P7 (A9 (A3 (F0 Q7 (C3 (x9 (eV (.val x_script)) y0 (v7 (eC (.int 63)))) E6))) (A9 (A3 (eC (.int 0))) (A9 (A3 (eC (.int 0))) (A9 (A3 (eC (.int 9465))) (A9 (A3 (eC (.int 0))) B3)))))) ret)
def o9:List W→MC
  | [x_script]=> A0q x_script
  | _=> bad
def A0n (x_bag x_sides:W):MC:=
  (w8 (fun (s1:SV)=> (F7 (E3 (A4 y6 (A4 oIx (eV s1) (eC (.int 2))) (eV (.val x_sides)))) ((A3 (A4 M7 (A4 oIx (eV s1) (eC (.int 2))) (eV (.val x_sides)))) fun x_side=> (U0 (A3 (A4 l8 (A4 oIx (eV s1) (eC (.int 2))) (eV (.val x_sides)))) s1 (eC (.int 2)) fun x_bag=> ((eV (.val x_side)) ret))) (U0 (A3 (A4 oAdd (A4 oIx (eV s1) (eC (.int 4))) (eC (.int 1)))) s1 (eC (.int 4)) fun x_bag=> ((A3 (A4 oIx (eV x_bag) (eC (.int 3)))) fun x_mix=> (U0 (A3 (A4 M7 (A4 oAdd (A4 oAdd (A4 oAdd (A4 oMulT (A4 M7 (A4 oMulT (eV (.val x_mix)) (eV (.val x_mix))) (eC (.int 2147483629))) (eC (.int 5))) (A4 oMulT (eV (.val x_mix)) (eC (.int 16811)))) (A4 oMulT (eC (.int 7919)) (A4 oIx (eV x_bag) (eC (.int 4))))) (eC (.int 2531011))) (eC (.int 2147483647)))) x_bag (eC (.int 3)) fun x_bag=> ((A4 M7 (A4 oAdd (A4 l8 (A4 oIx (eV x_bag) (eC (.int 3))) (eC (.int 61))) (A4 oMulT (A4 M7 (A4 oIx (eV x_bag) (eC (.int 3))) (eC (.int 8191))) (eC (.int 31)))) (eV (.val x_sides))) ret)))))) fun kj3=> (F7 (tAnd (E3 (A4 m7 (A4 oIx (eV (.val x_bag)) (eC (.int 2))) (eV (.val x_sides)))) (E3 (A4 m7 (A4 oIx (eV (.val x_bag)) (eC (.int 1))) (F0 C4 (C3 (A4 oIx (eV (.val x_bag)) (eC (.int 0))) E6))))) ((A3 (A4 oIx (A4 oIx (eV (.val x_bag)) (eC (.int 0))) (A4 oIx (eV (.val x_bag)) (eC (.int 1))))) fun x_cell=> (U0 (A3 (A4 oAdd (A4 oIx (eV (.val x_bag)) (eC (.int 1))) (eC (.int 1)))) (.val x_bag) (eC (.int 1)) fun x_bag=> (U0 (A3 (eC (.int 0))) x_bag (eC (.int 2)) fun x_bag=> (F7 (E3 (A4 y6 (eV (.val x_cell)) (A4 m6 (eC (.int 10)) (eC (.int 18))))) (U0 (A3 (eV (.val x_cell))) x_bag (eC (.int 2)) fun x_bag=> (kj3 x_bag)) (U0 (A3 (A4 M7 (A4 oAdd (A4 oAdd (A4 oMulT (A4 oIx (eV x_bag) (eC (.int 3))) (eC (.int 48271))) (A4 oMulT (A4 M7 (eV (.val x_cell)) (eC (.int 2147483629))) (eC (.int 69621)))) (eC (.int 12345))) (eC (.int 2147483647)))) x_bag (eC (.int 3)) fun x_bag=> (kj3 x_bag)))))) (kj3 (.val x_bag))))
def M3:List W→MC
  | [x_bag,x_sides]=> A0n x_bag x_sides
  | _=> bad
def A0o (x_bag x_row:W):MC:=
  ((A4 oIx (eV (.val x_row)) (F4 M3 (A9 (A3 (eV (.val x_bag))) (A9 (A3 (F0 C4 (C3 (eV (.val x_row)) E6))) B3)))) ret)
def Q3:List W→MC
  | [x_bag,x_row]=> A0o x_bag x_row
  | _=> bad
section
variable {Q:RR→AH→Prop} {E:AExc→AH→Prop} {h:AH} {p:Addr} {xs:List W}
theorem A2N {σ:Type} {k:σ→MC} {f:(σ→MC)→MC} (P:σ→AH→Prop) (hk:∀s h,P s h→k s h Q E) (hf:∀kk:σ→MC,(∀s h,P s h→kk s h Q E)→f kk h Q E):w8 k f h Q E:=hf k hk
theorem g7 {i:Int} {k:SV→MC} (e:h p=some (.cont (.seq xs))):B9 oIx (.val (.ref p)) (.val (.int i)) k h Q E=N6 xs i (fun w=> k (.val w)) h Q E:=by
  have ev:G9 h (.val (.ref p))= .cv (.seq xs):=by
    show (match h p with
      | some (.cont c)=> Vw.cv c
      | _=> .wv (.ref p))=_
    rw [e]
  show oIx (G9 h (.val (.ref p))) (.wv (.int i)) _=_
  rw [ev,A6v rfl (fun _ z=> by cases z)]
  unfold N6
  cases L2.atI xs i <;> rfl
theorem t8 {i:Int} {w:W} {k:SV→MC} {j:Nat} (e:h p=some (.cont (.seq xs))) (ej:ixN xs.length i=some j):l9 (.val (.ref p)) (.val (.int i)) w k h Q E=k (.val (.ref p)) (C9 h p (.cont (.seq (xs.set j w)))) Q E:=by
  show (match h p with
      | some (.cont (.seq xs))=> ∃j,ixN xs.length i=some j∧k (.val (.ref p)) (C9 h p (.cont (.seq (xs.set j w)))) Q E
      | _=> False)=_
  rw [e]
  show (∃j,ixN xs.length i=some j∧k (.val (.ref p)) (C9 h p (.cont (.seq (xs.set j w)))) Q E)=_
  rw [ej]
  refine propext ⟨fun ⟨_,a,b⟩=> ?_,fun z=> ⟨j,rfl,z⟩⟩
  cases a
  exact b
theorem A2g {b:Prop} [Decidable b] {A B:MC} (x:b→A h Q E) (y:¬b→B h Q E):(if b then A else B) h Q E:=by
  split
  · exact x ‹_›
  · exact y ‹_›
end
def A1U (ns:List Int) (i b m c:Int):AO:= .cont (.seq [.lst (ns.map .int),.int i,.int b,.int m,.int c])
def Bag (n:Nat) (h:AH) (p:Addr):Prop:=∃(ns:List Int) (i b m c:Int),h p=some (A1U ns i b m c)∧0≤i∧i≤ns.length∧0≤b∧0≤m∧m < 2147483648∧0≤c∧c≤n
theorem Bag.le {n m:Nat} {h:AH} {p:Addr} (b:Bag n h p) (l:n≤m):Bag m h p:=let ⟨ns,i,x,y,c,a1,a2,a3,a4,a5,a6,a7,a8⟩:=b;⟨ns,i,x,y,c,a1,a2,a3,a4,a5,a6,a7,by omega⟩
def Dr (c:Nat) (m:Addr→MC) (P:RR→Prop):Prop:=∀(p:Addr) (n:Nat) (h:AH) (Q:RR→AH→Prop) (E:AExc→AH→Prop),Bag n h p→n+c≤1000000000000000→(∀r h',P r→Bag (n+c) h' p→Bt p h h'→Q r h')→m p h Q E
section
variable {Q:RR→AH→Prop} {E:AExc→AH→Prop} {h:AH} {p:Addr} {n c:Nat} {m:Addr→MC} {P:RR→Prop} {K:SV→MC}
theorem Dr.call (d:Dr c m P) (b:Bag n h p) (l:n+c≤1000000000000000) (q:∀r h',P r→Bag (n+c) h' p→Bt p h h'→K r.sv h' Q E):call (m p) K h Q E:=d p n h _ _ b l q
theorem Dr.call0 (d:Dr c m P) (b:Bag n h p) (l:n+c≤1000000000000000) (q:∀r h',P r→Bag (n+c) h' p→Bt p h h'→K r.sv h' Q E):call0 (m p) K h Q E:=d p n h _ _ b l q
theorem Dr.imp {P':RR→Prop} {c':Nat} (d:Dr c m P) (i:∀r,P r→P' r) (l:c≤c'):Dr c' m P':=fun p n h Q E b l' q=> d p n h Q E b (by omega) fun r h' z b' t=> q r h' (i r z) (b'.le (by omega)) t
end
theorem B1c {ns:List Int} {i b m c s:Int} {h:AH} {p:Addr} {Q:RR→AH→Prop} {E:AExc→AH→Prop} (hp:h p=some (A1U ns i b m c)) (i0:0≤i) (i1:i≤ns.length) (b0:0≤b) (m0:0≤m) (m1:m < 2147483648) (c0:0≤c)
    (c1:c≤1000000000000000) (s1:1≤s) (cd:∀b:Int,CDivW b s)
    (q:∀k h',0≤k→k < s→(∃b' m' c',h' p=some (A1U ns i b' m' c')∧0≤b'∧0≤m'∧m' < 2147483648∧0≤c'∧c'≤c+1)→Bt p h h'→Q (.val (.int k)) h'):
    (F7 (E3 (A4 y6 (A4 oIx (eV (.val (.ref p))) (eC (.int 2))) (eV (.val (.int s))))) ((A3 (A4 M7 (A4 oIx (eV (.val (.ref p))) (eC (.int 2))) (eV (.val (.int s))))) fun x_side=> (U0 (A3 (A4 l8 (A4 oIx (eV (.val (.ref p))) (eC (.int 2))) (eV (.val (.int s))))) (.val (.ref p)) (eC (.int 2)) fun x_bag=> ((eV (.val x_side)) ret))) (U0 (A3 (A4 oAdd (A4 oIx (eV (.val (.ref p))) (eC (.int 4))) (eC (.int 1)))) (.val (.ref p)) (eC (.int 4)) fun x_bag=> ((A3 (A4 oIx (eV x_bag) (eC (.int 3)))) fun x_mix=> (U0 (A3 (A4 M7 (A4 oAdd (A4 oAdd (A4 oAdd (A4 oMulT (A4 M7 (A4 oMulT (eV (.val x_mix)) (eV (.val x_mix))) (eC (.int 2147483629))) (eC (.int 5))) (A4 oMulT (eV (.val x_mix)) (eC (.int 16811)))) (A4 oMulT (eC (.int 7919)) (A4 oIx (eV x_bag) (eC (.int 4))))) (eC (.int 2531011))) (eC (.int 2147483647)))) x_bag (eC (.int 3)) fun x_bag=> ((A4 M7 (A4 oAdd (A4 l8 (A4 oIx (eV x_bag) (eC (.int 3))) (eC (.int 61))) (A4 oMulT (A4 M7 (A4 oIx (eV x_bag) (eC (.int 3))) (eC (.int 8191))) (eC (.int 31)))) (eV (.val (.int s)))) ret))))) h Q E:=by
  have cd:=cd b
  have hp':h p=some (.cont (.seq [.lst (ns.map .int),.int i,.int b,.int m,.int c])):=hp
  have e2:ixN 5 2=some 2:=rfl
  have e3:ixN 5 3=some 3:=rfl
  have e4:ixN 5 4=some 4:=rfl
  simp only [M6,M5,I4,E5,F6,g7 hp',A4s,A8x,H8,decide_eq_true_eq]
  refine A2g (fun _=> ?_) fun _=> ?_
  · simp only [E8,I4,E5,F6,A1D,g7 hp',A4s,A23,A7y,A0D,D4]
    refine ⟨by omega,cd,?_⟩
    rw [t8 hp' e2]
    exact q _ _ (Int.emod_nonneg _ (by omega)) (Int.emod_lt_of_pos _ (by omega)) ⟨_,_,_,Q8,Int.ediv_nonneg b0 (by omega),m0,m1,c0,by omega⟩ .upd
  · simp only [E8,I4,E5,F6,A1D,g7 hp',A8N,m4,D4]
    rw [t8 hp' e4]
    have h1:C9 h p (.cont (.seq ([.lst (ns.map .int),.int i,.int b,.int m,.int c].set 4 (.int (c+1))))) p=some (.cont (.seq [.lst (ns.map .int),.int i,.int b,.int m,.int (c+1)])):=Q8
    have x0:0≤m*m % 2147483629:=Int.emod_nonneg _ (by decide)
    have x1:m*m % 2147483629 < 2147483629:=Int.emod_lt_of_pos _ (by decide)
    simp only [E8,I4,E5,F6,A1D,g7 h1,A8N,A4p,m4,A4l,A23,A0D,D4]
    refine ⟨v5 m0 (by omega) m0 (by omega),by decide,v5 x0 (by omega) (by decide) (by decide),v5 m0 (by omega) (by decide) (by decide),v5 (by decide) (by decide) (by omega) (by omega),by decide,?_⟩
    rw [t8 h1 e3]
    generalize m*m % 2147483629*5+m*16811+7919*(c+1)+2531011=y
    have g0:0≤y % 2147483647:=Int.emod_nonneg _ (by decide)
    have g1:y % 2147483647 < 2147483647:=Int.emod_lt_of_pos _ (by decide)
    have w0:0≤y % 2147483647 % 8191:=Int.emod_nonneg _ (by decide)
    have w1:y % 2147483647 % 8191 < 8191:=Int.emod_lt_of_pos _ (by decide)
    have h2:C9 (C9 h p (.cont (.seq ([.lst (ns.map .int),.int i,.int b,.int m,.int c].set 4 (.int (c+1)))))) p (.cont (.seq ([.lst (ns.map .int),.int i,.int b,.int m,.int (c+1)].set 3 (.int (y % 2147483647))))) p=some (.cont (.seq [.lst (ns.map .int),.int i,.int b,.int (y % 2147483647),.int (c+1)])):=Q8
    simp only [g7 h2,A4p,m4,A4l,A23,A7y,A0D]
    refine ⟨wide_div (b:=10) (by decide) (by decide) (by decide) (by decide),by decide,v5 w0 (by omega) (by decide) (by decide),by omega,?_⟩
    exact q _ _ (Int.emod_nonneg _ (by omega)) (Int.emod_lt_of_pos _ (by omega)) ⟨_,_,_,Q8,b0,g0,by omega,by omega,by omega⟩ (Bt.upd.trans .upd)
theorem B1W {s:Int} (s1:1≤s) (s2:∀b:Int,CDivW b s):Dr 1 (fun p=> M3 [.ref p,.int s]) fun r=> ∃k,r= .val (.int k)∧0≤k∧k < s:=by
  intro p n h Q E ⟨ns,i,b,m,c,hp,i0,i1,b0,m0,m1,c0,c1⟩ hn q
  have q':∀k h',0≤k→k < s→(∃i' b' m' c',h' p=some (A1U ns i' b' m' c')∧0≤i'∧i'≤ns.length∧0≤b'∧0≤m'∧m' < 2147483648∧0≤c'∧c'≤c+1)→Bt p h h'→Q (.val (.int k)) h':=
    fun k h' k0 k1 ⟨i',b',m',c',a0,a1,a2,a3,a4,a5,a6,a7⟩ t=> q _ _ ⟨k,rfl,k0,k1⟩ ⟨ns,i',b',m',c',a0,a1,a2,a3,a4,a5,a6,by omega⟩ t
  clear q
  show A0n (.ref p) (.int s) h Q E
  unfold A0n
  have hp':h p=some (.cont (.seq [.lst (ns.map .int),.int i,.int b,.int m,.int c])):=hp
  refine A2N (fun x k=> x= .val (.ref p)∧∃i' b' m':Int,0≤i'∧i'≤ns.length∧0≤b'∧0≤m'∧m' < 2147483648∧k p=some (A1U ns i' b' m' c)∧Bt p h k) ?_ ?_
  · rintro _ k ⟨rfl,i',b',m',z1,z2,z3,z4,z5,z6,z7⟩
    exact B1c z6 z1 z2 z3 z4 z5 c0 (by omega) s1 s2 fun k h' k0 k1 ⟨b2,m2,c2,a0,a1,a2,a3,a4,a5⟩ t=> q' k h' k0 k1 ⟨i',b2,m2,c2,a0,z1,z2,a1,a2,a3,a4,a5⟩ (z7.trans t)
  · intro kk hk
    have same:kk (.val (.ref p)) h Q E:=hk _ _ ⟨rfl,i,b,m,i0,i1,b0,m0,m1,hp,.refl⟩
    have e1:ixN 5 1=some 1:=rfl
    have e2:ixN 5 2=some 2:=rfl
    have e3:ixN 5 3=some 3:=rfl
    simp only [M6,B3N,M5,I4,E5,F6,g7 hp',A4s,A44,H8,decide_eq_true_eq]
    refine A2g (fun _=> ?_) fun _=> by rw [if_neg Bool.false_ne_true];exact same
    simp only [L6,K8,L0,I4,E5,F6,g7 hp',A8M,A4o,A36,A44,H8,decide_eq_true_eq,List.length_map]
    refine A2g (fun h2=> ?_) fun _=> same
    obtain ⟨j,rfl⟩:=Int.eq_ofNat_of_zero_le i0
    have hj:j < ns.length:=by omega
    simp only [E8,I4,E5,F6,A1D,g7 hp',A8M,A4o,A4Z,A7U hj,m4,D4]
    generalize ns[j]=v
    rw [t8 hp' e1]
    have h1:C9 h p (.cont (.seq ([.lst (ns.map .int),.int (j:Int),.int b,.int m,.int c].set 1 (.int ((j:Int)+1))))) p=some (.cont (.seq [.lst (ns.map .int),.int ((j:Int)+1),.int b,.int m,.int c])):=Q8
    rw [t8 h1 e2]
    generalize hk1:C9 (C9 h p (.cont (.seq ([.lst (ns.map .int),.int (j:Int),.int b,.int m,.int c].set 1 (.int ((j:Int)+1)))))) p (.cont (.seq ([.lst (ns.map .int),.int ((j:Int)+1),.int b,.int m,.int c].set 2 (.int 0))))=h2'
    have hp2:h2' p=some (.cont (.seq [.lst (ns.map .int),.int ((j:Int)+1),.int 0,.int m,.int c])):=by rw [←hk1];exact Q8
    have bt:Bt p h h2':=by rw [←hk1];exact Bt.upd.trans .upd
    simp only [M6,M5,I4,E5,F6,A8B,A0D,A8x,H8,decide_eq_true_eq]
    refine ⟨⟨by decide,by decide,by decide⟩,A2g (fun h3=> ?_) fun h3=> ?_⟩
    · have z:(0:Int)≤10 ^ Int.toNat 18:=by decide
      rw [t8 hp2 e2]
      exact hk _ _ ⟨rfl,(j:Int)+1,v,m,by omega,by omega,by omega,m0,m1,Q8,bt.trans .upd⟩
    · have a0:0≤v % 2147483629:=Int.emod_nonneg _ (by decide)
      have a1:v % 2147483629 < 2147483629:=Int.emod_lt_of_pos _ (by decide)
      simp only [A1D,E8,I4,E5,F6,g7 hp2,A4p,A4l,A23,m4,A0D,D4]
      refine ⟨v5 m0 (by omega) (by decide) (by decide),by decide,v5 a0 (by omega) (by decide) (by decide),by decide,?_⟩
      rw [t8 hp2 e3]
      have b1:0≤(m*48271+v % 2147483629*69621+12345) % 2147483647:=Int.emod_nonneg _ (by decide)
      have b2:(m*48271+v % 2147483629*69621+12345) % 2147483647 < 2147483647:=Int.emod_lt_of_pos _ (by decide)
      exact hk _ _ ⟨rfl,(j:Int)+1,0,_,by omega,by omega,by omega,b1,by omega,Q8,bt.trans .upd⟩
theorem A02 {s:Int} (s1:1≤s) (s2:s≤10 ^ 40):Dr 1 (fun p=> M3 [.ref p,.int s]) fun r=> ∃k,r= .val (.int k)∧0≤k∧k < s:=B1W s1 fun b=> wide_div (b:=200) (by omega) (by omega) (by decide) (by decide)
theorem B1y {ns:List Int} (h:ns.length≤63):o9 [.lst (ns.map .int)]=ret (.own (.seq [.lst (ns.map .int),.int 0,.int 0,.int 9465,.int 0])):=by
  show A0q _=_
  unfold A0q
  simp only [k9,G6,F3,E8,L6,K8,L0,A8h,E5,F6,A8C,A67,T2,B4I,B27,A07,D4]
  rw [C2 (by simp [O4]),show N4 (ns.map W.int) none (some 63)=(ns.map W.int).take 63 from A4A (k:=63),List.take_of_length_le (by rw [List.length_map];exact h)]
theorem bag_new {h:AH} {p:Addr} {ns:List Int}:Bag 0 (C9 h p (.cont (.seq [.lst (ns.map .int),.int 0,.int 0,.int 9465,.int 0]))) p:=⟨ns,0,0,9465,0,Q8,by omega,by omega,by omega,by omega,by omega,by omega,by omega⟩
theorem A2Q {row:W} {xs:List W} (hr:row= .lst xs∨row= .tup xs) (h0:xs≠[]) (h1:xs.length≤1000000):Dr 1 (fun p=> Q3 [.ref p,row]) fun r=> ∃w,r= .val w∧w∈xs:=by
  intro p n h Q E b hn q
  have l0:0 < xs.length:=List.length_pos_iff.mpr h0
  show A0o (.ref p) row h Q E
  unfold A0o
  have go:call (M3 [.ref p,.int xs.length]) (fun x=> B9 oIx (.val row) x ret) h Q E:=by
    refine (A02 (by omega) (by omega)).call b hn fun r h' ⟨k,e,k0,k1⟩ b' t=> ?_
    subst e
    obtain ⟨j,rfl⟩:=Int.eq_ofNat_of_zero_le k0
    have hj:j < xs.length:=by omega
    rcases hr with rfl | rfl <;> (simp only [Z9,A4Y,A4Z,A2T hj];exact q _ _ ⟨_,rfl,List.getElem_mem hj⟩ b' t)
  rcases hr with rfl | rfl <;> simpa only [I4,E5,Q6,G6,F3,E8,L6,K8,L0,A36,V5,D4] using go
end Ab
namespace Ab
open PySem PySem.Spec PyProof.Rows L2 RZ
def A0l (x_bag x_mcasks x_most:W):MC:=
  ((F0 O5 (C3 (eLc (A0M (C3 (A4 oAdd (eC (.int 1)) (F4 M3 (A9 (A3 (eV (.val x_bag))) (A9 (A3 (eV (.val x_mcasks))) B3)))) E6)) fun x_mcask kk=> lcb A3D (A3 (A4 oAdd (eC (.int 1)) (A2V M3 (A9 (A3 (eV (.val x_bag))) (A9 (A3 (eV (.val x_most))) B3))))) kk) E6)) ret)
def o3:List W→MC
  | [x_bag,x_mcasks,x_most]=> A0l x_bag x_mcasks x_most
  | _=> bad
def A0h (x_bag:W):MC:=
  ((F4 o3 (A9 (A3 (eV (.val x_bag))) (A9 (A3 (eC (.int 6))) (A9 (A3 (F4 Q3 (A9 (A3 (eV (.val x_bag))) (A9 (A3 (P7 (A9 (A3 (eC (.int 40))) (A9 (A3 (eC (.int 9))) (A9 (A3 (eC (.int 4))) (A9 (A3 (eC (.int 2))) B3)))))) B3)))) B3)))) ret)
def n8:List W→MC
  | [x_bag]=> A0h x_bag
  | _=> bad
theorem A6h {α:Type} {P:α→Prop} {e:α→W}:∀{ws ys:List W},All2 (fun _ y=> ∃a,y=e a∧P a) ws ys→∃as:List α,ys=as.map e∧as.length=ws.length∧∀a∈as,P a
  | _,_,.nil=> ⟨[],rfl,rfl,fun _ h=> by cases h⟩
  | _,_,.cons ⟨a,e1,hp⟩ r=> by
    obtain ⟨as,e2,l,h⟩:=A6h r
    subst e1 e2
    exact ⟨a::as,rfl,by rw [List.length_cons,List.length_cons,l],fun b hb=> by
      rcases List.mem_cons.mp hb with rfl | hb
      · exact hp
      · exact h b hb⟩
theorem B3v {α:Type} {P:α→Prop} {e:α→W} {Q:RR→AH→Prop} {E:AExc→AH→Prop} {body:W→(Option W→MC)→MC} {k:List W→MC} {p:Addr} {n c:Nat} {h:AH} (ws:List W) (hl:ws.length≤1000) (b:Bag n h p) (hn:n+ws.length*c≤1000000000000000)
    (hb:∀w∈ws,∀m h1 kk,m+c≤1000000000000000→Bag m h1 p→(∀a h',P a→Bag (m+c) h' p→Bt p h1 h'→kk (some (e a)) h' Q E)→body w kk h1 Q E)
    (q:∀(as:List α) h',as.length=ws.length→(∀a∈as,P a)→Bag (n+ws.length*c) h' p→Bt p h h'→k (as.map e) h' Q E):R8 body k ws [] h Q E:=by
  refine A8Q (fun i h'=> Bag (n+i*c) h' p∧Bt p h h') (fun _ y=> ∃a,y=e a∧P a) ws [] 0 h (by simp [O4];omega) ⟨by simpa using b,.refl⟩ (fun w hw j h1 kk hj ⟨b1,t1⟩ hk=> ?_) fun ys h' ay ⟨b',t'⟩=> ?_
  · have z:j*c+c≤ws.length*c:=by rw [←Nat.succ_mul];exact Nat.mul_le_mul_right _ (by omega)
    refine hb w hw _ h1 kk (by omega) b1 fun a h' pa b2 t2=> hk _ h' ⟨a,rfl,pa⟩ ⟨by rw [Nat.succ_mul,←Nat.add_assoc];exact b2,t1.trans t2⟩
  · obtain ⟨as,rfl,l,pa⟩:=A6h ay
    rw [List.nil_append]
    exact q as h' l pa (by simpa using b') t'
theorem B1F {mc mo:Int} (h0:1≤mc) (h1:mc≤6) (g0:1≤mo) (g1:mo≤40):Dr 10 (fun p=> o3 [.ref p,.int mc,.int mo]) fun r=> ∃ss:List Int,r= .val (.tup (ss.map .int))∧1≤ss.length∧ss.length≤mc∧∀s∈ss,1≤s∧s≤mo:=by
  intro p n h Q E b hn q
  show A0l (.ref p) (.int mc) (.int mo) h Q E
  unfold A0l
  simp only [L6,K8,L0,T9,R9,I4,F6,E5,Q6,G6,F3,E8,D4]
  refine (A02 h0 (by omega)).call b (by omega) fun r h' ⟨k,e,k0,k1⟩ b' t=> ?_
  subst e
  simp only [Z9,m4,q9,A0D]
  refine ⟨by omega,?_⟩
  refine B3v (P:=fun s=> 1≤s∧s≤mo) (e:=W.int) (c:=1) _ (by rw [A0z];omega) b' (by rw [A0z];omega) (fun w hw m h1 kk hm b1 hk=> ?_) fun ss h2 l ps b2 t2=> ?_
  · simp only [T6,V7,if_true,E8,I4,F6,E5,V1,G6,F3,D4]
    refine (A02 g0 (by omega)).call0 b1 (by omega) fun r h' ⟨k,e,k0,k1⟩ b' t=> ?_
    subst e
    simp only [Z9,m4,D4]
    exact hk _ _ ⟨by omega,by omega⟩ b' t
  · rw [A0z] at l b2
    simp only [A7b]
    exact q _ _ ⟨ss,rfl,by omega,by omega,ps⟩ (b2.le (by omega)) (t.trans t2)
theorem any_sizes_dr:Dr 20 (fun p=> n8 [.ref p]) fun r=> ∃ss:List Int,r= .val (.tup (ss.map .int))∧A1W ss:=by
  intro p n h Q E b hn q
  show A0h (.ref p) h Q E
  unfold A0h
  simp only [F6,E5,Q6,G6,F3,E8,D4,k9,A07]
  rw [C2 (by simp [O4])]
  refine (A2Q (.inl rfl) (by simp) (by simp)).call b (by omega) fun r h' ⟨w,e,hw⟩ b' t=> ?_
  subst e
  obtain ⟨mo,rfl,g0,g1⟩:∃mo:Int,w= .int mo∧1≤mo∧mo≤40:=by
    simp only [List.mem_cons,List.not_mem_nil,or_false] at hw
    rcases hw with rfl | rfl | rfl | rfl <;> exact ⟨_,rfl,by omega,by omega⟩
  simp only [Z9,D4]
  refine (B1F (by omega) (by omega) g0 g1).call b' (by omega) fun r h2 ⟨ss,e,l1,l2,ps⟩ b2 t2=> ?_
  subst e
  exact q _ _ ⟨ss,rfl,l1,by omega,fun s hs=> ⟨(ps s hs).1,Int.le_trans (ps s hs).2 g1⟩⟩ (b2.le (by omega)) (t.trans t2)
end Ab
namespace Ab
open PySem PySem.Spec PyProof.Rows L2 RZ
def A9m (x_word x_many x_casks:W):MC:=
  ((eIf (E3 (A4 (A5C false) (eV (.val x_word)) (eC (.tup [.str ("over":Str),.str ("down":Str)])))) (W2 (fun i j=> decide (i≤j)) (fun i j=> decide (i≤j)) (eC (.int 4)) (eV (.val x_many)) (A4 oAdd (eC (.int 2)) (eV (.val x_casks)))) (A4 (C6 false) (eV (.val x_many)) (eC (.int 3)))) ret)
def B0G:List W→MC
  | [x_word,x_many,x_casks]=> A9m x_word x_many x_casks
  | _=> bad
def A9n (x_things x_start x_casks:W):MC:=
  (w9 (A1N (A3 (eV (.val x_things)))) () (fun w6 (s1:Unit) kn3 kb4=> un2 w6 fun x_at x_cask=> (F7 (tOr (T8 (E3 (W2 (fun i j=> decide (i≤j)) (fun i j=> decide (i < j)) (eC (.int 0)) (eV (.val x_cask)) (eV (.val x_casks))))) (E3 (A4 (A5C false) (eV (.val x_cask)) (x9 (eV (.val x_things)) y0 (v7 (eV (.val x_at))))))) ((A4 oAdd (eV (.val x_start)) (eV (.val x_at))) ret) (kn3 ()))) fun (s1:Unit)=> ((eC .non) ret))
def A6C:List W→MC
  | [x_things,x_start,x_casks]=> A9n x_things x_start x_casks
  | _=> bad
def B0H (x_sizes x_deed:W):MC:=
  (F7 (tOr (E3 (A4 (C6 false) (F0 C4 (C3 (eV (.val x_deed)) E6)) (eC (.int 0)))) (E3 (A4 (A5C true) (A4 oIx (eV (.val x_deed)) (eC (.int 0))) (A4 oAdd (eC (.tup [.str ("over":Str),.str ("down":Str)])) (eC (.tup [.str ("swap":Str),.str ("tap":Str),.str ("drain":Str)])))))) ((eC (.int 0)) ret) (F7 (T8 (E3 (F4 B0G (A9 (A3 (A4 oIx (eV (.val x_deed)) (eC (.int 0)))) (A9 (A3 (F0 C4 (C3 (eV (.val x_deed)) E6))) (A9 (A3 (F0 C4 (C3 (eV (.val x_sizes)) E6))) B3)))))) ((i7 (eC (.int 1))) ret) (A4w (A3 (eV (.val x_deed))) fun x_word x_things=> (F7 (E3 (A4 (C6 false) (eV (.val x_word)) (eC (.str ("swap":Str))))) ((A3 (F4 A6C (A9 (A3 (eV (.val (SV.fz x_things)))) (A9 (A3 (eC (.int 1))) (A9 (A3 (F0 C4 (C3 (eV (.val x_sizes)) E6))) B3))))) fun x_bad=> (F7 (E3 (A4 (H9 true) (eV (.val x_bad)) (eC .non))) ((eV (.val x_bad)) ret) ((eIf (E3 (A4 (C6 false) (A4 oIx (eV (.val x_sizes)) (A4 oIx (eV (.val (SV.fz x_things))) (eC (.int 0)))) (A4 oIx (eV (.val x_sizes)) (A4 oIx (eV (.val (SV.fz x_things))) (eC (.int 1)))))) (eC .non) (eC (.int 2))) ret))) (A4w (A3 (eV (.val (SV.fz x_things)))) fun x_many x_casks=> (F7 (T8 (E3 (W2 (fun i j=> decide (i≤j)) (fun i j=> decide (i < j)) (eC (.int 0)) (eV (.val x_many)) (eC (.int 1000000000000000000000000000000))))) ((eC (.int 1)) ret) ((F4 A6C (A9 (A3 (eV (.val (SV.fz x_casks)))) (A9 (A3 (eC (.int 2))) (A9 (A3 (F0 C4 (C3 (eV (.val x_sizes)) E6))) B3)))) ret)))))))
def B0O:List W→MC
  | [x_sizes,x_deed]=> B0H x_sizes x_deed
  | _=> bad
theorem B0T {α:Type} {l:List α} {q:α×Nat} (h:q∈l.zipIdx):l[q.2]? =some q.1:=by
  obtain ⟨a,i⟩:=q
  simpa using List.mem_zipIdx_iff_getElem?.mp h
theorem B14 {cs:List Int} {c:Nat} {x:Int}:(cs.map W.int).set c (.int x)=(cs.set c x).map W.int:=by rw [List.map_set]
theorem B01 {cs:List Int} {c:Nat} {k:W→MC} (h:c < cs.length):N6 (cs.map W.int) (c:Int) k=k (.int (cs.getD c 0)):=by
  rw [A7U h]
  congr 2
  rw [List.getD_eq_getElem?_getD,List.getElem?_eq_getElem h];rfl
end Ab
namespace Ab
open PySem PySem.Spec PyProof.Rows L2 RZ
theorem A6k {l:List Int} {c i:Nat} {x:Int}:(l.set c x).getD i 0=if i=c∧c < l.length then x else l.getD i 0:=by
  simp only [List.getD_eq_getElem?_getD,List.getElem?_set]
  by_cases h:c=i
  · subst h
    by_cases h2:c < l.length
    · simp [h2]
    · simp [h2]
  · rw [if_neg h,if_neg (fun z=> h z.1.symm)]
def LeL (as bs:List Int):Prop:=as.length=bs.length∧∀i,as.getD i 0≤bs.getD i 0
noncomputable instance {as bs:List Int}:Decidable (LeL as bs):=Classical.propDecidable _
theorem LeL.set {as bs:List Int} {c:Nat} {x y:Int} (h:LeL as bs) (xy:x≤y):LeL (as.set c x) (bs.set c y):=by
  refine ⟨by rw [List.length_set,List.length_set];exact h.1,fun i=> ?_⟩
  rw [A6k,A6k,←h.1]
  split
  · exact xy
  · exact h.2 i
theorem LeL.refl {as:List Int}:LeL as as:=⟨rfl,fun _=> Int.le_refl _⟩
theorem LeL.trans {as bs cs:List Int} (h:LeL as bs) (g:LeL bs cs):LeL as cs:=⟨h.1.trans g.1,fun i=> Int.le_trans (h.2 i) (g.2 i)⟩
def Dd.still:Dd→Bool
  | .tap _ _=> false
  | .drain _ _=> false
  | _=> true
theorem B1i {f:Int→Int→Int} {as bs:List Int} {i:Nat} (ha:i < as.length) (hb:i < bs.length):(List.zipWith f as bs).getD i 0=f (as.getD i 0) (bs.getD i 0):=by
  simp only [List.getD_eq_getElem?_getD,List.getElem?_zipWith,List.getElem?_eq_getElem ha,List.getElem?_eq_getElem hb]
  rfl
end Ab
namespace Ab
open PySem PySem.Spec PyProof.Rows L2 RZ
def Dd.ws (ds:List Dd):List W:=ds.map Dd.w
theorem A6g {l:List Int} {i:Nat} (h:l.length≤i):l.getD i 0=0:=by
  rw [List.getD_eq_getElem?_getD,List.getElem?_eq_none h];rfl
theorem B38 {as bs:List Int} (hl:as.length=bs.length) (h:∀i,i < as.length→as.getD i 0≤bs.getD i 0):LeL as bs:=⟨hl,fun i=> by
  by_cases hi:i < as.length
  · exact h i hi
  · rw [A6g (by omega),A6g (by omega)];exact Int.le_refl _⟩
theorem max_le {as bs cs:List Int} (h1:LeL as cs) (h2:LeL bs cs):LeL (List.zipWith max as bs) cs:=B38 (by rw [List.length_zipWith,h1.1,h2.1];omega) fun i hi=> by
  have a:=h1.1
  have b:=h2.1
  rw [List.length_zipWith] at hi
  rw [B1i (by omega) (by omega)]
  have:=h1.2 i
  have:=h2.2 i
  omega
end Ab
namespace Ab
open PySem PySem.Spec PyProof.Rows L2 RZ
def o4 (m__law_same:List W→MC) (x_found x_due:W):MC:=
  (F7 (E3 (A4 (H9 false) (eV (.val x_due)) (eC .non))) ((A4 (H9 false) (eV (.val x_found)) (eC .non)) ret) (F7 (E3 (F0 B6 (C3 (eV (.val x_due)) (C3 (eC (.ty "bool")) E6)))) ((x7 (F0 B6 (C3 (eV (.val x_found)) (C3 (eC (.ty "bool")) E6))) (A4 (C6 false) (eV (.val x_found)) (eV (.val x_due)))) ret) (F7 (E3 (F0 B6 (C3 (eV (.val x_due)) (C3 (eC (.ty "int")) E6)))) ((x7 (F0 B6 (C3 (eV (.val x_found)) (C3 (eC (.ty "int")) E6))) (x7 (A5B (F0 B6 (C3 (eV (.val x_found)) (C3 (eC (.ty "bool")) E6)))) (A4 (C6 false) (eV (.val x_found)) (eV (.val x_due))))) ret) (F7 (E3 (F0 B6 (C3 (eV (.val x_due)) (C3 (eC (.ty "str")) E6)))) ((x7 (F0 B6 (C3 (eV (.val x_found)) (C3 (eC (.ty "str")) E6))) (A4 (C6 false) (eV (.val x_found)) (eV (.val x_due)))) ret) (F7 (tOr (E3 (A4 (C6 true) (F0 B6 (C3 (eV (.val x_due)) (C3 (eC (.ty "tuple")) E6))) (F0 B6 (C3 (eV (.val x_found)) (C3 (eC (.ty "tuple")) E6))))) (E3 (A4 (C6 true) (F0 B6 (C3 (eV (.val x_due)) (C3 (eC (.ty "list")) E6))) (F0 B6 (C3 (eV (.val x_found)) (C3 (eC (.ty "list")) E6)))))) ((eC (.bl false)) ret) (F7 (E3 (A4 (C6 true) (F0 C4 (C3 (eV (.val x_found)) E6)) (F0 C4 (C3 (eV (.val x_due)) E6)))) ((eC (.bl false)) ret) ((F0 A1T (C3 (eLc (A0M (C3 (F0 C4 (C3 (eV (.val x_due)) E6)) E6)) fun x_at kk=> lcb A3D (A3 (A2V m__law_same (A9 (A3 (A4 oIx (eV (.val x_found)) (eV (.val x_at)))) (A9 (A3 (A4 oIx (eV (.val x_due)) (eV (.val x_at)))) B3)))) kk) E6)) ret)))))))
def m__law_same:Nat→List W→MC
  | 0=> fun _=> bad
  | d+1=> fun ws=> match ws with
    | [x_found,x_due]=> o4 (m__law_same d) x_found x_due
    | _=> bad
section
variable {k:SV→MC} {b c:Bool} {i:Int} {x:Str} {xs:List W} {T:String}
theorem G4 {w:W} {n:String} {r:Bool} (hv:∀h,viewW h w= .wv w) (e1:w.tyName=some n) (e2:i4 n T=some r):cb B6 [.val w,.val (.ty T)] k=k (.val (.bl r)):=by
  funext h Q E
  show B6 [viewW h w,.wv (.ty T)] _=_
  rw [hv,B4R]
  show (match (Vw.wv w).tyName with
    | some n=> (match i4 n T with
      | some b=> U2 k (.val (.bl b)) h Q E
      | none=> False)
    | none=> False)=_
  rw [show (Vw.wv w).tyName=w.tyName from rfl,e1]
  show (match i4 n T with
      | some b=> U2 k (.val (.bl b)) h Q E
      | none=> False)=_
  rw [e2]
  rfl
theorem X7:cb B6 [.val .non,.val (.ty "bool")] k=k (.val (.bl false)):=G4 (fun _=> rfl) rfl rfl
theorem Z3:cb B6 [.val .non,.val (.ty "int")] k=k (.val (.bl false)):=G4 (fun _=> rfl) rfl rfl
theorem Y9:cb B6 [.val .non,.val (.ty "str")] k=k (.val (.bl false)):=G4 (fun _=> rfl) rfl rfl
theorem X1:cb B6 [.val .non,.val (.ty "tuple")] k=k (.val (.bl false)):=G4 (fun _=> rfl) rfl rfl
theorem X8:cb B6 [.val .non,.val (.ty "list")] k=k (.val (.bl false)):=G4 (fun _=> rfl) rfl rfl
theorem Y7:cb B6 [.val (.bl b),.val (.ty "bool")] k=k (.val (.bl true)):=G4 (fun _=> rfl) rfl rfl
theorem Z5:cb B6 [.val (.bl b),.val (.ty "int")] k=k (.val (.bl true)):=G4 (fun _=> rfl) rfl rfl
theorem Z6:cb B6 [.val (.bl b),.val (.ty "str")] k=k (.val (.bl false)):=G4 (fun _=> rfl) rfl rfl
theorem Y0:cb B6 [.val (.bl b),.val (.ty "tuple")] k=k (.val (.bl false)):=G4 (fun _=> rfl) rfl rfl
theorem Y5:cb B6 [.val (.bl b),.val (.ty "list")] k=k (.val (.bl false)):=G4 (fun _=> rfl) rfl rfl
theorem X9:cb B6 [.val (.int i),.val (.ty "bool")] k=k (.val (.bl false)):=G4 (fun _=> rfl) rfl rfl
theorem Y8:cb B6 [.val (.int i),.val (.ty "int")] k=k (.val (.bl true)):=G4 (fun _=> rfl) rfl rfl
theorem Y6:cb B6 [.val (.int i),.val (.ty "str")] k=k (.val (.bl false)):=G4 (fun _=> rfl) rfl rfl
theorem W9:cb B6 [.val (.int i),.val (.ty "tuple")] k=k (.val (.bl false)):=G4 (fun _=> rfl) rfl rfl
theorem Y2:cb B6 [.val (.int i),.val (.ty "list")] k=k (.val (.bl false)):=G4 (fun _=> rfl) rfl rfl
theorem X6:cb B6 [.val (.str x),.val (.ty "bool")] k=k (.val (.bl false)):=G4 (fun _=> rfl) rfl rfl
theorem Z0:cb B6 [.val (.str x),.val (.ty "int")] k=k (.val (.bl false)):=G4 (fun _=> rfl) rfl rfl
theorem Y3:cb B6 [.val (.str x),.val (.ty "str")] k=k (.val (.bl true)):=G4 (fun _=> rfl) rfl rfl
theorem W8:cb B6 [.val (.str x),.val (.ty "tuple")] k=k (.val (.bl false)):=G4 (fun _=> rfl) rfl rfl
theorem X3:cb B6 [.val (.str x),.val (.ty "list")] k=k (.val (.bl false)):=G4 (fun _=> rfl) rfl rfl
theorem X4:cb B6 [.val (.tup xs),.val (.ty "bool")] k=k (.val (.bl false)):=G4 (fun _=> rfl) rfl rfl
theorem Z4:cb B6 [.val (.tup xs),.val (.ty "int")] k=k (.val (.bl false)):=G4 (fun _=> rfl) rfl rfl
theorem Y4:cb B6 [.val (.tup xs),.val (.ty "str")] k=k (.val (.bl false)):=G4 (fun _=> rfl) rfl rfl
theorem W7:cb B6 [.val (.tup xs),.val (.ty "tuple")] k=k (.val (.bl true)):=G4 (fun _=> rfl) rfl rfl
theorem Y1:cb B6 [.val (.tup xs),.val (.ty "list")] k=k (.val (.bl false)):=G4 (fun _=> rfl) rfl rfl
theorem X2:cb B6 [.val (.lst xs),.val (.ty "bool")] k=k (.val (.bl false)):=G4 (fun _=> rfl) rfl rfl
theorem Z1:cb B6 [.val (.lst xs),.val (.ty "int")] k=k (.val (.bl false)):=G4 (fun _=> rfl) rfl rfl
theorem Z2:cb B6 [.val (.lst xs),.val (.ty "str")] k=k (.val (.bl false)):=G4 (fun _=> rfl) rfl rfl
theorem W6:cb B6 [.val (.lst xs),.val (.ty "tuple")] k=k (.val (.bl false)):=G4 (fun _=> rfl) rfl rfl
theorem X5:cb B6 [.val (.lst xs),.val (.ty "list")] k=k (.val (.bl true)):=G4 (fun _=> rfl) rfl rfl
theorem A2c:F8 (.bl b) (.bl c)=decide (b=c):=by cases b <;> cases c <;> rfl
theorem l7:B9 (C6 false) (.val (.bl b)) (.val (.bl c)) k=k (.val (.bl (decide (b=c)))):=by
  funext h Q E
  show (_∧_∧_)=_
  refine propext ⟨fun z=> ?_,fun z=> ⟨rfl,rfl,?_⟩⟩
  · have z:=z.2.2
    rw [←A2c]
    exact z
  · rw [←A2c] at z
    exact z
theorem A73:B9 (H9 false) (.val (.bl b)) (.val .non) k=k (.val (.bl false)):=V3 (fun _=> rfl)
theorem c8:B9 (C6 true) (.val (.bl b)) (.val (.bl c)) k=k (.val (.bl (!decide (b=c)))):=by
  funext h Q E
  show (_∧_∧_)=_
  refine propext ⟨fun z=> ?_,fun z=> ⟨rfl,rfl,?_⟩⟩
  · have z:=z.2.2
    rw [←A2c]
    exact z
  · rw [←A2c] at z
    exact z
end
mutual
def W.sm:Nat→W→Bool
  | _,.non=> true
  | _,.bl _=> true
  | _,.int _=> true
  | _,.str _=> true
  | n+1,.tup xs=> decide (xs.length≤100000) && W.sms n xs
  | n+1,.lst xs=> decide (xs.length≤100000) && W.sms n xs
  | _,_=> false
def W.sms:Nat→List W→Bool
  | _,[]=> true
  | n,x::xs=> W.sm n x && W.sms n xs
end
theorem W.sms_mem {n:Nat}:∀{xs:List W},W.sms n xs=true→∀x∈xs,x.sm n=true
  | [],_,x,h=> by cases h
  | y::ys,e,x,h=> by
    simp only [W.sms,Bool.and_eq_true] at e
    rcases List.mem_cons.mp h with rfl | h
    · exact e.1
    · exact W.sms_mem e.2 x h
theorem W.sms_of {n:Nat}:∀{xs:List W},(∀x∈xs,x.sm n=true)→W.sms n xs=true
  | [],_=> rfl
  | x::xs,h=> by
    simp only [W.sms,Bool.and_eq_true]
    exact ⟨h x (by simp),W.sms_of fun y hy=> h y (by simp [hy])⟩
theorem A7g {n:Nat} {xs:List W} (l:xs.length≤100000) (h:∀x∈xs,x.sm n=true):(W.lst xs).sm (n+1)=true:=by
  simp only [W.sm,Bool.and_eq_true,decide_eq_true_eq];exact ⟨l,W.sms_of h⟩
theorem A2I:∀(d:Nat) (w:W),w.sm d=true→m__law_same (d+1) [w,w]=ret (.val (.bl true)):=by
  intro d
  induction d with
  | zero=>
    intro w h
    show o4 _ w w=_
    unfold o4
    cases w with
    | non=> simp only [↓E5,↓F6,↓I4,↓E8,↓F3,↓G6,↓L0,↓K8,↓L6,↓V7,↓M5,↓W0,↓a9,↓b9,↓V1,↓R9,↓M6,↓T6,↓T9,↓H8,↓A6x,if_true,if_false,Bool.not_true,Bool.not_false,Bool.false_eq_true,decide_true,↓X7,↓Z3,↓Y9,↓X1,↓X8,↓Y7,↓Z5,↓Z6,↓Y0,↓Y5,↓X9,↓Y8,↓Y6,↓W9,↓Y2,↓X6,↓Z0,↓Y3,↓W8,↓X3,↓X4,↓Z4,↓Y4,↓W7,↓Y1,↓X2,↓Z1,↓Z2,↓W6,↓X5,↓l7,↓c8]
    | bl b=> simp only [↓E5,↓F6,↓I4,↓E8,↓F3,↓G6,↓L0,↓K8,↓L6,↓V7,↓M5,↓W0,↓a9,↓b9,↓V1,↓R9,↓M6,↓T6,↓T9,↓H8,if_true,if_false,Bool.not_true,Bool.false_eq_true,decide_true,↓A73,↓X7,↓Z3,↓Y9,↓X1,↓X8,↓Y7,↓Z5,↓Z6,↓Y0,↓Y5,↓X9,↓Y8,↓Y6,↓W9,↓Y2,↓X6,↓Z0,↓Y3,↓W8,↓X3,↓X4,↓Z4,↓Y4,↓W7,↓Y1,↓X2,↓Z1,↓Z2,↓W6,↓X5,↓l7,↓c8]
    | int i=> simp only [↓E5,↓F6,↓I4,↓E8,↓F3,↓G6,↓L0,↓K8,↓L6,↓V7,↓M5,↓W0,↓a9,↓b9,↓V1,↓R9,↓M6,↓T6,↓T9,↓H8,↓A4b,↓A6y,if_true,if_false,Bool.not_true,Bool.not_false,Bool.false_eq_true,decide_true,↓X7,↓Z3,↓Y9,↓X1,↓X8,↓Y7,↓Z5,↓Z6,↓Y0,↓Y5,↓X9,↓Y8,↓Y6,↓W9,↓Y2,↓X6,↓Z0,↓Y3,↓W8,↓X3,↓X4,↓Z4,↓Y4,↓W7,↓Y1,↓X2,↓Z1,↓Z2,↓W6,↓X5,↓l7,↓c8]
    | str x=> simp only [↓E5,↓F6,↓I4,↓E8,↓F3,↓G6,↓L0,↓K8,↓L6,↓V7,↓M5,↓W0,↓a9,↓b9,↓V1,↓R9,↓M6,↓T6,↓T9,↓H8,↓q9,↓A7o,↓A0L,↓A4U,↓A7N,if_true,if_false,Bool.not_true,Bool.not_false,Bool.false_eq_true,decide_true,Int.toNat_natCast,O4,↓X7,↓Z3,↓Y9,↓X1,↓X8,↓Y7,↓Z5,↓Z6,↓Y0,↓Y5,↓X9,↓Y8,↓Y6,↓W9,↓Y2,↓X6,↓Z0,↓Y3,↓W8,↓X3,↓X4,↓Z4,↓Y4,↓W7,↓Y1,↓X2,↓Z1,↓Z2,↓W6,↓X5,↓l7,↓c8]
    | tup xs=> simp [W.sm] at h
    | lst xs=> simp [W.sm] at h
    | dct _ _=> simp [W.sm] at h
    | ref _=> simp [W.sm] at h
    | ty _=> simp [W.sm] at h
  | succ d ih=>
    intro w h
    show o4 (m__law_same (d+1)) w w=_
    unfold o4
    have seq:∀xs:List W,xs.length≤100000→(∀x∈xs,x.sm d=true)→∀v:W,(∀(i:Nat) (k:SV→MC),i < xs.length→B9 oIx (.val v) (.val (.int i)) k=N6 xs i fun w=> k (.val w))→
        ∀k:SV→MC,R8 (fun x_at kk=> B9 oIx (.val v) (.val x_at) fun x=> B9 oIx (.val v) (.val x_at) fun y=> call0 (m__law_same (d+1) [x.fz,y.fz]) fun z=> kk (some z.fz)) (fun acc=> k (.own (.seq acc))) (N3 0 xs.length) []=k (.own (.seq ((List.replicate xs.length true).map W.bl))):=by
      intro xs hl hx v hv k
      rw [A6P,B2n M8 (fun _=> .bl true) _ (fun i hi kk=> ?_) (by simp [O4];omega)]
      · congr 3
        rw [List.map_const',List.map_replicate,List.length_range]
      · have hi:i < xs.length:=by simpa using hi
        rw [hv i _ hi,A2T hi,hv i _ hi,A2T hi,D4,ih _ (hx _ (List.getElem_mem hi)),B0X,D4]
    cases w with
    | non=> simp only [↓E5,↓F6,↓I4,↓E8,↓F3,↓G6,↓L0,↓K8,↓L6,↓V7,↓M5,↓W0,↓a9,↓b9,↓V1,↓R9,↓M6,↓T6,↓T9,↓H8,↓A6x,if_true,if_false,Bool.not_true,Bool.not_false,Bool.false_eq_true,decide_true,↓X7,↓Z3,↓Y9,↓X1,↓X8,↓Y7,↓Z5,↓Z6,↓Y0,↓Y5,↓X9,↓Y8,↓Y6,↓W9,↓Y2,↓X6,↓Z0,↓Y3,↓W8,↓X3,↓X4,↓Z4,↓Y4,↓W7,↓Y1,↓X2,↓Z1,↓Z2,↓W6,↓X5,↓l7,↓c8]
    | bl b=> simp only [↓E5,↓F6,↓I4,↓E8,↓F3,↓G6,↓L0,↓K8,↓L6,↓V7,↓M5,↓W0,↓a9,↓b9,↓V1,↓R9,↓M6,↓T6,↓T9,↓H8,if_true,if_false,Bool.not_true,Bool.false_eq_true,decide_true,↓A73,↓X7,↓Z3,↓Y9,↓X1,↓X8,↓Y7,↓Z5,↓Z6,↓Y0,↓Y5,↓X9,↓Y8,↓Y6,↓W9,↓Y2,↓X6,↓Z0,↓Y3,↓W8,↓X3,↓X4,↓Z4,↓Y4,↓W7,↓Y1,↓X2,↓Z1,↓Z2,↓W6,↓X5,↓l7,↓c8]
    | int i=> simp only [↓E5,↓F6,↓I4,↓E8,↓F3,↓G6,↓L0,↓K8,↓L6,↓V7,↓M5,↓W0,↓a9,↓b9,↓V1,↓R9,↓M6,↓T6,↓T9,↓H8,↓A4b,↓A6y,if_true,if_false,Bool.not_true,Bool.not_false,Bool.false_eq_true,decide_true,↓X7,↓Z3,↓Y9,↓X1,↓X8,↓Y7,↓Z5,↓Z6,↓Y0,↓Y5,↓X9,↓Y8,↓Y6,↓W9,↓Y2,↓X6,↓Z0,↓Y3,↓W8,↓X3,↓X4,↓Z4,↓Y4,↓W7,↓Y1,↓X2,↓Z1,↓Z2,↓W6,↓X5,↓l7,↓c8]
    | str x=> simp only [↓E5,↓F6,↓I4,↓E8,↓F3,↓G6,↓L0,↓K8,↓L6,↓V7,↓M5,↓W0,↓a9,↓b9,↓V1,↓R9,↓M6,↓T6,↓T9,↓H8,↓q9,↓A7o,↓A0L,↓A4U,↓A7N,if_true,if_false,Bool.not_true,Bool.not_false,Bool.false_eq_true,decide_true,Int.toNat_natCast,O4,↓X7,↓Z3,↓Y9,↓X1,↓X8,↓Y7,↓Z5,↓Z6,↓Y0,↓Y5,↓X9,↓Y8,↓Y6,↓W9,↓Y2,↓X6,↓Z0,↓Y3,↓W8,↓X3,↓X4,↓Z4,↓Y4,↓W7,↓Y1,↓X2,↓Z1,↓Z2,↓W6,↓X5,↓l7,↓c8]
    | tup xs=>
      simp only [W.sm,Bool.and_eq_true,decide_eq_true_eq] at h
      have hl:=h.1
      simp only [↓E5,↓F6,↓I4,↓E8,↓F3,↓G6,↓L0,↓K8,↓L6,↓V7,↓M5,↓W0,↓a9,↓b9,↓V1,↓R9,↓M6,↓T6,↓T9,↓H8,↓q9,↓V5,↓A0L,↓B2W,if_true,if_false,Bool.not_true,Bool.not_false,Bool.false_eq_true,decide_true,Int.toNat_natCast,↓X7,↓Z3,↓Y9,↓X1,↓X8,↓Y7,↓Z5,↓Z6,↓Y0,↓Y5,↓X9,↓Y8,↓Y6,↓W9,↓Y2,↓X6,↓Z0,↓Y3,↓W8,↓X3,↓X4,↓Z4,↓Y4,↓W7,↓Y1,↓X2,↓Z1,↓Z2,↓W6,↓X5,↓c8]
      rw [C2 (by omega)]
      refine (seq xs h.1 (W.sms_mem h.2) (.tup xs) (fun i k _=> A4Y) (fun z=> cb A1T [z] ret)).trans ?_
      rw [A7q]
      simp
    | lst xs=>
      simp only [W.sm,Bool.and_eq_true,decide_eq_true_eq] at h
      have hl:=h.1
      simp only [↓E5,↓F6,↓I4,↓E8,↓F3,↓G6,↓L0,↓K8,↓L6,↓V7,↓M5,↓W0,↓a9,↓b9,↓V1,↓R9,↓M6,↓T6,↓T9,↓H8,↓q9,↓A36,↓A0L,↓B2E,if_true,if_false,Bool.not_true,Bool.not_false,Bool.false_eq_true,decide_true,Int.toNat_natCast,↓X7,↓Z3,↓Y9,↓X1,↓X8,↓Y7,↓Z5,↓Z6,↓Y0,↓Y5,↓X9,↓Y8,↓Y6,↓W9,↓Y2,↓X6,↓Z0,↓Y3,↓W8,↓X3,↓X4,↓Z4,↓Y4,↓W7,↓Y1,↓X2,↓Z1,↓Z2,↓W6,↓X5,↓c8]
      rw [C2 (by omega)]
      refine (seq xs h.1 (W.sms_mem h.2) (.lst xs) (fun i k _=> A4Z) (fun z=> cb A1T [z] ret)).trans ?_
      rw [A7q]
      simp
    | dct _ _=> simp [W.sm] at h
    | ref _=> simp [W.sm] at h
    | ty _=> simp [W.sm] at h
end Ab
namespace Ab
open PySem PySem.Spec PyProof.Rows L2 RZ
def n4 (x_sizes:W):MC:=
  (F7 (T8 (E3 (W2 (fun i j=> decide (i≤j)) (fun i j=> decide (i≤j)) (eC (.int 1)) (F0 C4 (C3 (eV (.val x_sizes)) E6)) (eC (.int 6))))) (A2k "BadSizes" "bad sizes" ["cask"] (A9 (A3 (i7 (eC (.int 1)))) B3)) (w9 (A1N (A3 (eV (.val x_sizes)))) () (fun w6 (s1:Unit) kn3 kb4=> un2 w6 fun x_cask x_size=> (F7 (T8 (E3 (W2 (fun i j=> decide (i≤j)) (fun i j=> decide (i≤j)) (eC (.int 1)) (eV (.val x_size)) (eC (.int 40))))) (A2k "BadSizes" "bad sizes" ["cask"] (A9 (A3 (eV (.val x_cask))) B3)) (kn3 ()))) fun (s1:Unit)=> (ret (.val .non))))
def L7:List W→MC
  | [x_sizes]=> n4 x_sizes
  | _=> bad
def B0U (x_step:W):MC:=
  ((x7 (A4 y7 (F0 C4 (C3 (eV (.val x_step)) E6)) (eC (.int 0))) (A4 (C6 false) (A4 oIx (eV (.val x_step)) (eC (.int 0))) (eC (.str ("call":Str))))) ret)
def B0u:List W→MC
  | [x_step]=> B0U x_step
  | _=> bad
def A9j (x_step:W):MC:=
  (F7 (E3 (A4 (C6 true) (F0 C4 (C3 (eV (.val x_step)) E6)) (eC (.int 3)))) ((i7 (eC (.int 1))) ret) ((eIf (E3 (W2 (fun i j=> decide (i≤j)) (fun i j=> decide (i≤j)) (eC (.int 0)) (A4 oIx (eV (.val x_step)) (eC (.int 2))) (eC (.int 9)))) (eC .non) (eC (.int 2))) ret))
def A9o:List W→MC
  | [x_step]=> A9j x_step
  | _=> bad
def A0i (x_self x_sizes:W):MC:=
  ((F4 L7 (A9 (A3 (eV (.val x_sizes))) B3)) fun _=> (c7 "Book" "casks" (A3 (eV (.val x_sizes))) (eV (.val x_self)) ((c7 "Book" "written" (w7 A2m) (eV (.val x_self)) ((c7 "Book" "laid" (w7 A2m) (eV (.val x_self)) ((ret (.val .non)))))))))
def U6:List W→MC
  | [x_self,x_sizes]=> A0i x_self x_sizes
  | _=> bad
inductive St where
  | call (n:Str) (t:Nat) | deed (d:Dd)
def St.w:St→W
  | .call n t=> .tup [.str "call",.str n,.int (t:Int)]
  | .deed d=> d.w
def St.ok (ss:List Int):St→Prop
  | .call _ t=> t≤9
  | .deed d=> d.ok ss
theorem St.nb (s:St):s.w.nb 1=true:=by
  cases s with
  | call n t=> rfl
  | deed d=> exact B4P d
structure Ent where
  name:Str
  steps:List St
  deeds:List Dd
def Ent.wr (e:Ent):Str×W:=(e.name,.lst (e.steps.map St.w))
def Ent.la (e:Ent):Str×W:=(e.name,.lst (e.deeds.map Dd.w))
structure BookAt (h:AH) (b:Addr) (s:W) (pw pl:Addr) (es:List Ent):Prop where
  ob:h b=some (.ins "Book" [("casks",s),("written",.ref pw),("laid",.ref pl)])
  wr:h pw=some (.cont (.map (smap (es.map Ent.wr))))
  la:h pl=some (.cont (.map (smap (es.map Ent.la))))
  ne:pw≠pl
def B33 (es:List Ent) (x:Str):Option Ent:=es.find? fun e=> e.name==x
section
variable {Q:RR→AH→Prop} {E:AExc→AH→Prop} {h:AH} {b pw pl:Addr} {s:W} {es:List Ent} {k:SV→MC}
inductive Sw where
  | good (s:St) | odd (w:W) (p:Int)
def Sw.w:Sw→W
  | .good s=> s.w
  | .odd w _=> w
def Sw.ok (ss:List Int):Sw→Prop
  | .good s=> s.ok ss
  | .odd w p=> ∃c,B0u [w]=ret (.val (.bl c))∧(c=true→A9o [w]=ret (.val (.int p)))∧(c=false→B0O [.tup (ss.map .int),w]=ret (.val (.int p)))
def St.there (es:List Ent):St→Prop
  | .call n _=> (B33 es n).isSome=true
  | .deed _=> True
def B7t (x:Str):St→Bool
  | .call n _=> n==x
  | .deed _=> false
theorem A9d {ss:List Int} (hs:A1W ss):L7 [.tup (ss.map .int)]=ret (.val .non):=by
  show n4 _=_
  unfold n4
  obtain ⟨l1,l2,s3⟩:=hs
  have e1:decide ((1:Int)≤ss.length)=true:=decide_eq_true (by omega)
  have e2:decide ((ss.length:Int)≤6)=true:=decide_eq_true (by omega)
  simp only [M6,u7,M5,A0Q,F6,E5,L6,K8,L0,V5,List.length_map,T2,H8,e1,e2,if_true,Bool.not_true,Bool.false_eq_true,if_false,A0B,A2L,E8,D4,A14,A7r]
  refine B07 _ fun w hw kn=> ?_
  obtain ⟨⟨s,i⟩,hq,rfl⟩:=List.mem_map.mp hw
  obtain ⟨g1,g2⟩:=s3 s (List.mem_of_getElem? (B0T hq))
  simp only [A7S,M6,u7,M5,A0Q,F6,E5,T2,H8,decide_eq_true g1,decide_eq_true g2,if_true,Bool.not_true,Bool.false_eq_true,if_false]
end
end Ab
namespace Ab
open PySem PySem.Spec PyProof.Rows L2 RZ
def A0w (x_many x_stand:W):MC:=
  ((A4 oMulT (P7 (A9 (A3 (eC (.int 0))) B3)) (eV (.val x_many))) fun x_held=> (w9 (A4F (A3 (eV (.val x_stand)))) x_held (fun x_place (s1:SV) kn3 kb4=> (F7 (E3 (A4 (C6 true) (eV (.val x_place)) (eC (.int (-1))))) (A3A (fun i j=> i+j) s1 (eV (.val x_place)) (eC (.int 1)) fun x_held=> (kn3 x_held)) (kn3 s1))) fun (s1:SV)=> ((F0 O5 (C3 (eV s1) E6)) ret)))
def p9:List W→MC
  | [x_many,x_stand]=> A0w x_many x_stand
  | _=> bad
def I7 (n:Nat) (st:List Int):List Int:=(List.range n).map fun (c:Nat)=> (st.count (c:Int):Int)
theorem B2J {n:Nat} {st:List Int}:(I7 n st).length=n:=by simp [I7]
theorem B1n {n c:Nat} {st:List Int} (h:c < n):(I7 n st).getD c 0=st.count (c:Int):=by
  simp [I7,List.getD_eq_getElem?_getD,h]
theorem A63 {n:Nat}:I7 n []=List.replicate n 0:=by
  simp [I7,List.map_const']
theorem B04 {n c:Nat} {st:List Int} (h:c < n):(I7 n st).set c ((I7 n st).getD c 0+1)=I7 n (st++[(c:Int)]):=by
  have z:=B1n (st:=st) h
  generalize (I7 n st).getD c 0=v at z
  subst z
  refine List.ext_getElem (by simp [I7]) fun i h1 h2=> ?_
  have hi:i < n:=by simpa [I7] using h2
  rw [List.getElem_set]
  simp only [I7,List.getElem_map,List.getElem_range,List.count_append,List.count_singleton]
  by_cases e:c=i
  · subst e;simp
  · have e2:¬(c:Int)=(i:Int):=by omega
    simp [e,e2]
theorem B08 {n:Nat} {st:List Int} {p:Int} (h:p < 0):I7 n (st++[p])=I7 n st:=by
  refine List.ext_getElem (by simp [I7]) fun i h1 h2=> ?_
  simp only [I7,List.getElem_map,List.getElem_range,List.count_append,List.count_singleton]
  have e2:¬p=(i:Int):=by omega
  simp [e2]
structure StOk (ss st:List Int):Prop where
  len:st.length≤60
  at_:∀p∈st,-1≤p∧p < ss.length
  cap:∀c,c < ss.length→(st.count (c:Int):Int)≤ss.getD c 0
theorem B44 (n:Nat):(List.replicate n [W.int 0]).flatten=(List.replicate n (0:Int)).map W.int:=by
  induction n with
  | zero=> rfl
  | succ n ih=> rw [List.replicate_succ,List.flatten_cons,ih,List.replicate_succ];rfl
theorem B0P {α:Type} (l:List α):l.foldl (fun (pre:List α) p=> pre++[p]) []=l:=by
  have z:∀(l acc:List α),l.foldl (fun (pre:List α) p=> pre++[p]) acc=acc++l:=by
    intro l
    induction l with
    | nil=> intro acc;simp
    | cons a l ih=> intro acc;rw [List.foldl_cons,ih];simp
  simpa using z l []
theorem B2V {n c:Nat} {st:List Int} {k:SV→MC} (h:c < n) (hn:n≤100):A20 (fun i j=> i+j) (.own (.seq ((I7 n st).map .int))) (.val (.int (c:Int))) (eC (.int 1)) k=k (.own (.seq ((I7 n (st++[(c:Int)])).map .int))):=by
  have e:((I7 n st).map W.int)[c]? =some (.int ((I7 n st).getD c 0)):=by
    have h2:c < (I7 n st).length:=by rw [B2J];exact h
    rw [List.getElem?_map,List.getD_eq_getElem?_getD,List.getElem?_eq_getElem h2]
    rfl
  rw [B2P e (by omega)]
  show k (.own (.seq (((I7 n st).map W.int).set c (W.int ((I7 n st).getD c 0+1)))))=_
  rw [B14,B04 h]
theorem B0V {n:Nat} {st:List Int} (hn:n≤100) (h:∀p∈st,-1≤p∧p < n):p9 [.int n,.tup (st.map .int)]=ret (.val (.tup ((I7 n st).map .int))):=by
  show A0w _ _=_
  unfold A0w
  simp only [↓E5,↓F6,↓I4,↓E8,↓F3,↓G6,↓k9,↓L0,↓K8,↓L6,↓M5,↓B1J,↓M6,↓A4H,↓A0B,↓D4,↓A14,↓l5,↓A4a,Int.toNat_natCast,List.length_cons,List.length_nil,O4,Nat.zero_add,Nat.reduceLeDiff]
  rw [C2 (by omega),B44,←A63 (n:=n),
    A7E W.int (fun pre:List Int=> SV.own (.seq ((I7 n pre).map W.int))) (fun pre p=> pre++[p]) (fun j pre=> pre=st.take j) st [] 0 (by simp) fun j p hj pre e=> ?_]
  · have e:st.foldl (fun pre p=> pre++[p]) []=st:=B0P st
    rw [e]
    exact A7b
  subst e
  rw [Nat.zero_add]
  have tk:st.take j++[p]=st.take (j+1):=by rw [List.take_succ,hj];rfl
  refine ⟨tk,fun kn=> ?_⟩
  obtain ⟨a0,a1⟩:=h p (List.mem_of_getElem? hj)
  by_cases g:p= -1
  · rw [g,B08 (by omega)]
    simp only [↓H8,↓A0L,if_false,Bool.not_true,Bool.false_eq_true,decide_true]
  · obtain ⟨c,hc⟩:∃c:Nat,p=c:=⟨p.toNat,by omega⟩
    have c1:c < n:=by omega
    have g2:¬(c:Int)= -1:=by omega
    simp only [↓H8,↓A0L,if_true,Bool.not_false,hc,decide_eq_false g2,B2V c1 hn]
def B2Y (st:List Int) (c:Int):List Nat:=(st.zipIdx.filter fun p=> decide (p.1=c)).map (·.2)
end Ab
namespace Ab
open PySem PySem.Spec PyProof.Rows L2 RZ
def A4f:Option Int→W
  | none=> .str "none"
  | some i=> .int i
def B4f (X:Int→AExc) (r:MC):Option Int→MC
  | none=> r
  | some i=> T5 (X i)
theorem A6V {α β:Type} (p:α→Bool) (g:α→β):∀l:List α,(l.findSome? fun a=> if p a=true then some (g a) else none)=(l.find? p).map g
  | []=> rfl
  | a::l=> by
    by_cases h:p a=true
    · rw [List.findSome?_cons_of_isSome (by rw [if_pos h];rfl),if_pos h,List.find?_cons_of_pos h];rfl
    · rw [List.findSome?_cons_of_isNone (by rw [if_neg h];rfl),List.find?_cons_of_neg h,A6V p g l]
theorem B0Z {α:Type} (l:List α) (d:α):l.zipIdx=(List.range l.length).map fun i=> (l.getD i d,i):=by
  refine List.ext_getElem (by simp) fun i h1 h2=> ?_
  have hi:i < l.length:=by simpa using h2
  simp [List.getD_eq_getElem?_getD,hi]
end Ab
namespace Ab
open PySem PySem.Spec PyProof.Rows L2 RZ
end Ab
namespace Ab
open PySem PySem.Spec PyProof.Rows L2 RZ
def Grow (h h':AH):Prop:=∀q o,h q=some o→h' q=some o
theorem Grow.refl {h:AH}:Grow h h:=fun _ _ e=> e
theorem Grow.trans {h h1 h2:AH} (a:Grow h h1) (b:Grow h1 h2):Grow h h2:=fun q o e=> b q o (a q o e)
theorem Grow.upd {h:AH} {p:Addr} {o:AO} (f:h p=none):Grow h (C9 h p o):=fun q o' e=> by
  have ne:q≠p:=fun z=> by rw [z,f] at e;cases e
  exact (L8 ne).trans e
def Te (m:MC) (r:RR):Prop:=∀(h:AH) (Q:RR→AH→Prop) (E:AExc→AH→Prop),(∀h',Grow h h'→Q r h')→m h Q E
theorem Te.call {m:MC} {r:RR} {K:SV→MC} {h:AH} {Q:RR→AH→Prop} {E:AExc→AH→Prop} (t:Te m r) (q:∀h',Grow h h'→K r.sv h' Q E):call m K h Q E:=t h _ _ q
theorem Te.of {m:MC} {x:SV} {r:RR} (e:m=ret x) (er:∀h Q E,Q r h→ret x h Q E):Te m r:=fun h Q E q=> by rw [e];exact er h Q E (q h .refl)
end Ab
namespace Ab
open PySem PySem.Spec PyProof.Rows L2 RZ
def B4i (h:AH):List (Addr×List W)→AH
  | []=> h
  | p::r=> C9 (B4i h r) p.1 (.cont (.seq p.2))
structure NewL (h:AH) (l:List (Addr×List W)):Prop where
  nd:(l.map (·.1)).Nodup
  fr:∀p∈l,h p.1=none
def Dd.fits (ss st:List Int):Dd→Prop
  | .tap n c=> st.length+min n (ss.getD c 0 - (B2Y st (c:Int)).length)≤60
  | _=> True
instance {ss st:List Int} {d:Dd}:Decidable (d.fits ss st):=by
  cases d <;> unfold Dd.fits <;> infer_instance
end Ab
namespace Ab
open PySem PySem.Spec PyProof.Rows L2 RZ
end Ab
namespace Ab
open PySem PySem.Spec PyProof.Rows L2 RZ
structure Pn where
  step:W
  row:W
  times:Int
  st:List Int
  bk:Addr
def Pn.w (e:Pn):W:= .tup [e.step,e.row,.int e.times,.tup (e.st.map .int),.ref e.bk]
def B4F (ss st:List Int) (b pp pl:Addr):List (Str×W):=[("casks",.tup (ss.map .int)),("now",.tup (st.map .int)),("book",.ref b),("past",.ref pp),("later",.ref pl)]
structure LoftAt (h:AH) (o:Addr) (ss st:List Int) (b pp pl:Addr) (past later:List Pn):Prop where
  ob:h o=some (.ins "Loft" (B4F ss st b pp pl))
  pa:h pp=some (.cont (.seq (past.map Pn.w)))
  la:h pl=some (.cont (.seq (later.map Pn.w)))
  ne:pp≠pl
section
variable {Q:RR→AH→Prop} {E:AExc→AH→Prop} {h:AH} {o b pp pl:Addr} {ss st:List Int} {past later:List Pn} {k:SV→MC}
theorem LoftAt.same {h':AH} (L:LoftAt h o ss st b pp pl past later) (e1:h' o=h o) (e2:h' pp=h pp) (e3:h' pl=h pl):LoftAt h' o ss st b pp pl past later:=⟨e1.trans L.ob,e2.trans L.pa,e3.trans L.la,L.ne⟩
end
end Ab
namespace Ab
open PySem PySem.Spec PyProof.Rows L2 RZ
def n7 (x_sizes x_stand:W):MC:=
  ((F4 L7 (A9 (A3 (eV (.val x_sizes))) B3)) fun _=> (F7 (E3 (A4 y7 (F0 C4 (C3 (eV (.val x_stand)) E6)) (eC (.int 60)))) bad ((A4 oMulT (P7 (A9 (A3 (eC (.int 0))) B3)) (F0 C4 (C3 (eV (.val x_sizes)) E6))) fun x_held=> (w9 (A1N (A3 (eV (.val x_stand)))) x_held (fun w6 (s1:SV) kn3 kb4=> un2 w6 fun x_rank x_place=> (F7 (T8 (E3 (W2 (fun i j=> decide (i≤j)) (fun i j=> decide (i < j)) (eC (.int (-1))) (eV (.val x_place)) (F0 C4 (C3 (eV (.val x_sizes)) E6))))) bad (F7 (E3 (A4 (C6 true) (eV (.val x_place)) (eC (.int (-1))))) (A3A (fun i j=> i+j) s1 (eV (.val x_place)) (eC (.int 1)) fun x_held=> (F7 (E3 (A4 y7 (A4 oIx (eV x_held) (eV (.val x_place))) (A4 oIx (eV (.val x_sizes)) (eV (.val x_place))))) bad (kn3 x_held))) (kn3 s1)))) fun (s1:SV)=> (ret (.val .non))))))
def T1:List W→MC
  | [x_sizes,x_stand]=> n7 x_sizes x_stand
  | _=> bad
def n9 (x_sizes x_stand:W):MC:=
  ((F4 T1 (A9 (A3 (eV (.val x_sizes))) (A9 (A3 (eV (.val x_stand))) B3))) fun _=> ((F4 p9 (A9 (A3 (F0 C4 (C3 (eV (.val x_sizes)) E6))) (A9 (A3 (eV (.val x_stand))) B3))) ret))
def U7:List W→MC
  | [x_sizes,x_stand]=> n9 x_sizes x_stand
  | _=> bad
def A0p (x_row:W):MC:=
  (F7 (T8 (E3 (W2 (fun i j=> decide (i≤j)) (fun i j=> decide (i≤j)) (eC (.int 1)) (F0 C4 (C3 (eV (.val x_row)) E6)) (eC (.int 6))))) ((i7 (eC (.int 1))) ret) ((eLc (A0M (C3 (F0 C4 (C3 (eV (.val x_row)) E6)) E6)) fun x_at kk=> lcb (T8 (E3 (W2 (fun i j=> decide (i≤j)) (fun i j=> decide (i≤j)) (eC (.int 1)) (A4 oIx (eV (.val x_row)) (eV (.val x_at))) (eC (.int 40))))) (A3 (eV (.val x_at))) kk) fun x_some=> ((eIf (E3 (A4 (C6 false) (eV x_some) (P7 B3))) (eC (.str ("none":Str))) (A4 oIx (eV x_some) (eC (.int 0)))) ret)))
def o7:List W→MC
  | [x_row]=> A0p x_row
  | _=> bad
def f7 (fl:Addr) (ML:List W→MC) (x_ask:W):MC:=
  ((A3 (eC (.str ("none":Str)))) fun x_mcask=> (A3H (fun kk2=> ((F4 ML B3) fun _=> (kk2 x_mcask))) (fun s1=> ((eV (.val s1)) ret)) (A1B ["BadSizes"] [("BadSizes",(A1V "cask"))])))
def o0 (ML:List W→MC) (fl:Addr):List W→MC
  | [x_ask]=> D2 (x_ask= .ref fl) (f7 fl ML x_ask)
  | _=> bad
def A0g (x_self x_sizes x_stand:W):MC:=
  ((F4 T1 (A9 (A3 (eV (.val x_sizes))) (A9 (A3 (eV (.val x_stand))) B3))) fun _=> (c7 "Loft" "casks" (A3 (eV (.val x_sizes))) (eV (.val x_self)) ((c7 "Loft" "now" (A3 (eV (.val x_stand))) (eV (.val x_self)) ((c7 "Loft" "book" (A3 (A1M "Book" U6 (A9 (A3 (eV (.val x_sizes))) B3))) (eV (.val x_self)) ((c7 "Loft" "past" (w7 (P7 B3)) (eV (.val x_self)) ((c7 "Loft" "later" (w7 (P7 B3)) (eV (.val x_self)) ((ret (.val .non)))))))))))))
def n5:List W→MC
  | [x_self,x_sizes,x_stand]=> A0g x_self x_sizes x_stand
  | _=> bad
def A05 (x_script:W):MC:=
  ((F4 o9 (A9 (A3 (eV (.val x_script))) B3)) fun x_bag=> (A1R x_bag fun x_bag=> (w9 (A0M (C3 (eC (.int 6)) E6)) () (fun x_turn (s18:Unit) kn20 kb21=> ((A3 (F4 n8 (A9 (A3 (eV (.val x_bag))) B3))) fun x_msizes=> ((A3 (F4 M3 (A9 (A3 (eV (.val x_bag))) (A9 (A3 (eC (.int 6))) B3)))) fun x_how=> ((A3 (F4 M3 (A9 (A3 (eV (.val x_bag))) (A9 (A3 (F0 C4 (C3 (eV (.val x_msizes)) E6))) B3)))) fun x_at=> ((A3 (F4 Q3 (A9 (A3 (eV (.val x_bag))) (A9 (A3 (P7 (A9 (A3 (eC (.int 0))) (A9 (A3 (eC (.int 41))) (A9 (A3 (i7 (eC (.int 1)))) (A9 (A3 (A4 m6 (eC (.int 10)) (eC (.int 20)))) (A9 (A3 (i7 (A4 m6 (eC (.int 10)) (eC (.int 20))))) B3))))))) B3)))) fun x_odd=> (w8 (fun (s24:W)=> (w8 (fun (s26:W)=> (w8 (fun (s28:W)=> ((A3 (F4 o7 (A9 (A3 (eV (.val s28))) B3))) fun x_due=> (F7 (T8 (E3 (F4 (m__law_same 8) (A9 (A3 (z9 (o0 (w4 (F4 L7 (A9 (A3 (eV (.val s28))) B3)))) (A1O B3))) (A9 (A3 (eV (.val x_due))) B3))))) ((eC (.bl false)) ret) (F7 (E3 (A4 (C6 false) (eV (.val x_due)) (eC (.str ("none":Str))))) (F7 (tOr (E3 (A4 (H9 true) (F4 L7 (A4v [0] (A9 (A3 (eV (.val s28))) B3))) (eC .non))) (E3 (A4 (C6 true) (F4 U7 (A9 (A3 (eV (.val s28))) (A9 (A3 (d0 B3)) B3))) (A4 oMulT (d0 (A9 (A3 (eC (.int 0))) B3)) (F0 C4 (C3 (eV (.val s28)) E6)))))) ((eC (.bl false)) ret) (kn20 ())) ((P7 (A9 (A3 (z9 (o0 (w4 (F4 U7 (A9 (A3 (eV (.val s28))) (A9 (A3 (d0 (A9 (A3 (eC (.int 9))) B3))) B3))))) (A1O B3))) B3)) fun x_found=> (lmC Z7 x_found (A9 (A3 (z9 (o0 (w4 (A1M "Book" U6 (A9 (A3 (eV (.val s28))) B3)))) (A1O B3))) B3) fun x_found _=> (lmC Z7 x_found (A9 (A3 (z9 (o0 (w4 (A2j "Loft" n5 1 1 [0,1,2] [] (A9 (A3 (eV (.val s28))) B3) (A9 (A3 (d0 (A9 (A3 (eC (.int 9))) B3))) B3)))) (A1O B3))) B3) fun x_found _=> (F7 (T8 (E3 (F4 (m__law_same 8) (A9 (A3 (eV (.val (SV.fz x_found)))) (A9 (A3 (P7 (A9 (A3 (eV (.val x_due))) (A9 (A3 (eV (.val x_due))) (A9 (A3 (eV (.val x_due))) B3))))) B3))))) ((eC (.bl false)) ret) (kn20 ()))))))))) fun kj30=> (F7 (E3 (A4 (C6 false) (eV (.val x_how)) (eC (.int 3)))) ((A3 (x9 (A4 oMulT (eV (.val s26)) (eC (.int 7))) y0 (v7 (F4 Q3 (A9 (A3 (eV (.val x_bag))) (A9 (A3 (P7 (A9 (A3 (eC (.int 7))) (A9 (A3 (eC (.int 0))) (A9 (A3 (eC (.int 6))) B3))))) B3)))))) fun x_msizes=> (kj30 x_msizes)) (kj30 s26)))) fun kj32=> (F7 (E3 (A4 (C6 false) (eV (.val x_how)) (eC (.int 1)))) ((A3 (A4 oAdd (eV (.val s24)) (d0 (A9 (A3 (F4 Q3 (A9 (A3 (eV (.val x_bag))) (A9 (A3 (P7 (A9 (A3 (eC (.int 0))) (A9 (A3 (eC (.int 41))) (A9 (A3 (eC (.int 40))) (A9 (A3 (eC (.int 1))) B3)))))) B3)))) B3)))) fun x_msizes=> (kj32 x_msizes)) (kj32 s24)))) fun kj34=> (F7 (E3 (A4 m7 (eV (.val x_how)) (eC (.int 3)))) ((A3 (A4 oAdd (A4 oAdd (x9 (eV (.val x_msizes)) y0 (v7 (eV (.val x_at)))) (d0 (A9 (A3 (eV (.val x_odd))) B3))) (x9 (eV (.val x_msizes)) (v7 (A4 oAdd (eV (.val x_at)) (eC (.int 1)))) y0))) fun x_msizes=> (kj34 x_msizes)) (kj34 x_msizes)))))))) fun (s18:Unit)=> ((F4 (m__law_same 8) (A9 (A3 (P7 (A9 (A3 (eC (.int 6))) (A9 (A3 (eC (.int 40))) (A9 (A3 (eC (.int 60))) (A9 (A3 (eC (.int (-1)))) B3)))))) (A9 (A3 (P7 (A9 (A3 (eC (.int 6))) (A9 (A3 (eC (.int 40))) (A9 (A3 (eC (.int 60))) (A9 (A3 (i7 (eC (.int 1)))) B3)))))) B3))) ret))))
def m_law:List W→MC
  | [x_script]=> A05 x_script
  | _=> bad
end Ab
namespace Ab
open PySem PySem.Spec PyProof.Rows L2 RZ
def j4 (i:Int):AExc:=⟨"BadSizes",initF (W.str "bad sizes") ["cask"] [.int i]⟩
def c9 (ss:List Int) (i:Nat):Bool:= !decide (1≤ss.getD i 0∧ss.getD i 0≤40)
def V8 (ss:List Int):Option Int:=if 1≤ss.length∧ss.length≤6 then ((List.range ss.length).find? (c9 ss)).map fun (i:Nat)=> (i:Int) else some (-1)
theorem B2A {ss:List Int} (h:V8 ss=none):A1W ss:=by
  unfold V8 at h
  by_cases l:1≤ss.length∧ss.length≤6
  · rw [if_pos l,Option.map_eq_none_iff,List.find?_eq_none] at h
    refine ⟨l.1,l.2,fun s hs=> ?_⟩
    obtain ⟨i,hi,rfl⟩:=List.getElem_of_mem hs
    have z:=h i (List.mem_range.mpr hi)
    unfold c9 at z
    rw [List.getD_eq_getElem?_getD,List.getElem?_eq_getElem hi] at z
    simpa using z
  · rw [if_neg l] at h
    cases h
theorem A5o {ss:List Int} (hl:ss.length≤1000):L7 [.tup (ss.map .int)]=B4f j4 (ret (.val .non)) (V8 ss):=by
  show n4 _=_
  unfold n4
  simp only [↓E5,↓F6,↓E8,↓F3,↓G6,↓L0,↓K8,↓L6,↓M5,↓u7,↓A4r,↓A0Q,↓A2L,↓M6,↓A0B,↓D4,↓T2,↓H8,↓A14,↓V5,↓B1O,if_true,Bool.not_false,decide_eq_true_eq,List.length_map]
  by_cases l:1≤ss.length∧ss.length≤6
  · rw [V8,if_pos l,if_pos (by omega),if_neg (by simp;omega)]
    simp only [A7r]
    rw [B0Z ss 0,List.map_map,A6Y (fun i=> _) (fun i=> if c9 ss i=true then some (T5 (j4 i)) else none) _ fun i hi kn=> ?_]
    · rw [A6V]
      cases (List.range ss.length).find? (c9 ss) <;> rfl
    · simp only [Function.comp_apply,↓T2,↓A7S]
      unfold c9
      generalize ss.getD i 0=x
      by_cases g1:1≤x <;> by_cases g2:x≤40 <;> simp [g1,g2,j4]
  · rw [V8,if_neg l]
    by_cases l1:(1:Int)≤ss.length
    · rw [if_pos l1,if_pos (by simp;omega)]
      rfl
    · rw [if_neg l1]
      rfl
theorem B2O {ss:List Int} (hl:ss.length≤1000):o7 [.tup (ss.map .int)]=ret (.val (A4f (V8 ss))):=by
  show A0p _=_
  unfold A0p
  simp only [↓E5,↓F6,↓I4,↓E8,↓F3,↓k9,↓L0,↓K8,↓L6,↓M5,↓u7,↓B4n,↓A4r,↓A0Q,↓R9,↓M6,↓T6,↓T9,↓D4,↓T2,↓H8,↓q9,↓l5,↓B3n,↓V5,if_true,Bool.not_false,decide_eq_true_eq,Int.toNat_natCast,List.length_map,List.length_nil,O4,Nat.reduceLeDiff]
  by_cases l:1≤ss.length∧ss.length≤6
  · rw [V8,if_pos l,if_pos (by omega),if_neg (by simp;omega),C2 (by omega),show N3 0 ss.length=(List.range ss.length).map M8 from A6P _,B3T M8 (c9 ss) M8 (List.range ss.length) (fun i hi kk=> ?_) (by simp [O4];omega)]
    · have nb:∀x∈((List.range ss.length).filter (c9 ss)).map M8,x.nb 1=true:=fun x hx=> by
        obtain ⟨c,_,rfl⟩:=List.mem_map.mp hx
        exact B3F
      rw [A8i (x:= .own (.seq (((List.range ss.length).filter (c9 ss)).map M8))) (y:= .own (.seq [])) (so (A4C 1 (by omega) nb)) (so (A4C 0 (by omega) (by simp))),←List.head?_filter]
      cases (List.range ss.length).filter (c9 ss) with
      | nil=> rw [if_pos (by simp [A07])];rfl
      | cons i r=>
        rw [if_neg (by simp [A07]),List.map_cons,A4o]
        rfl
    · have hi:=List.mem_range.mp hi
      simp only [B1q,↓T2,↓A4Y,↓B01 hi]
      unfold c9
      generalize ss.getD i 0=x
      by_cases g1:1≤x <;> by_cases g2:x≤40 <;> simp [g1,g2]
  · rw [V8,if_neg l]
    by_cases l1:(1:Int)≤ss.length
    · rw [if_pos l1,if_pos (by simp;omega)]
      rfl
    · rw [if_neg l1]
      rfl
section
variable {Q:RR→AH→Prop} {E:AExc→AH→Prop} {h:AH} {ss:List Int}
theorem B1T {ML:List W→MC} {fl:Addr} {w:W} {i:Int} (hb:∀(Q':RR→AH→Prop) (E':AExc→AH→Prop),(∀h',Grow h h'→E' (j4 i) h')→ML [] h Q' E') (z:∀h',Grow h h'→Q (.val (.int i)) h'):f7 fl ML w h Q E:=by
  unfold f7
  conv=> fun;fun;fun;simp only [↓E5,↓F6,↓E8,↓F3,↓Q6,↓D4]
  unfold A3H
  show call (ML []) _ h _ _
  refine hb _ _ fun h' g=> ?_
  refine ⟨show ("BadSizes":Str)∈[("BadSizes":Str)] by simp,?_⟩
  rw [if_pos (show d8 (j4 i).n ("BadSizes":Str)=true by show d8 "BadSizes" _=_;decide)]
  exact ⟨_,rfl,z h' g⟩
theorem B0j {ML:List W→MC} {fl:Addr} {w:W} (hb:ML []=ret (.val .non)):f7 fl ML w=ret (.val (.str "none")):=by
  unfold f7
  simp only [↓E5,↓F6,↓E8,↓F3,↓Q6,↓D4,↓U9,hb]
  rw [B1D fun kk=> rfl]
end
theorem A7x:CPow 10 20:=by
  unfold CPow
  decide
theorem B0q {f:MC} {Q:RR→AH→Prop} {E:AExc→AH→Prop} {h:AH}:call f ret h Q E=f h Q E:=by
  unfold call
  congr 1
  funext r h'
  cases r <;> rfl
theorem A5g {ss:List Int} {w:W} {i:Int} (hl:ss.length≤1000) (e:V8 ss=some i):T1 [.tup (ss.map .int),w]=T5 (j4 i):=by
  show n7 _ _=_
  unfold n7
  simp only [↓E5,↓F6,↓I4,↓E8,↓F3,↓G6,↓k9,↓L0,↓K8,↓L6,↓M5,↓u7,↓A0Q,↓Q6,↓A2L,↓M6,↓A4H,↓A0B,↓D4,↓T2,↓H8,↓l5,↓A4a,↓V5,if_true,Bool.not_false,decide_eq_true_eq,Int.toNat_natCast,List.length_map,List.length_cons,List.length_nil,O4,Nat.zero_add,Nat.reduceLeDiff,A5o hl,e]
  rfl
theorem A9X {ss:List Int} (sz:A1W ss):T1 [.tup (ss.map .int),.tup []]=ret (.val .non):=by
  show n7 _ _=_
  unfold n7
  have l6:=sz.2.1
  simp only [↓E5,↓F6,↓I4,↓E8,↓F3,↓G6,↓k9,↓L0,↓K8,↓L6,↓M5,↓u7,↓A0Q,↓Q6,↓A2L,↓M6,↓A4H,↓A0B,↓D4,↓T2,↓H8,↓A14,↓l5,↓U9,↓B46,↓A4a,↓V5,if_true,Bool.not_false,decide_eq_true_eq,Int.toNat_natCast,List.length_map,List.length_cons,List.length_nil,O4,Nat.zero_add,Nat.reduceLeDiff,A9d sz]
  rw [if_neg (by simp),C2 (by omega)]
  rfl
theorem A9f {ss:List Int} {w:W} {i:Int} (hl:ss.length≤1000) (e:V8 ss=some i):U7 [.tup (ss.map .int),w]=T5 (j4 i):=by
  show n9 _ _=_
  unfold n9
  simp only [↓E5,↓E8,↓F3,↓G6,↓L0,↓K8,↓L6,↓Q6,↓D4,↓A0x,↓V5,List.length_map,A5g hl e]
theorem A9e {ss:List Int} (sz:A1W ss):U7 [.tup (ss.map .int),.tup []]=ret (.val (.tup ((List.replicate ss.length 0).map .int))):=by
  show n9 _ _=_
  unfold n9
  have l6:=sz.2.1
  have c:=B0V (n:=ss.length) (st:=[]) (by omega) (by simp)
  rw [A63] at c
  simp only [↓E5,↓E8,↓F3,↓G6,↓L0,↓K8,↓L6,↓Q6,↓D4,↓U9,↓V5,List.length_map,A9X sz]
  rw [show (W.tup [])= .tup (([]:List Int).map .int) from rfl,c]
  rfl
theorem B0g (n:Nat) (x:Int):(List.replicate n [W.int x]).flatten=(List.replicate n x).map W.int:=by
  induction n with
  | zero=> rfl
  | succ n ih=> rw [List.replicate_succ,List.flatten_cons,ih,List.replicate_succ];rfl
theorem A2H {n:Nat} {h h':AH} {p:Addr} (b:Bag n h p) (g:Grow h h'):Bag n h' p:=let ⟨ns,i,x,y,c,a1,a⟩:=b;⟨ns,i,x,y,c,g _ _ a1,a⟩
theorem B3D {ns:List Int} (hn:ns.length≤63) (h:AH) (Q:RR→AH→Prop) (E:AExc→AH→Prop) (q:∀h',Q (.val (.bl true)) h'):m_law [.lst (ns.map .int)] h Q E:=by
  show A05 _ h Q E
  unfold A05
  generalize hBS:m__law_same 8=BS
  conv=> fun;fun;fun;simp only [↓E5,↓F6,↓I4,↓E8,↓F3,↓G6,↓A4g,↓k9,↓A8C,↓A67,↓A8h,↓L0,↓K8,↓L6,↓M5,↓W0,↓u7,↓A4r,↓Q6,↓B1k,↓R9,↓M6,↓A0B,↓D4,↓A07,↓T2,↓q9,↓l5,↓U9,↓B4w,↓A8B,↓B2h,↓B0N,↓B0Y,if_true,List.length_cons,List.length_nil,O4,Nat.zero_add,Nat.reduceAdd,Nat.reduceLeDiff,↓B1y hn]
  intro p hp
  rw [C2 (by omega)]
  refine A7e (σ:=Unit) (fun ws s h'=> ws.length≤6∧Bag (1000000 - ws.length*1000) h' p) (fun s h' _=> ?_) (fun w ws s h' kn=> ?_) _ _ _ ⟨by rw [A0z];exact Nat.le_refl 6,bag_new.le (by rw [A0z];omega)⟩
  · rw [←hBS,B0q]
    show m__law_same 8 [W.lst [.int 6,.int 40,.int 60,.int (-1)],_] h' Q E
    rw [A2I 7 _ (A7g (by simp) fun x hx=> by
      simp only [List.mem_cons,List.not_mem_nil,or_false] at hx
      rcases hx with rfl | rfl | rfl | rfl <;> rfl)]
    exact q _
  rintro ⟨w6,bg⟩ hk
  rw [List.length_cons] at bg w6
  refine any_sizes_dr.call bg (by omega) fun r h1 hr b1 t1=> ?_
  obtain ⟨ss,rfl,sz⟩:=hr
  have l1:=sz.1
  have l6:=sz.2.1
  conv=> fun;fun;fun;simp only [↓D4,↓Z9,↓A7z,↓A78,↓V5,List.length_map,List.length_cons,List.length_nil,O4,Nat.zero_add,Nat.reduceLeDiff]
  refine (A02 (s:=6) (by omega) (by omega)).call b1 (by omega) fun r h2 hr b2 t2=> ?_
  obtain ⟨how,rfl,how0,how6⟩:=hr
  conv=> fun;fun;fun;simp only [↓D4,↓Z9,↓H8,↓A44,↓A4b,decide_eq_true_eq]
  refine (A02 (s:=(ss.length:Int)) (by omega) (by omega)).call b2 (by omega) fun r h3 hr b3 t3=> ?_
  obtain ⟨at_,rfl,at0,at6⟩:=hr
  obtain ⟨at_,rfl⟩:∃j:Nat,at_=j:=⟨at_.toNat,by omega⟩
  conv=> fun;fun;fun;simp only [↓D4,↓Z9,↓T2,↓m4]
  rw [C2 A7x,C2 A7x]
  refine (A2Q (.inl rfl) (by simp) (by simp)).call b3 (by omega) fun r h4 hr b4 t4=> ?_
  obtain ⟨w,rfl,hw⟩:=hr
  obtain ⟨odd,rfl⟩:∃odd:Int,w= .int odd:=by
    simp only [List.mem_cons,List.not_mem_nil,or_false] at hw
    rcases hw with rfl | rfl | rfl | rfl | rfl <;> exact ⟨_,rfl⟩
  clear hw
  simp only [Z9,D4]
  refine A2N (fun s h'=> ∃xs:List Int,s= .tup (xs.map .int)∧1≤xs.length∧xs.length≤6∧Bag (1000000 - (ws.length+1)*1000+50) h' p) (fun s h5=> ?_) fun kj hkj=> ?_
  · rintro ⟨xs,rfl,xm,xl,b5⟩
    refine A2N (fun s h'=> ∃xs:List Int,s= .tup (xs.map .int)∧1≤xs.length∧xs.length≤7∧Bag (1000000 - (ws.length+1)*1000+60) h' p) (fun s h6=> ?_) fun kj hkj=> ?_
    · clear b5 xl xm xs
      rintro ⟨xs,rfl,xm,xl,b6⟩
      refine A2N (fun s h'=> ∃xs:List Int,s= .tup (xs.map .int)∧xs.length≤7∧Bag (1000000 - (ws.length+1)*1000+70) h' p) (fun s h7=> ?_) fun kj hkj=> ?_
      · clear b6 xl xm xs
        rintro ⟨xs,rfl,xl,b7⟩
        conv=> fun;fun;fun;simp only [↓D4,↓U9,↓A7a,↓V5,Int.toNat_natCast,List.length_map,List.length_cons,List.length_nil,Nat.zero_add,Nat.reduceLeDiff,B2O (ss:=xs) (by omega)]
        intro f
        simp only [F3]
        have l1000:xs.length≤1000:=by omega
        have look:=A5o (ss:=xs) l1000
        cases fx:V8 xs with
        | none=>
          have sx:=B2A fx
          rw [fx] at look
          have look:L7 [.tup (xs.map .int)]=ret (.val .non):=look
          have told:o0 (w4 (F4 L7 (A9 (A3 (eV (SV.val (W.tup (List.map W.int xs))))) B3))) f [W.ref f]=ret (.val (.str "none")):=by
            show D2 _ (f7 _ _ _)=_
            rw [C2 rfl]
            exact B0j (by simp only [↓E5,↓E8,↓F3,↓G6,↓Q6,↓D4,↓U9,↓B1P,look])
          rw [told,U9]
          conv=> fun;fun;fun;simp only [↓B1w,↓D4,↓H8,↓A4U,if_true,decide_true,A4f]
          rw [←hBS,A2I 7 _ (show (W.str ("none":Str)).sm 7=true from rfl),U9]
          conv=> fun;fun;fun;simp only [↓H8,↓U9,↓B1e,if_false,Bool.not_true,Bool.false_eq_true,look,A9e sx]
          rw [C2 (by simp;omega),B0g]
          conv=> fun;fun;fun;simp only [↓H8,↓B3a,if_false,Bool.not_true,Bool.false_eq_true,decide_true]
          exact hk _ _ ⟨by omega,b7.le (by omega)⟩
        | some i=>
          rw [fx] at look
          have look:L7 [.tup (xs.map .int)]=T5 (j4 i):=look
          have go:∀{ML:List W→MC} {f:Addr} {K:SV→MC} {g:AH},(∀(Q':RR→AH→Prop) (E':AExc→AH→Prop),(∀h',Grow g h'→E' (j4 i) h')→ML [] g Q' E')→(∀h',Grow g h'→K (.val (.int i)) h' Q E)→call (o0 ML f [.ref f]) K g Q E:=fun {ML f K g} hb z=> by
            show (D2 _ (f7 f ML (.ref f))) g _ _
            exact ⟨rfl,B1T hb z⟩
          refine go (fun Q' E' z=> ?_) fun g1 r1=> ?_
          · show (F4 L7 (A9 (A3 (eV (SV.val (W.tup (List.map W.int xs))))) B3) ret) h7 Q' E'
            conv=> fun;fun;fun;simp only [↓E5,↓E8,↓F3,↓G6,↓Q6,↓D4,↓A0x,look]
            exact z _ .refl
          conv=> fun;fun;fun;simp only [↓D4,A4f]
          rw [←hBS,A2I 7 _ (show (W.int i).sm 7=true from rfl),U9]
          have ne:∀k:Bool→MC,(B9 (C6 false) (.val (.int i)) (.val (.str ("none":Str))) fun r=> T0 r k)=k false:=fun k=> by
            rw [A8i (sp ⟨0,by omega,rfl⟩) (sp A1A),decide_eq_false (fun e=> by cases e)]
          conv=> fun;fun;fun;simp only [↓H8,if_false,Bool.not_true,Bool.false_eq_true,ne]
          intro f2
          simp only [F3]
          refine go (fun Q' E' z=> ?_) fun g2 r2=> ?_
          · show (F4 U7 (A9 (A3 (eV (SV.val (W.tup (List.map W.int xs))))) (A9 (A3 (d0 (A9 (A3 (eC (W.int 9))) B3))) B3)) ret) g1 Q' E'
            conv=> fun;fun;fun;simp only [↓E5,↓F6,↓E8,↓F3,↓G6,↓A4g,↓Q6,↓D4,↓l5,↓A0x,List.length_cons,List.length_nil,O4,Nat.zero_add,Nat.reduceLeDiff,A9f l1000 fx]
            exact z _ .refl
          intro f3
          simp only [F3]
          refine go (fun Q' E' z=> ?_) fun g3 r3=> ?_
          · show (A1M (Str.ofString "Book") U6 (A9 (A3 (eV (SV.val (W.tup (List.map W.int xs))))) B3) ret) g2 Q' E'
            conv=> fun;fun;fun;simp only [↓A7n,↓E5,↓E8,↓F3,↓G6,↓D4]
            intro a na
            show A0i (.ref a) (.tup (xs.map .int)) _ _ _
            unfold A0i
            conv=> fun;fun;fun;simp only [↓A7W,↓B11,↓A72,↓E5,↓E8,↓F3,↓G6,↓Q6,↓D4,↓A0x,look]
            exact z _ fun x u e=> by rw [L8 (fun y=> by rw [y,na] at e;cases e)];exact e
          rw [C2 (by omega)]
          intro f4
          simp only [F3]
          refine go (fun Q' E' z=> ?_) fun g4 r4=> ?_
          · show (A2j (Str.ofString "Loft") n5 1 1 [0,1,2] [] (A9 (A3 (eV (SV.val (W.tup (List.map W.int xs))))) B3) (A9 (A3 (d0 (A9 (A3 (eC (W.int 9))) B3))) B3) ret) g3 Q' E'
            conv=> fun;fun;fun;simp only [↓B1t,↓E5,↓F6,↓E8,↓F3,↓G6,↓A4g,↓D4,↓l5,List.length_cons,List.length_nil,O4,Nat.zero_add,Nat.reduceLeDiff]
            refine ⟨⟨trivial,trivial⟩,?_⟩
            intro a na
            show A0g (.ref a) (.tup (xs.map .int)) (.tup [.int 9]) _ _ _
            unfold A0g
            conv=> fun;fun;fun;simp only [↓A7W,↓A7n,↓A72,↓E5,↓E8,↓F3,↓G6,↓k9,↓Q6,↓D4,↓l5,↓A0x,List.length_nil,O4,Nat.reduceLeDiff,A5g l1000 fx]
            exact z _ fun x u e=> by rw [L8 (fun y=> by rw [y,na] at e;cases e)];exact e
          conv=> fun;fun;fun;simp only [↓D4]
          rw [C2 (by show 2 < 16777216;omega),show [W.int i]++[W.int i]++[W.int i]=[W.int i,W.int i,W.int i] from rfl,A2I 7 _ (A7g (by simp) fun x hx=> by
            simp only [List.mem_cons,List.not_mem_nil,or_false] at hx
            rcases hx with rfl | rfl | rfl <;> rfl),U9]
          conv=> fun;fun;fun;simp only [↓H8,if_false,Bool.not_true,Bool.false_eq_true]
          exact hk _ _ ⟨by omega,(A2H (A2H (A2H (A2H b7 r1) r2) r3) r4).le (by omega)⟩
      · conv=> fun;fun;fun;simp only [↓D4,↓A7a,↓A78,List.length_map]
        by_cases c:how=3
        · rw [if_pos c,C2 (by omega)]
          refine (A2Q (.inl rfl) (by simp) (by simp)).call b6 (by omega) fun r h7 hr b7 t7=> ?_
          obtain ⟨w,rfl,hw⟩:=hr
          obtain ⟨j,rfl,hj⟩:∃j:Nat,w= .int (j:Int)∧j≤7:=by
            simp only [List.mem_cons,List.not_mem_nil,or_false] at hw
            rcases hw with rfl | rfl | rfl
            · exact ⟨7,rfl,by omega⟩
            · exact ⟨0,rfl,by omega⟩
            · exact ⟨6,rfl,by omega⟩
          conv=> fun;fun;fun;simp only [↓Z9,↓T2]
          have e1:(List.replicate (Int.toNat 7) (xs.map W.int)).flatten=((List.replicate 7 xs).flatten).map W.int:=by rw [List.map_flatten,List.map_replicate];rfl
          rw [e1,B1M]
          exact hkj _ _ ⟨_,rfl,by rw [List.length_take];omega,b7.le (by omega)⟩
        · rw [if_neg c]
          exact hkj _ _ ⟨xs,rfl,xl,b6.le (by omega)⟩
    · conv=> fun;fun;fun;simp only [↓D4,↓A7z,List.length_map,List.length_cons,List.length_nil,O4,Nat.zero_add,Nat.reduceLeDiff]
      by_cases c:how=1
      · rw [if_pos c]
        refine (A2Q (.inl rfl) (by simp) (by simp)).call b5 (by omega) fun r h7 hr b7 t7=> ?_
        obtain ⟨w,rfl,hw⟩:=hr
        obtain ⟨j,rfl⟩:∃j:Int,w= .int j:=by
          simp only [List.mem_cons,List.not_mem_nil,or_false] at hw
          rcases hw with rfl | rfl | rfl | rfl <;> exact ⟨_,rfl⟩
        rw [C2 (by omega)]
        simp only [Z9,D4]
        exact hkj _ _ ⟨xs++[j],by rw [List.map_append];rfl,by rw [List.length_append,List.length_singleton];omega,by rw [List.length_append,List.length_singleton];omega,b7.le (by omega)⟩
      · rw [if_neg c]
        exact hkj _ _ ⟨xs,rfl,xm,by omega,b5.le (by omega)⟩
  · conv=> fun;fun;fun;simp only []
    by_cases c:how < 3
    · have e1:N4 (ss.map W.int) none (some (at_:Int))=(ss.take at_).map W.int:=by rw [A4A,List.map_take]
      have e2:N4 (ss.map W.int) (some ((at_:Int)+1)) none=(ss.drop (at_+1)).map W.int:=by rw [show ((at_:Int)+1)=((at_+1:Nat):Int) by omega,B1d,List.map_drop]
      rw [if_pos c,e1,e2,C2 (by rw [List.length_map,List.length_take];omega),C2 (by simp;omega)]
      exact hkj _ _ ⟨ss.take at_++[odd]++ss.drop (at_+1),by rw [List.map_append,List.map_append];rfl,by simp only [List.length_append,List.length_take,List.length_drop,List.length_singleton];omega,by simp only [List.length_append,List.length_take,List.length_drop,List.length_singleton];omega,b4.le (by omega)⟩
    · rw [if_neg c]
      exact hkj _ _ ⟨ss,rfl,l1,l6,b4.le (by omega)⟩
theorem law_says:∀ns:List Int,ns.length≤63→upc m_law [W.lst (ns.map .int)] (fun _=> none) (fun r _=> r= .val (.bl true)) fun _ _=> False:=fun ns h=> ⟨_,_,fun _ _ z=> z,fun _ _ z=> z,B3D h _ _ _ fun _=> rfl⟩
end Ab
namespace Ab
open PySem PySem.Spec PyProof.Rows L2 RZ
def A1i (E:AExc→A0→AH→Prop):B4:=
  (aSeq (I8 (aNotT (aTst (aChn (fun i j=> decide (i≤j)) (fun i j=> decide (i≤j)) (aC (.int 1)) (aCB C4 (D7 (aVar 0) F5)) (aC (.int 6))))) (A2Z E "BadSizes" "bad sizes" ["cask"] (aCons (aFz (v9 (aC (.int 1)))) aNil)) K5) (A0X (iEn (aFz (aVar 0))) (gTp 2 (u8 (K7 1) (u8 (K7 2) A2t))) (I8 (aNotT (aTst (aChn (fun i j=> decide (i≤j)) (fun i j=> decide (i≤j)) (aC (.int 1)) (aVar 2) (aC (.int 40))))) (A2Z E "BadSizes" "bad sizes" ["cask"] (aCons (aFz (aVar 1)) aNil)) K5)))
def A1j (E:AExc→A0→AH→Prop):B4:=
  (aSeq (c5 (aCall E (upc L7) (aCons (aFz (aVar 0)) aNil))) (aSeq (I8 (aTst (aOp2 y7 (aCB C4 (D7 (aVar 1) F5)) (aC (.int 60)))) A06 K5) (aSeq (A0U 2 (aOp2 oMulT (aLst (aCons (aFz (aC (.int 0))) aNil)) (aCB C4 (D7 (aVar 0) F5)))) (A0X (iEn (aFz (aVar 1))) (gTp 2 (u8 (K7 3) (u8 (K7 4) A2t))) (aSeq (I8 (aNotT (aTst (aChn (fun i j=> decide (i≤j)) (fun i j=> decide (i < j)) (aC (.int (-1))) (aVar 4) (aCB C4 (D7 (aVar 0) F5))))) A06 K5) (I8 (aTst (aOp2 (C6 true) (aVar 4) (aC (.int (-1))))) (aSeq (aAugS (fun i j=> i+j) (aVar 2) (aVar 4) (aC (.int 1))) (I8 (aTst (aOp2 y7 (aOp2 oIx (aVar 2) (aVar 4)) (aOp2 oIx (aVar 0) (aVar 4)))) A06 K5)) K5))))))
def A15 (E:AExc→A0→AH→Prop):B4:=
  (aSeq (A0U 2 (aOp2 oMulT (aLst (aCons (aFz (aC (.int 0))) aNil)) (aVar 0))) (aSeq (A0X (iSq (aFz (aVar 1))) (K7 3) (I8 (aTst (aOp2 (C6 true) (aVar 3) (aC (.int (-1))))) (aAugS (fun i j=> i+j) (aVar 2) (aVar 3) (aC (.int 1))) K5)) (K6 (aCB O5 (D7 (aVar 2) F5)))))
def A1k (E:AExc→A0→AH→Prop):B4:=
  (aSeq (c5 (aCall E (upc T1) (aCons (aFz (aVar 0)) (aCons (aFz (aVar 1)) aNil)))) (K6 (aCall E (upc p9) (aCons (aFz (aCB C4 (D7 (aVar 0) F5))) (aCons (aFz (aVar 1)) aNil)))))
def A1u (E:AExc→A0→AH→Prop):B4:=
  (K6 (aLst (aCons (aFz (aCB Q7 (D7 (aSl (aVar 0) A0A (A0H (aC (.int 63)))) F5))) (aCons (aFz (aC (.int 0))) (aCons (aFz (aC (.int 0))) (aCons (aFz (aC (.int 9465))) (aCons (aFz (aC (.int 0))) aNil)))))))
def A1q (E:AExc→A0→AH→Prop):B4:=
  (aSeq (I8 (aAndT (aTst (aOp2 m7 (aOp2 oIx (aVar 0) (aC (.int 2))) (aVar 1))) (aTst (aOp2 m7 (aOp2 oIx (aVar 0) (aC (.int 1))) (aCB C4 (D7 (aOp2 oIx (aVar 0) (aC (.int 0))) F5))))) (aSeq (G3 (aFz (aOp2 oIx (aOp2 oIx (aVar 0) (aC (.int 0))) (aOp2 oIx (aVar 0) (aC (.int 1))))) (K7 2)) (aSeq (G3 (aFz (aOp2 oAdd (aOp2 oIx (aVar 0) (aC (.int 1))) (aC (.int 1)))) (i5 (aVar 0) (aC (.int 1)))) (aSeq (G3 (aFz (aC (.int 0))) (i5 (aVar 0) (aC (.int 2)))) (I8 (aTst (aOp2 y6 (aVar 2) (aOp2 m6 (aC (.int 10)) (aC (.int 18))))) (G3 (aFz (aVar 2)) (i5 (aVar 0) (aC (.int 2)))) (G3 (aFz (aOp2 M7 (aOp2 oAdd (aOp2 oAdd (aOp2 oMulT (aOp2 oIx (aVar 0) (aC (.int 3))) (aC (.int 48271))) (aOp2 oMulT (aOp2 M7 (aVar 2) (aC (.int 2147483629))) (aC (.int 69621)))) (aC (.int 12345))) (aC (.int 2147483647)))) (i5 (aVar 0) (aC (.int 3)))))))) K5) (aSeq (I8 (aTst (aOp2 y6 (aOp2 oIx (aVar 0) (aC (.int 2))) (aVar 1))) (aSeq (G3 (aFz (aOp2 M7 (aOp2 oIx (aVar 0) (aC (.int 2))) (aVar 1))) (K7 3)) (aSeq (G3 (aFz (aOp2 l8 (aOp2 oIx (aVar 0) (aC (.int 2))) (aVar 1))) (i5 (aVar 0) (aC (.int 2)))) (K6 (aVar 3)))) K5) (aSeq (G3 (aFz (aOp2 oAdd (aOp2 oIx (aVar 0) (aC (.int 4))) (aC (.int 1)))) (i5 (aVar 0) (aC (.int 4)))) (aSeq (G3 (aFz (aOp2 oIx (aVar 0) (aC (.int 3)))) (K7 4)) (aSeq (G3 (aFz (aOp2 M7 (aOp2 oAdd (aOp2 oAdd (aOp2 oAdd (aOp2 oMulT (aOp2 M7 (aOp2 oMulT (aVar 4) (aVar 4)) (aC (.int 2147483629))) (aC (.int 5))) (aOp2 oMulT (aVar 4) (aC (.int 16811)))) (aOp2 oMulT (aC (.int 7919)) (aOp2 oIx (aVar 0) (aC (.int 4))))) (aC (.int 2531011))) (aC (.int 2147483647)))) (i5 (aVar 0) (aC (.int 3)))) (K6 (aOp2 M7 (aOp2 oAdd (aOp2 l8 (aOp2 oIx (aVar 0) (aC (.int 3))) (aC (.int 61))) (aOp2 oMulT (aOp2 M7 (aOp2 oIx (aVar 0) (aC (.int 3))) (aC (.int 8191))) (aC (.int 31)))) (aVar 1))))))))
def A1r (E:AExc→A0→AH→Prop):B4:=
  (K6 (aOp2 oIx (aVar 1) (aCall E (upc M3) (aCons (aFz (aVar 0)) (aCons (aFz (aCB C4 (D7 (aVar 1) F5))) aNil)))))
def A10 (d:Nat) (E:AExc→A0→AH→Prop):B4:=
  (aSeq (I8 (aTst (aOp2 (H9 false) (aVar 1) (aC .non))) (K6 (aOp2 (H9 false) (aVar 0) (aC .non))) K5) (aSeq (I8 (aTst (aCB B6 (D7 (aVar 1) (D7 (aC (.ty "bool")) F5)))) (K6 (A0O (aCB B6 (D7 (aVar 0) (D7 (aC (.ty "bool")) F5))) (aOp2 (C6 false) (aVar 0) (aVar 1)))) K5) (aSeq (I8 (aTst (aCB B6 (D7 (aVar 1) (D7 (aC (.ty "int")) F5)))) (K6 (A0O (aCB B6 (D7 (aVar 0) (D7 (aC (.ty "int")) F5))) (A0O (A4y (aCB B6 (D7 (aVar 0) (D7 (aC (.ty "bool")) F5)))) (aOp2 (C6 false) (aVar 0) (aVar 1))))) K5) (aSeq (I8 (aTst (aCB B6 (D7 (aVar 1) (D7 (aC (.ty "str")) F5)))) (K6 (A0O (aCB B6 (D7 (aVar 0) (D7 (aC (.ty "str")) F5))) (aOp2 (C6 false) (aVar 0) (aVar 1)))) K5) (aSeq (I8 (aOrT (aTst (aOp2 (C6 true) (aCB B6 (D7 (aVar 1) (D7 (aC (.ty "tuple")) F5))) (aCB B6 (D7 (aVar 0) (D7 (aC (.ty "tuple")) F5))))) (aTst (aOp2 (C6 true) (aCB B6 (D7 (aVar 1) (D7 (aC (.ty "list")) F5))) (aCB B6 (D7 (aVar 0) (D7 (aC (.ty "list")) F5)))))) (K6 (aC (.bl false))) K5) (aSeq (I8 (aTst (aOp2 (C6 true) (aCB C4 (D7 (aVar 0) F5)) (aCB C4 (D7 (aVar 1) F5)))) (K6 (aC (.bl false))) K5) (K6 (aCB A1T (D7 (e9 [2] (A0R (D7 (aCB C4 (D7 (aVar 1) F5)) F5)) (K7 2) A3C (aFz (aCall E0 (upc (m__law_same d)) (aCons (aFz (aOp2 oIx (aVar 0) (aVar 2))) (aCons (aFz (aOp2 oIx (aVar 1) (aVar 2))) aNil))))) F5)))))))))
def A1m (E:AExc→A0→AH→Prop):B4:=
  (K6 (aCB O5 (D7 (e9 [3] (A0R (D7 (aOp2 oAdd (aC (.int 1)) (aCall E (upc M3) (aCons (aFz (aVar 0)) (aCons (aFz (aVar 1)) aNil)))) F5)) (K7 3) A3C (aFz (aOp2 oAdd (aC (.int 1)) (aCall E0 (upc M3) (aCons (aFz (aVar 0)) (aCons (aFz (aVar 2)) aNil)))))) F5)))
def A1g (E:AExc→A0→AH→Prop):B4:=
  (K6 (aCall E (upc o3) (aCons (aFz (aVar 0)) (aCons (aFz (aC (.int 6))) (aCons (aFz (aCall E (upc Q3) (aCons (aFz (aVar 0)) (aCons (aFz (aLst (aCons (aFz (aC (.int 40))) (aCons (aFz (aC (.int 9))) (aCons (aFz (aC (.int 4))) (aCons (aFz (aC (.int 2))) aNil)))))) aNil)))) aNil)))))
def A1o (E:AExc→A0→AH→Prop):B4:=
  (aSeq (I8 (aNotT (aTst (aChn (fun i j=> decide (i≤j)) (fun i j=> decide (i≤j)) (aC (.int 1)) (aCB C4 (D7 (aVar 0) F5)) (aC (.int 6))))) (K6 (v9 (aC (.int 1)))) K5) (aSeq (A4E 1 (e9 [2] (A0R (D7 (aCB C4 (D7 (aVar 0) F5)) F5)) (K7 2) (aNotT (aTst (aChn (fun i j=> decide (i≤j)) (fun i j=> decide (i≤j)) (aC (.int 1)) (aOp2 oIx (aVar 0) (aVar 2)) (aC (.int 40))))) (aFz (aVar 2)))) (K6 (aIfE (aTst (aOp2 (C6 false) (aVar 1) (aLst aNil))) (aC (.str ("none":Str))) (aOp2 oIx (aVar 1) (aC (.int 0)))))))
def j5 (fl:Addr) (sp:C0) (E:AExc→A0→AH→Prop):B4:=
  (aSeq (G3 (aFz (aC (.str ("none":Str)))) (K7 1)) (aSeq (A5G ["BadSizes"] [("BadSizes",2,1,(A1V "cask"))] E (fun E=> (c5 (A5F E 0 fl sp aNil)))) (K6 (aVar 1))))
def A1f (E:AExc→A0→AH→Prop):B4:=
  (aSeq (c5 (aCall E (upc L7) (aCons (aFz (aVar 1)) aNil))) (aSeq (G3 (aFz (aVar 1)) (d4 "Book" "casks" (aVar 0))) (aSeq (G3 (aPrm A2d) (d4 "Book" "written" (aVar 0))) (G3 (aPrm A2d) (d4 "Book" "laid" (aVar 0))))))
def A1h (E:AExc→A0→AH→Prop):B4:=
  (aSeq (c5 (aCall E (upc T1) (aCons (aFz (aVar 1)) (aCons (aFz (aVar 2)) aNil)))) (aSeq (G3 (aFz (aVar 1)) (d4 "Loft" "casks" (aVar 0))) (aSeq (G3 (aFz (aVar 2)) (d4 "Loft" "now" (aVar 0))) (aSeq (G3 (aFz (aMake "Book" E (upc U6) (aCons (aFz (aVar 1)) aNil))) (d4 "Loft" "book" (aVar 0))) (aSeq (G3 (aPrm (aLst aNil)) (d4 "Loft" "past" (aVar 0))) (G3 (aPrm (aLst aNil)) (d4 "Loft" "later" (aVar 0))))))))
def A2z (E:AExc→A0→AH→Prop):B4:=
  (aSeq (A0U 1 (aCall E (upc o9) (aCons (aFz (aVar 0)) aNil))) (aSeq (A0P 1 (A0X (A0R (D7 (aC (.int 6)) F5)) (K7 2) (aSeq (G3 (aFz (aCall E (upc n8) (aCons (aFz (aVar 1)) aNil))) (K7 3)) (aSeq (G3 (aFz (aCall E (upc M3) (aCons (aFz (aVar 1)) (aCons (aFz (aC (.int 6))) aNil)))) (K7 4)) (aSeq (G3 (aFz (aCall E (upc M3) (aCons (aFz (aVar 1)) (aCons (aFz (aCB C4 (D7 (aVar 3) F5))) aNil)))) (K7 5)) (aSeq (G3 (aFz (aCall E (upc Q3) (aCons (aFz (aVar 1)) (aCons (aFz (aLst (aCons (aFz (aC (.int 0))) (aCons (aFz (aC (.int 41))) (aCons (aFz (v9 (aC (.int 1)))) (aCons (aFz (aOp2 m6 (aC (.int 10)) (aC (.int 20)))) (aCons (aFz (v9 (aOp2 m6 (aC (.int 10)) (aC (.int 20))))) aNil))))))) aNil)))) (K7 6)) (aSeq (I8 (aTst (aOp2 m7 (aVar 4) (aC (.int 3)))) (G3 (aFz (aOp2 oAdd (aOp2 oAdd (aSl (aVar 3) A0A (A0H (aVar 5))) (aTup (aCons (aFz (aVar 6)) aNil))) (aSl (aVar 3) (A0H (aOp2 oAdd (aVar 5) (aC (.int 1)))) A0A))) (K7 3)) K5) (aSeq (I8 (aTst (aOp2 (C6 false) (aVar 4) (aC (.int 1)))) (G3 (aFz (aOp2 oAdd (aVar 3) (aTup (aCons (aFz (aCall E (upc Q3) (aCons (aFz (aVar 1)) (aCons (aFz (aLst (aCons (aFz (aC (.int 0))) (aCons (aFz (aC (.int 41))) (aCons (aFz (aC (.int 40))) (aCons (aFz (aC (.int 1))) aNil)))))) aNil)))) aNil)))) (K7 3)) K5) (aSeq (I8 (aTst (aOp2 (C6 false) (aVar 4) (aC (.int 3)))) (G3 (aFz (aSl (aOp2 oMulT (aVar 3) (aC (.int 7))) A0A (A0H (aCall E (upc Q3) (aCons (aFz (aVar 1)) (aCons (aFz (aLst (aCons (aFz (aC (.int 7))) (aCons (aFz (aC (.int 0))) (aCons (aFz (aC (.int 6))) aNil))))) aNil)))))) (K7 3)) K5) (aSeq (G3 (aFz (aCall E (upc o7) (aCons (aFz (aVar 3)) aNil))) (K7 7)) (aSeq (I8 (aNotT (aTst (aCall E (upc (m__law_same 8)) (aCons (aFz (y8 E 1 3 j5 (fun E=> (aCall E (upc L7) (aCons (aFz (aVar 3)) aNil))) (s4 aNil))) (aCons (aFz (aVar 7)) aNil))))) (K6 (aC (.bl false))) K5) (I8 (aTst (aOp2 (C6 false) (aVar 7) (aC (.str ("none":Str))))) (I8 (aOrT (aTst (aOp2 (H9 true) (aCallK E (upc L7) 1 (gKw [0]) aNil (aCons (aFz (aVar 3)) aNil)) (aC .non))) (aTst (aOp2 (C6 true) (aCall E (upc U7) (aCons (aFz (aVar 3)) (aCons (aFz (aTup aNil)) aNil))) (aOp2 oMulT (aTup (aCons (aFz (aC (.int 0))) aNil)) (aCB C4 (D7 (aVar 3) F5)))))) (K6 (aC (.bl false))) K5) (aSeq (A0U 8 (aLst (aCons (aFz (y8 E 1 3 j5 (fun E=> (aCall E (upc U7) (aCons (aFz (aVar 3)) (aCons (aFz (aTup (aCons (aFz (aC (.int 9))) aNil))) aNil)))) (s4 aNil))) aNil))) (aSeq (c5 (aLm Z7 (aVar 8) (aCons (aFz (y8 E 1 3 j5 (fun E=> (aMake "Book" E (upc U6) (aCons (aFz (aVar 3)) aNil))) (s4 aNil))) aNil))) (aSeq (c5 (aLm Z7 (aVar 8) (aCons (aFz (y8 E 1 3 j5 (fun E=> (aMakeM "Loft" E (upc n5) 3 (W5 2 1 [0,1,2] []) (aCons (aFz (aVar 3)) aNil) (aCons (aFz (aTup (aCons (aFz (aC (.int 9))) aNil))) aNil))) (s4 aNil))) aNil))) (aFrz 8 (I8 (aNotT (aTst (aCall E (upc (m__law_same 8)) (aCons (aFz (aVar 8)) (aCons (aFz (aLst (aCons (aFz (aVar 7)) (aCons (aFz (aVar 7)) (aCons (aFz (aVar 7)) aNil))))) aNil))))) (K6 (aC (.bl false))) K5))))))))))))))))) (K6 (aCall E (upc (m__law_same 8)) (aCons (aFz (aLst (aCons (aFz (aC (.int 6))) (aCons (aFz (aC (.int 40))) (aCons (aFz (aC (.int 60))) (aCons (aFz (aC (.int (-1)))) aNil)))))) (aCons (aFz (aLst (aCons (aFz (aC (.int 6))) (aCons (aFz (aC (.int 40))) (aCons (aFz (aC (.int 60))) (aCons (aFz (v9 (aC (.int 1)))) aNil)))))) aNil))))))
theorem A9Y {Q:RR→AH→Prop} {E:AExc→AH→Prop} {Q':RR→AH→Prop} {E':AExc→AH→Prop} (hQ:∀r h,Q r h→Q' r h) (hE:∀x h,E x h→E' x h) (x_sizes:W):∀h,n4 x_sizes h Q E→A1i (C7 E') (C1 Q') [some (.val x_sizes),none,none] h:=by
  have hr_:=P4 hQ
  have he:=P5 hE
  unfold n4 A1i
  exact (D3 (K4 (u9 (G7 (SN.se (A08 (SN.se A6) (SN.se (G8 R0 (E1 (SN.se (A5 rfl)) G0))) (SN.se A6))))) (A6a (he _) (B0 (A7 (A1C (SN.se A6))) B8)) (M2 (D5 (A2W (fun (s19:Unit) (j20:Option SV×Option SV)=> [some (.val x_sizes),j20.1,j20.2]) () (none,none) rfl (A7K (A7 (A5 rfl))) (fun s19 j20=> (A2a hQ _)) (fun R27 w24 s19 j20 kn21 _ N23 h z=> by obtain ⟨x_cask,x_size,rfl,z26⟩:=A7j z;refine A2n [some (.val x_sizes),some (.val x_cask),some (.val x_size)] (A8f i3 i3) rfl h _ ?_;exact A25 h z26 (K4 (u9 (G7 (SN.se (A08 (SN.se A6) (SN.se (A5 rfl)) (SN.se A6))))) (A6a (he _) (B0 (A7 (A5 rfl)) B8)) (M2 (fun h z=> N23 () (some (.val x_cask),some (.val x_size)) h z)))))))))
theorem A9c (ws:List W) (h:AH) (Qa:RR→AH→Prop) (Ea:AExc→AH→Prop) (hl:ws.length=1) (z:upc L7 ws h Qa Ea):A1i (C7 Ea) (C1 Qa) (G2 3 ws) h:=by
  obtain ⟨Q0,E0,hQ,hE,z⟩:=z
  match ws,hl with
  | [x_sizes],_=> exact A9Y hQ hE x_sizes h z
theorem A9a {Q:RR→AH→Prop} {E:AExc→AH→Prop} {Q':RR→AH→Prop} {E':AExc→AH→Prop} (hQ:∀r h,Q r h→Q' r h) (hE:∀x h,E x h→E' x h) (x_sizes x_stand:W):∀h,n7 x_sizes x_stand h Q E→A1j (C7 E') (C1 Q') [some (.val x_sizes),some (.val x_stand),none,none,none] h:=by
  have hr_:=P4 hQ
  have he:=P5 hE
  unfold n7 A1j
  exact (D3 (A03 (SN.se (K9 (he _) (B0 (A7 (A5 rfl)) B8))) (fun _=> (D5 (D3 (K4 (G7 (SN.se (B1 A8V (SN.se (G8 R0 (E1 (SN.se (A5 rfl)) G0))) (SN.se A6)))) A3q (M2 (D5 (D3 (A2X (fun x_held=> [some (.val x_sizes),some (.val x_stand),some x_held,none,none]) (fun _=> rfl) (B1 V2 (SN.se (R3 (B0 (A7 A6) B8))) (SN.se (G8 R0 (E1 (SN.se (A5 rfl)) G0)))) (fun x_held=> (D5 (A2W (fun (s19:SV) (j20:Option SV×Option SV)=> [some (.val x_sizes),some (.val x_stand),some s19,j20.1,j20.2]) x_held (none,none) rfl (A7K (A7 (A5 rfl))) (fun s19 j20=> (A2a hQ _)) (fun R27 w24 s19 j20 kn21 _ N23 h z=> by obtain ⟨x_rank,x_place,rfl,z26⟩:=A7j z;refine A2n [some (.val x_sizes),some (.val x_stand),some s19,some (.val x_rank),some (.val x_place)] (A8f i3 i3) rfl h _ ?_;exact A25 h z26 (D3 (K4 (u9 (G7 (SN.se (A08 (SN.se A6) (SN.se (A5 rfl)) (SN.se (G8 R0 (E1 (SN.se (A5 rfl)) G0))))))) A3q (M2 (D5 (K4 (G7 (SN.se (B1 S9 (SN.se (A5 rfl)) (SN.se A6)))) (D3 (A6u (fun x_held=> [some (.val x_sizes),some (.val x_stand),some x_held,some (.val x_rank),some (.val x_place)]) (fun _=> rfl) rfl (SN.se (A5 rfl)) (SN.se A6) (fun x_held=> (D5 (K4 (G7 (SN.se (B1 A8V (SN.se (B1 L4 (S8 rfl) (SN.se (A5 rfl)))) (SN.se (B1 L4 (SN.se (A5 rfl)) (SN.se (A5 rfl))))))) A3q (M2 (fun h z=> N23 x_held (some (.val x_rank),some (.val x_place)) h z))))))) (M2 (fun h z=> N23 s19 (some (.val x_rank),some (.val x_place)) h z)))))))))))))))))))))
theorem A9Z (ws:List W) (h:AH) (Qa:RR→AH→Prop) (Ea:AExc→AH→Prop) (hl:ws.length=2) (z:upc T1 ws h Qa Ea):A1j (C7 Ea) (C1 Qa) (G2 5 ws) h:=by
  obtain ⟨Q0,E0,hQ,hE,z⟩:=z
  match ws,hl with
  | [x_sizes,x_stand],_=> exact A9a hQ hE x_sizes x_stand h z
theorem B0v {Q:RR→AH→Prop} {E:AExc→AH→Prop} {Q':RR→AH→Prop} {E':AExc→AH→Prop} (hQ:∀r h,Q r h→Q' r h) (hE:∀x h,E x h→E' x h) (x_many x_stand:W):∀h,A0w x_many x_stand h Q E→A15 (C7 E') (C1 Q') [some (.val x_many),some (.val x_stand),none,none] h:=by
  have hr_:=P4 hQ
  generalize C1 Q'=D0 at hr_ ⊢
  obtain ⟨nx0,rt0,bk0,ct0⟩:=D0
  have hr_:∀r s env h,Rl env r s→Q s.rr h→rt0 r env h:=hr_
  have he:=P5 hE
  unfold A0w A15
  exact (D3 (A2X (fun x_held=> [some (.val x_many),some (.val x_stand),some x_held,none]) (fun _=> rfl) (B1 V2 (SN.se (R3 (B0 (A7 A6) B8))) (SN.se (A5 rfl))) (fun x_held=> (D5 (D3 (A2W (fun (s13:SV) (j14:Option SV)=> [some (.val x_many),some (.val x_stand),some s13,j14]) x_held (none) rfl (B02 (A7 (A5 rfl))) (fun s13 j14=> (D5 (M0 hr_ (SN.se (G8 A7D (E1 (S8 rfl) G0)))))) (fun R18 x_place s13 j14 kn15 _ N17 h z=> by refine A2n [some (.val x_many),some (.val x_stand),some s13,some (.val x_place)] i3 rfl h _ ?_;exact A25 h z (K4 (G7 (SN.se (B1 S9 (SN.se (A5 rfl)) (SN.se A6)))) (A6u (fun x_held=> [some (.val x_many),some (.val x_stand),some x_held,some (.val x_place)]) (fun _=> rfl) rfl (SN.se (A5 rfl)) (SN.se A6) (fun x_held=> (fun h z=> N17 x_held (some (.val x_place)) h z))) (M2 (fun h z=> N17 s13 (some (.val x_place)) h z))))))))))
theorem B0k (ws:List W) (h:AH) (Qa:RR→AH→Prop) (Ea:AExc→AH→Prop) (hl:ws.length=2) (z:upc p9 ws h Qa Ea):A15 (C7 Ea) (C1 Qa) (G2 4 ws) h:=by
  obtain ⟨Q0,E0,hQ,hE,z⟩:=z
  match ws,hl with
  | [x_many,x_stand],_=> exact B0v hQ hE x_many x_stand h z
theorem A9h {Q:RR→AH→Prop} {E:AExc→AH→Prop} {Q':RR→AH→Prop} {E':AExc→AH→Prop} (hQ:∀r h,Q r h→Q' r h) (hE:∀x h,E x h→E' x h) (x_sizes x_stand:W):∀h,n9 x_sizes x_stand h Q E→A1k (C7 E') (C1 Q') [some (.val x_sizes),some (.val x_stand)] h:=by
  have hr_:=P4 hQ
  generalize C1 Q'=D0 at hr_ ⊢
  obtain ⟨nx0,rt0,bk0,ct0⟩:=D0
  have hr_:∀r s env h,Rl env r s→Q s.rr h→rt0 r env h:=hr_
  have he:=P5 hE
  unfold n9 A1k
  exact (D3 (A03 (SN.se (K9 (he _) (B0 (A7 (A5 rfl)) (B0 (A7 (A5 rfl)) B8)))) (fun _=> (D5 (M0 hr_ (SN.se (K9 (he _) (B0 (A7 (G8 R0 (E1 (SN.se (A5 rfl)) G0))) (B0 (A7 (A5 rfl)) B8)))))))))
theorem A9i (ws:List W) (h:AH) (Qa:RR→AH→Prop) (Ea:AExc→AH→Prop) (hl:ws.length=2) (z:upc U7 ws h Qa Ea):A1k (C7 Ea) (C1 Qa) (G2 2 ws) h:=by
  obtain ⟨Q0,E0,hQ,hE,z⟩:=z
  match ws,hl with
  | [x_sizes,x_stand],_=> exact A9h hQ hE x_sizes x_stand h z
theorem A9z {Q:RR→AH→Prop} {E:AExc→AH→Prop} {Q':RR→AH→Prop} {E':AExc→AH→Prop} (hQ:∀r h,Q r h→Q' r h) (hE:∀x h,E x h→E' x h) (x_script:W):∀h,A0q x_script h Q E→A1u (C7 E') (C1 Q') [some (.val x_script)] h:=by
  have hr_:=P4 hQ
  generalize C1 Q'=D0 at hr_ ⊢
  obtain ⟨nx0,rt0,bk0,ct0⟩:=D0
  have hr_:∀r s env h,Rl env r s→Q s.rr h→rt0 r env h:=hr_
  have he:=P5 hE
  unfold A0q A1u
  exact (M0 hr_ (SN.se (R3 (B0 (A7 (G8 B15 (E1 (SN.se (A2p (SN.se (A5 rfl)) A2u (A2R (SN.se A6)))) G0))) (B0 (A7 A6) (B0 (A7 A6) (B0 (A7 A6) (B0 (A7 A6) B8))))))))
theorem B0E (ws:List W) (h:AH) (Qa:RR→AH→Prop) (Ea:AExc→AH→Prop) (hl:ws.length=1) (z:upc o9 ws h Qa Ea):A1u (C7 Ea) (C1 Qa) (G2 1 ws) h:=by
  obtain ⟨Q0,E0,hQ,hE,z⟩:=z
  match ws,hl with
  | [x_script],_=> exact A9z hQ hE x_script h z
theorem B0J {Q:RR→AH→Prop} {E:AExc→AH→Prop} {Q':RR→AH→Prop} {E':AExc→AH→Prop} (hQ:∀r h,Q r h→Q' r h) (hE:∀x h,E x h→E' x h) (x_bag x_sides:W):∀h,A0n x_bag x_sides h Q E→A1q (C7 E') (C1 Q') [some (.val x_bag),some (.val x_sides),none,none,none] h:=by
  have hr_:=P4 hQ
  generalize C1 Q'=D0 at hr_ ⊢
  obtain ⟨nx0,rt0,bk0,ct0⟩:=D0
  have hr_:∀r s env h,Rl env r s→Q s.rr h→rt0 r env h:=hr_
  have he:=P5 hE
  unfold A0n A1q
  exact (A2S (fun (s5:SV) (j6:Option SV)=> [some s5,some (.val x_sides),j6,none,none]) (fun s5 j6=> (D3 (K4 (G7 (SN.se (B1 A8X (SN.se (B1 L4 (S8 rfl) (SN.se A6))) (SN.se (A5 rfl))))) (D3 (T3 (fun x_side=> [some s5,some (.val x_sides),j6,some (.val x_side),none]) (fun _=> rfl) (A7 (B1 u3 (SN.se (B1 L4 (S8 rfl) (SN.se A6))) (SN.se (A5 rfl)))) (fun x_side=> (D5 (D3 (r9 (fun x_bag=> [some x_bag,some (.val x_sides),j6,some (.val x_side),none]) (fun _=> rfl) (A7 (B1 A6z (SN.se (B1 L4 (S8 rfl) (SN.se A6))) (SN.se (A5 rfl)))) rfl (SN.se A6) (fun x_bag=> (D5 (M0 hr_ (SN.se (A5 rfl))))))))))) (M2 (D5 (D3 (r9 (fun x_bag=> [some x_bag,some (.val x_sides),j6,none,none]) (fun _=> rfl) (A7 (B1 R1 (SN.se (B1 L4 (S8 rfl) (SN.se A6))) (SN.se A6))) rfl (SN.se A6) (fun x_bag=> (D5 (D3 (T3 (fun x_mix=> [some x_bag,some (.val x_sides),j6,none,some (.val x_mix)]) (fun _=> rfl) (A7 (B1 L4 (S8 rfl) (SN.se A6))) (fun x_mix=> (D5 (D3 (r9 (fun x_bag=> [some x_bag,some (.val x_sides),j6,none,some (.val x_mix)]) (fun _=> rfl) (A7 (B1 u3 (SN.se (B1 R1 (SN.se (B1 R1 (SN.se (B1 R1 (SN.se (B1 V2 (SN.se (B1 u3 (SN.se (B1 V2 (SN.se (A5 rfl)) (SN.se (A5 rfl)))) (SN.se A6))) (SN.se A6))) (SN.se (B1 V2 (SN.se (A5 rfl)) (SN.se A6))))) (SN.se (B1 V2 (SN.se A6) (SN.se (B1 L4 (S8 rfl) (SN.se A6))))))) (SN.se A6))) (SN.se A6))) rfl (SN.se A6) (fun x_bag=> (D5 (M0 hr_ (SN.se (B1 u3 (SN.se (B1 R1 (SN.se (B1 A6z (SN.se (B1 L4 (S8 rfl) (SN.se A6))) (SN.se A6))) (SN.se (B1 V2 (SN.se (B1 u3 (SN.se (B1 L4 (S8 rfl) (SN.se A6))) (SN.se A6))) (SN.se A6))))) (SN.se (A5 rfl)))))))))))))))))))))) (fun N8=> (K4 (B26 (G7 (SN.se (B1 A4x (SN.se (B1 L4 (SN.se (A5 rfl)) (SN.se A6))) (SN.se (A5 rfl))))) (G7 (SN.se (B1 A4x (SN.se (B1 L4 (SN.se (A5 rfl)) (SN.se A6))) (SN.se (G8 R0 (E1 (SN.se (B1 L4 (SN.se (A5 rfl)) (SN.se A6))) G0))))))) (D3 (T3 (fun x_cell=> [some (.val x_bag),some (.val x_sides),some (.val x_cell),none,none]) (fun _=> rfl) (A7 (B1 L4 (SN.se (B1 L4 (SN.se (A5 rfl)) (SN.se A6))) (SN.se (B1 L4 (SN.se (A5 rfl)) (SN.se A6))))) (fun x_cell=> (D5 (D3 (r9 (fun x_bag=> [some x_bag,some (.val x_sides),some (.val x_cell),none,none]) (fun _=> rfl) (A7 (B1 R1 (SN.se (B1 L4 (SN.se (A5 rfl)) (SN.se A6))) (SN.se A6))) rfl (SN.se A6) (fun x_bag=> (D5 (D3 (r9 (fun x_bag=> [some x_bag,some (.val x_sides),some (.val x_cell),none,none]) (fun _=> rfl) (A7 A6) rfl (SN.se A6) (fun x_bag=> (D5 (K4 (G7 (SN.se (B1 A8X (SN.se (A5 rfl)) (SN.se (B1 A4O (SN.se A6) (SN.se A6)))))) (r9 (fun x_bag=> [some x_bag,some (.val x_sides),some (.val x_cell),none,none]) (fun _=> rfl) (A7 (A5 rfl)) rfl (SN.se A6) (fun x_bag=> (fun h z=> N8 x_bag (some (.val x_cell)) h z))) (r9 (fun x_bag=> [some x_bag,some (.val x_sides),some (.val x_cell),none,none]) (fun _=> rfl) (A7 (B1 u3 (SN.se (B1 R1 (SN.se (B1 R1 (SN.se (B1 V2 (SN.se (B1 L4 (S8 rfl) (SN.se A6))) (SN.se A6))) (SN.se (B1 V2 (SN.se (B1 u3 (SN.se (A5 rfl)) (SN.se A6))) (SN.se A6))))) (SN.se A6))) (SN.se A6))) rfl (SN.se A6) (fun x_bag=> (fun h z=> N8 x_bag (some (.val x_cell)) h z)))))))))))))))) (M2 (fun h z=> N8 (.val x_bag) (none) h z)))))
theorem A95 (ws:List W) (h:AH) (Qa:RR→AH→Prop) (Ea:AExc→AH→Prop) (hl:ws.length=2) (z:upc M3 ws h Qa Ea):A1q (C7 Ea) (C1 Qa) (G2 5 ws) h:=by
  obtain ⟨Q0,E0,hQ,hE,z⟩:=z
  match ws,hl with
  | [x_bag,x_sides],_=> exact B0J hQ hE x_bag x_sides h z
theorem A91 {Q:RR→AH→Prop} {E:AExc→AH→Prop} {Q':RR→AH→Prop} {E':AExc→AH→Prop} (hQ:∀r h,Q r h→Q' r h) (hE:∀x h,E x h→E' x h) (x_bag x_row:W):∀h,A0o x_bag x_row h Q E→A1r (C7 E') (C1 Q') [some (.val x_bag),some (.val x_row)] h:=by
  have hr_:=P4 hQ
  generalize C1 Q'=D0 at hr_ ⊢
  obtain ⟨nx0,rt0,bk0,ct0⟩:=D0
  have hr_:∀r s env h,Rl env r s→Q s.rr h→rt0 r env h:=hr_
  have he:=P5 hE
  unfold A0o A1r
  exact (M0 hr_ (SN.se (B1 L4 (SN.se (A5 rfl)) (SN.se (K9 (he _) (B0 (A7 (A5 rfl)) (B0 (A7 (G8 R0 (E1 (SN.se (A5 rfl)) G0))) B8)))))))
theorem A97 (ws:List W) (h:AH) (Qa:RR→AH→Prop) (Ea:AExc→AH→Prop) (hl:ws.length=2) (z:upc Q3 ws h Qa Ea):A1r (C7 Ea) (C1 Qa) (G2 2 ws) h:=by
  obtain ⟨Q0,E0,hQ,hE,z⟩:=z
  match ws,hl with
  | [x_bag,x_row],_=> exact A91 hQ hE x_bag x_row h z
theorem B0F (d:Nat) {Q:RR→AH→Prop} {E:AExc→AH→Prop} {Q':RR→AH→Prop} {E':AExc→AH→Prop} (hQ:∀r h,Q r h→Q' r h) (hE:∀x h,E x h→E' x h) (x_found x_due:W):∀h,o4 (m__law_same d) x_found x_due h Q E→A10 d (C7 E') (C1 Q') [some (.val x_found),some (.val x_due),none] h:=by
  have hr_:=P4 hQ
  generalize C1 Q'=D0 at hr_ ⊢
  obtain ⟨nx0,rt0,bk0,ct0⟩:=D0
  have hr_:∀r s env h,Rl env r s→Q s.rr h→rt0 r env h:=hr_
  have he:=P5 hE
  unfold o4 A10
  exact (D3 (K4 (G7 (SN.se (B1 A37 (SN.se (A5 rfl)) (SN.se A6)))) (M0 hr_ (SN.se (B1 A37 (SN.se (A5 rfl)) (SN.se A6)))) (M2 (D5 (D3 (K4 (G7 (SN.se (G8 V4 (E1 (SN.se (A5 rfl)) (E1 (SN.se A6) G0))))) (M0 hr_ (SN.se (A2l (SN.se (G8 V4 (E1 (SN.se (A5 rfl)) (E1 (SN.se A6) G0)))) (B1 S9 (SN.se (A5 rfl)) (SN.se (A5 rfl)))))) (M2 (D5 (D3 (K4 (G7 (SN.se (G8 V4 (E1 (SN.se (A5 rfl)) (E1 (SN.se A6) G0))))) (M0 hr_ (SN.se (A2l (SN.se (G8 V4 (E1 (SN.se (A5 rfl)) (E1 (SN.se A6) G0)))) (A2l (SN.se (B2g (SN.se (G8 V4 (E1 (SN.se (A5 rfl)) (E1 (SN.se A6) G0)))))) (B1 S9 (SN.se (A5 rfl)) (SN.se (A5 rfl))))))) (M2 (D5 (D3 (K4 (G7 (SN.se (G8 V4 (E1 (SN.se (A5 rfl)) (E1 (SN.se A6) G0))))) (M0 hr_ (SN.se (A2l (SN.se (G8 V4 (E1 (SN.se (A5 rfl)) (E1 (SN.se A6) G0)))) (B1 S9 (SN.se (A5 rfl)) (SN.se (A5 rfl)))))) (M2 (D5 (D3 (K4 (A8a (G7 (SN.se (B1 S9 (SN.se (G8 V4 (E1 (SN.se (A5 rfl)) (E1 (SN.se A6) G0)))) (SN.se (G8 V4 (E1 (SN.se (A5 rfl)) (E1 (SN.se A6) G0))))))) (G7 (SN.se (B1 S9 (SN.se (G8 V4 (E1 (SN.se (A5 rfl)) (E1 (SN.se A6) G0)))) (SN.se (G8 V4 (E1 (SN.se (A5 rfl)) (E1 (SN.se A6) G0)))))))) (M0 hr_ (SN.se A6)) (M2 (D5 (D3 (K4 (G7 (SN.se (B1 S9 (SN.se (G8 R0 (E1 (SN.se (A5 rfl)) G0))) (SN.se (G8 R0 (E1 (SN.se (A5 rfl)) G0)))))) (M0 hr_ (SN.se A6)) (M2 (D5 (M0 hr_ (SN.se (G8 B2b (E1 (SN.se (A8I (A2O (E1 (SN.se (G8 R0 (E1 (SN.se (A5 rfl)) G0))) G0)) (fun x_at h kk K1 K0 h1 h0 z=> by exact A3y (e1:=[some (.val x_found),some (.val x_due),some (.val x_at)]) i3 A77 (A7 (A6r (B0 (A7 (B1 L4 (SN.se (A5 rfl)) (SN.se (A5 rfl)))) (B0 (A7 (B1 L4 (SN.se (A5 rfl)) (SN.se (A5 rfl)))) B8)))) rfl h1 h0 z))) G0))))))))))))))))))))))))))))
theorem B0L (d:Nat) (ws:List W) (h:AH) (Qa:RR→AH→Prop) (Ea:AExc→AH→Prop) (hl:ws.length=2) (z:upc (m__law_same (d+1)) ws h Qa Ea):A10 d (C7 Ea) (C1 Qa) (G2 3 ws) h:=by
  obtain ⟨Q0,E0,hQ,hE,z⟩:=z
  match ws,hl with
  | [x_found,x_due],_=> exact B0F d hQ hE x_found x_due h z
theorem A9k {Q:RR→AH→Prop} {E:AExc→AH→Prop} {Q':RR→AH→Prop} {E':AExc→AH→Prop} (hQ:∀r h,Q r h→Q' r h) (hE:∀x h,E x h→E' x h) (x_bag x_mcasks x_most:W):∀h,A0l x_bag x_mcasks x_most h Q E→A1m (C7 E') (C1 Q') [some (.val x_bag),some (.val x_mcasks),some (.val x_most),none] h:=by
  have hr_:=P4 hQ
  generalize C1 Q'=D0 at hr_ ⊢
  obtain ⟨nx0,rt0,bk0,ct0⟩:=D0
  have hr_:∀r s env h,Rl env r s→Q s.rr h→rt0 r env h:=hr_
  have he:=P5 hE
  unfold A0l A1m
  exact (M0 hr_ (SN.se (G8 A7D (E1 (SN.se (A8I (A2O (E1 (SN.se (B1 R1 (SN.se A6) (SN.se (K9 (he _) (B0 (A7 (A5 rfl)) (B0 (A7 (A5 rfl)) B8)))))) G0)) (fun x_mcask h kk K1 K0 h1 h0 z=> by exact A3y (e1:=[some (.val x_bag),some (.val x_mcasks),some (.val x_most),some (.val x_mcask)]) i3 A77 (A7 (B1 R1 (SN.se A6) (SN.se (A6r (B0 (A7 (A5 rfl)) (B0 (A7 (A5 rfl)) B8)))))) rfl h1 h0 z))) G0))))
theorem A9v (ws:List W) (h:AH) (Qa:RR→AH→Prop) (Ea:AExc→AH→Prop) (hl:ws.length=3) (z:upc o3 ws h Qa Ea):A1m (C7 Ea) (C1 Qa) (G2 4 ws) h:=by
  obtain ⟨Q0,E0,hQ,hE,z⟩:=z
  match ws,hl with
  | [x_bag,x_mcasks,x_most],_=> exact A9k hQ hE x_bag x_mcasks x_most h z
theorem A9T {Q:RR→AH→Prop} {E:AExc→AH→Prop} {Q':RR→AH→Prop} {E':AExc→AH→Prop} (hQ:∀r h,Q r h→Q' r h) (hE:∀x h,E x h→E' x h) (x_bag:W):∀h,A0h x_bag h Q E→A1g (C7 E') (C1 Q') [some (.val x_bag)] h:=by
  have hr_:=P4 hQ
  generalize C1 Q'=D0 at hr_ ⊢
  obtain ⟨nx0,rt0,bk0,ct0⟩:=D0
  have hr_:∀r s env h,Rl env r s→Q s.rr h→rt0 r env h:=hr_
  have he:=P5 hE
  unfold A0h A1g
  exact (M0 hr_ (SN.se (K9 (he _) (B0 (A7 (A5 rfl)) (B0 (A7 A6) (B0 (A7 (K9 (he _) (B0 (A7 (A5 rfl)) (B0 (A7 (R3 (B0 (A7 A6) (B0 (A7 A6) (B0 (A7 A6) (B0 (A7 A6) B8)))))) B8)))) B8))))))
theorem A9Q (ws:List W) (h:AH) (Qa:RR→AH→Prop) (Ea:AExc→AH→Prop) (hl:ws.length=1) (z:upc n8 ws h Qa Ea):A1g (C7 Ea) (C1 Qa) (G2 1 ws) h:=by
  obtain ⟨Q0,E0,hQ,hE,z⟩:=z
  match ws,hl with
  | [x_bag],_=> exact A9T hQ hE x_bag h z
theorem B0D {Q:RR→AH→Prop} {E:AExc→AH→Prop} {Q':RR→AH→Prop} {E':AExc→AH→Prop} (hQ:∀r h,Q r h→Q' r h) (hE:∀x h,E x h→E' x h) (x_row:W):∀h,A0p x_row h Q E→A1o (C7 E') (C1 Q') [some (.val x_row),none,none] h:=by
  have hr_:=P4 hQ
  generalize C1 Q'=D0 at hr_ ⊢
  obtain ⟨nx0,rt0,bk0,ct0⟩:=D0
  have hr_:∀r s env h,Rl env r s→Q s.rr h→rt0 r env h:=hr_
  have he:=P5 hE
  unfold A0p A1o
  exact (D3 (K4 (u9 (G7 (SN.se (A08 (SN.se A6) (SN.se (G8 R0 (E1 (SN.se (A5 rfl)) G0))) (SN.se A6))))) (M0 hr_ (SN.se (A1C (SN.se A6)))) (M2 (D5 (D3 (B1B (fun x_some=> [some (.val x_row),some x_some,none]) (fun _=> rfl) (A2O (E1 (SN.se (G8 R0 (E1 (SN.se (A5 rfl)) G0))) G0)) (fun x_at h kk K1 K0 h1 h0 z=> by exact A3y (e1:=[some (.val x_row),none,some (.val x_at)]) i3 (u9 (G7 (SN.se (A08 (SN.se A6) (SN.se (B1 L4 (SN.se (A5 rfl)) (SN.se (A5 rfl)))) (SN.se A6))))) (A7 (A5 rfl)) rfl h1 h0 z) (fun x_some=> (D5 (M0 hr_ (SN.se (B3s (G7 (SN.se (B1 S9 (S8 rfl) (SN.se (R3 B8))))) A6 (B1 L4 (S8 rfl) (SN.se A6)))))))))))))
theorem A90 (ws:List W) (h:AH) (Qa:RR→AH→Prop) (Ea:AExc→AH→Prop) (hl:ws.length=1) (z:upc o7 ws h Qa Ea):A1o (C7 Ea) (C1 Qa) (G2 3 ws) h:=by
  obtain ⟨Q0,E0,hQ,hE,z⟩:=z
  match ws,hl with
  | [x_row],_=> exact B0D hQ hE x_row h z
theorem A9g {Q:RR→AH→Prop} {E:AExc→AH→Prop} {Q':RR→AH→Prop} {E':AExc→AH→Prop} (hQ:∀r h,Q r h→Q' r h) (hE:∀x h,E x h→E' x h) {fl:Addr} {sp:C0} {ML:List W→MC} (hs:∀ws h Q E,upc ML ws h Q E→sp ws h Q E) (x_ask:W):∀h,f7 fl ML x_ask h Q E→j5 fl sp (C7 E') (C1 Q') [some (.val (.ref fl)),none,none] h:=by
  have hr_:=P4 hQ
  generalize C1 Q'=D0 at hr_ ⊢
  obtain ⟨nx0,rt0,bk0,ct0⟩:=D0
  have hr_:∀r s env h,Rl env r s→Q s.rr h→rt0 r env h:=hr_
  have he:=P5 hE
  unfold f7 j5
  exact (D3 (T3 (fun x_mcask=> [some (.val (.ref fl)),some (.val x_mcask),none]) (fun _=> rfl) (A7 A6) (fun x_mcask=> (D5 (D3 (B23 (ks:=["BadSizes"]) (i:=2) (j:=1) (l:=[("BadSizes",(A1V "cask"))]) rfl (Nat.le_of_ble_eq_true rfl) (.cons B2x .nil) (he _) (fun s7=> (D5 (M0 hr_ (SN.se (A5 rfl))))) (fun E2 Ein hz kk8 N9=> (A03 (SN.se (B24 hz hs rfl B8)) (fun _=> (fun h z=> N9 x_mcask h z))))))))))
theorem A1l {ML:List W→MC} (fl:Addr) (sp:C0) (hs:∀ws h Q E,upc ML ws h Q E→sp ws h Q E) (ws:List W) (h:AH) (Qa:RR→AH→Prop) (Ea:AExc→AH→Prop) (hl:ws.length=1) (z:upc (o0 ML fl) ws h Qa Ea):j5 fl sp (C7 Ea) (C1 Qa) (G2 3 ws) h:=by
  obtain ⟨Q0,E0,hQ,hE,z⟩:=z
  match ws,hl with
  | [x_ask],_=>
    obtain ⟨e,z⟩:=z
    subst e
    exact A9g hQ hE hs (.ref fl) h z
theorem A9P {Q:RR→AH→Prop} {E:AExc→AH→Prop} {Q':RR→AH→Prop} {E':AExc→AH→Prop} (hQ:∀r h,Q r h→Q' r h) (hE:∀x h,E x h→E' x h) (x_self x_sizes:W):∀h,A0i x_self x_sizes h Q E→A1f (C7 E') (C1 Q') [some (.val x_self),some (.val x_sizes)] h:=by
  have hr_:=P4 hQ
  have he:=P5 hE
  unfold A0i A1f
  exact (D3 (A03 (SN.se (K9 (he _) (B0 (A7 (A5 rfl)) B8))) (fun _=> (D5 (D3 (j8 (A7 (A5 rfl)) (SN.se (A5 rfl)) ((D5 (D3 (j8 (A2o A6i) (SN.se (A5 rfl)) ((D5 (j8 (A2o A6i) (SN.se (A5 rfl)) ((A2a hQ _)))))))))))))))
theorem A9R (ws:List W) (h:AH) (Qa:RR→AH→Prop) (Ea:AExc→AH→Prop) (hl:ws.length=2) (z:upc U6 ws h Qa Ea):A1f (C7 Ea) (C1 Qa) (G2 2 ws) h:=by
  obtain ⟨Q0,E0,hQ,hE,z⟩:=z
  match ws,hl with
  | [x_self,x_sizes],_=> exact A9P hQ hE x_self x_sizes h z
theorem A9L {Q:RR→AH→Prop} {E:AExc→AH→Prop} {Q':RR→AH→Prop} {E':AExc→AH→Prop} (hQ:∀r h,Q r h→Q' r h) (hE:∀x h,E x h→E' x h) (x_self x_sizes x_stand:W):∀h,A0g x_self x_sizes x_stand h Q E→A1h (C7 E') (C1 Q') [some (.val x_self),some (.val x_sizes),some (.val x_stand)] h:=by
  have hr_:=P4 hQ
  have he:=P5 hE
  unfold A0g A1h
  exact (D3 (A03 (SN.se (K9 (he _) (B0 (A7 (A5 rfl)) (B0 (A7 (A5 rfl)) B8)))) (fun _=> (D5 (D3 (j8 (A7 (A5 rfl)) (SN.se (A5 rfl)) ((D5 (D3 (j8 (A7 (A5 rfl)) (SN.se (A5 rfl)) ((D5 (D3 (j8 (A7 (A68 (he _) (B0 (A7 (A5 rfl)) B8))) (SN.se (A5 rfl)) ((D5 (D3 (j8 (A2o (R3 B8)) (SN.se (A5 rfl)) ((D5 (j8 (A2o (R3 B8)) (SN.se (A5 rfl)) ((A2a hQ _)))))))))))))))))))))))
theorem A9M (ws:List W) (h:AH) (Qa:RR→AH→Prop) (Ea:AExc→AH→Prop) (hl:ws.length=3) (z:upc n5 ws h Qa Ea):A1h (C7 Ea) (C1 Qa) (G2 3 ws) h:=by
  obtain ⟨Q0,E0,hQ,hE,z⟩:=z
  match ws,hl with
  | [x_self,x_sizes,x_stand],_=> exact A9L hQ hE x_self x_sizes x_stand h z
theorem B3r {Q:RR→AH→Prop} {E:AExc→AH→Prop} {Q':RR→AH→Prop} {E':AExc→AH→Prop} (hQ:∀r h,Q r h→Q' r h) (hE:∀x h,E x h→E' x h) (x_script:W):∀h,A05 x_script h Q E→A2z (C7 E') (C1 Q') [some (.val x_script),none,none,none,none,none,none,none,none] h:=by
  have hr_:=P4 hQ
  generalize C1 Q'=D0 at hr_ ⊢
  obtain ⟨nx0,rt0,bk0,ct0⟩:=D0
  have hr_:∀r s env h,Rl env r s→Q s.rr h→rt0 r env h:=hr_
  have he:=P5 hE
  unfold A05 A2z
  exact (D3 (A2X (fun x_bag=> [some (.val x_script),some x_bag,none,none,none,none,none,none,none]) (fun _=> rfl) (K9 (he _) (B0 (A7 (A5 rfl)) B8)) (fun x_bag=> (D5 (D3 (B1v (fun x_bag=> [some (.val x_script),some (.val x_bag),none,none,none,none,none,none,none]) (fun _=> rfl) rfl (fun x_bag=> (A2W (fun (s88:Unit) (j89:Option SV×Option SV×Option SV×Option SV×Option SV×Option SV×Option SV)=> [some (.val x_script),some (.val x_bag),j89.1,j89.2.1,j89.2.2.1,j89.2.2.2.1,j89.2.2.2.2.1,j89.2.2.2.2.2.1,j89.2.2.2.2.2.2]) () (none,none,none,none,none,none,none) rfl (A2O (E1 (SN.se A6) G0)) (fun s88 j89=> (D5 (M0 hr_ (SN.se (K9 (he _) (B0 (A7 (R3 (B0 (A7 A6) (B0 (A7 A6) (B0 (A7 A6) (B0 (A7 A6) B8)))))) (B0 (A7 (R3 (B0 (A7 A6) (B0 (A7 A6) (B0 (A7 A6) (B0 (A7 (A1C (SN.se A6))) B8)))))) B8))))))) (fun R93 x_turn s88 j89 kn90 _ N92 h z=> by refine A2n [some (.val x_script),some (.val x_bag),some (.val x_turn),j89.2.1,j89.2.2.1,j89.2.2.2.1,j89.2.2.2.2.1,j89.2.2.2.2.2.1,j89.2.2.2.2.2.2] i3 rfl h _ ?_;exact A25 h z (D3 (T3 (fun x_msizes=> [some (.val x_script),some (.val x_bag),some (.val x_turn),some (.val x_msizes),j89.2.2.1,j89.2.2.2.1,j89.2.2.2.2.1,j89.2.2.2.2.2.1,j89.2.2.2.2.2.2]) (fun _=> rfl) (A7 (K9 (he _) (B0 (A7 (A5 rfl)) B8))) (fun x_msizes=> (D5 (D3 (T3 (fun x_how=> [some (.val x_script),some (.val x_bag),some (.val x_turn),some (.val x_msizes),some (.val x_how),j89.2.2.2.1,j89.2.2.2.2.1,j89.2.2.2.2.2.1,j89.2.2.2.2.2.2]) (fun _=> rfl) (A7 (K9 (he _) (B0 (A7 (A5 rfl)) (B0 (A7 A6) B8)))) (fun x_how=> (D5 (D3 (T3 (fun x_at=> [some (.val x_script),some (.val x_bag),some (.val x_turn),some (.val x_msizes),some (.val x_how),some (.val x_at),j89.2.2.2.2.1,j89.2.2.2.2.2.1,j89.2.2.2.2.2.2]) (fun _=> rfl) (A7 (K9 (he _) (B0 (A7 (A5 rfl)) (B0 (A7 (G8 R0 (E1 (SN.se (A5 rfl)) G0))) B8)))) (fun x_at=> (D5 (D3 (T3 (fun x_odd=> [some (.val x_script),some (.val x_bag),some (.val x_turn),some (.val x_msizes),some (.val x_how),some (.val x_at),some (.val x_odd),j89.2.2.2.2.2.1,j89.2.2.2.2.2.2]) (fun _=> rfl) (A7 (K9 (he _) (B0 (A7 (A5 rfl)) (B0 (A7 (R3 (B0 (A7 A6) (B0 (A7 A6) (B0 (A7 (A1C (SN.se A6))) (B0 (A7 (B1 A4O (SN.se A6) (SN.se A6))) (B0 (A7 (A1C (SN.se (B1 A4O (SN.se A6) (SN.se A6))))) B8))))))) B8)))) (fun x_odd=> (D5 (A2S (fun (s94:W) (j95:Unit)=> [some (.val x_script),some (.val x_bag),some (.val x_turn),some (.val s94),some (.val x_how),some (.val x_at),some (.val x_odd),j89.2.2.2.2.2.1,j89.2.2.2.2.2.2]) (fun s94 j95=> (A2S (fun (s96:W) (j97:Unit)=> [some (.val x_script),some (.val x_bag),some (.val x_turn),some (.val s96),some (.val x_how),some (.val x_at),some (.val x_odd),j89.2.2.2.2.2.1,j89.2.2.2.2.2.2]) (fun s96 j97=> (A2S (fun (s98:W) (j99:Unit)=> [some (.val x_script),some (.val x_bag),some (.val x_turn),some (.val s98),some (.val x_how),some (.val x_at),some (.val x_odd),j89.2.2.2.2.2.1,j89.2.2.2.2.2.2]) (fun s98 j99=> (D3 (T3 (fun x_due=> [some (.val x_script),some (.val x_bag),some (.val x_turn),some (.val s98),some (.val x_how),some (.val x_at),some (.val x_odd),some (.val x_due),j89.2.2.2.2.2.2]) (fun _=> rfl) (A7 (K9 (he _) (B0 (A7 (A5 rfl)) B8))) (fun x_due=> (D5 (D3 (K4 (u9 (G7 (SN.se (K9 (he _) (B0 (A7 (A12 (he _) (fun f sp hs ws h Qa Ea hl z=> A1l f sp hs ws h Qa Ea hl z) (A2G (fun Q E E' he=> (SN.se (K9 (he _) (B0 (A7 (A5 rfl)) B8))))) (A2P B8))) (B0 (A7 (A5 rfl)) B8)))))) (M0 hr_ (SN.se A6)) (M2 (D5 (K4 (G7 (SN.se (B1 S9 (SN.se (A5 rfl)) (SN.se A6)))) (K4 (A8a (G7 (SN.se (B1 A37 (SN.se (B1K (he _) (B0 (A7 (A5 rfl)) B8))) (SN.se A6)))) (G7 (SN.se (B1 S9 (SN.se (K9 (he _) (B0 (A7 (A5 rfl)) (B0 (A7 (A0G B8)) B8)))) (SN.se (B1 V2 (SN.se (A0G (B0 (A7 A6) B8))) (SN.se (G8 R0 (E1 (SN.se (A5 rfl)) G0))))))))) (M0 hr_ (SN.se A6)) (M2 (fun h z=> N92 () (some (.val x_turn),some (.val s98),some (.val x_how),some (.val x_at),some (.val x_odd),some (.val x_due),j89.2.2.2.2.2.2) h z))) (D3 (A2X (fun x_found=> [some (.val x_script),some (.val x_bag),some (.val x_turn),some (.val s98),some (.val x_how),some (.val x_at),some (.val x_odd),some (.val x_due),some x_found]) (fun _=> rfl) (R3 (B0 (A7 (A12 (he _) (fun f sp hs ws h Qa Ea hl z=> A1l f sp hs ws h Qa Ea hl z) (A2G (fun Q E E' he=> (SN.se (K9 (he _) (B0 (A7 (A5 rfl)) (B0 (A7 (A0G (B0 (A7 A6) B8))) B8)))))) (A2P B8))) B8)) (fun x_found=> (D5 (D3 (A8P (fun x_found=> [some (.val x_script),some (.val x_bag),some (.val x_turn),some (.val s98),some (.val x_how),some (.val x_at),some (.val x_odd),some (.val x_due),some x_found]) (fun _=> rfl) A6I rfl (B0 (A7 (A12 (he _) (fun f sp hs ws h Qa Ea hl z=> A1l f sp hs ws h Qa Ea hl z) (A2G (fun Q E E' he=> (SN.se (A68 (he _) (B0 (A7 (A5 rfl)) B8))))) (A2P B8))) B8) (fun x_found _=> (D5 (D3 (A8P (fun x_found=> [some (.val x_script),some (.val x_bag),some (.val x_turn),some (.val s98),some (.val x_how),some (.val x_at),some (.val x_odd),some (.val x_due),some x_found]) (fun _=> rfl) A6I rfl (B0 (A7 (A12 (he _) (fun f sp hs ws h Qa Ea hl z=> A1l f sp hs ws h Qa Ea hl z) (A2G (fun Q E E' he=> (SN.se (B1Z (he _) (B0 (A7 (A5 rfl)) B8) (B0 (A7 (A0G (B0 (A7 A6) B8))) B8))))) (A2P B8))) B8) (fun x_found _=> (D5 (B2y [some (.val x_script),some (.val x_bag),some (.val x_turn),some (.val s98),some (.val x_how),some (.val x_at),some (.val x_odd),some (.val x_due),some (.val (SV.fz x_found))] rfl rfl (K4 (u9 (G7 (SN.se (K9 (he _) (B0 (A7 (A5 rfl)) (B0 (A7 (R3 (B0 (A7 (A5 rfl)) (B0 (A7 (A5 rfl)) (B0 (A7 (A5 rfl)) B8))))) B8)))))) (M0 hr_ (SN.se A6)) (M2 (fun h z=> N92 () (some (.val x_turn),some (.val s98),some (.val x_how),some (.val x_at),some (.val x_odd),some (.val x_due),some (.val (SV.fz x_found))) h z)))))))))))))))))))))))))) (fun N101=> (K4 (G7 (SN.se (B1 S9 (SN.se (A5 rfl)) (SN.se A6)))) (T3 (fun x_msizes=> [some (.val x_script),some (.val x_bag),some (.val x_turn),some (.val x_msizes),some (.val x_how),some (.val x_at),some (.val x_odd),j89.2.2.2.2.2.1,j89.2.2.2.2.2.2]) (fun _=> rfl) (A7 (A2p (SN.se (B1 V2 (SN.se (A5 rfl)) (SN.se A6))) A2u (A2R (SN.se (K9 (he _) (B0 (A7 (A5 rfl)) (B0 (A7 (R3 (B0 (A7 A6) (B0 (A7 A6) (B0 (A7 A6) B8))))) B8))))))) (fun x_msizes=> (fun h z=> N101 x_msizes () h z))) (M2 (fun h z=> N101 s96 () h z)))))) (fun N103=> (K4 (G7 (SN.se (B1 S9 (SN.se (A5 rfl)) (SN.se A6)))) (T3 (fun x_msizes=> [some (.val x_script),some (.val x_bag),some (.val x_turn),some (.val x_msizes),some (.val x_how),some (.val x_at),some (.val x_odd),j89.2.2.2.2.2.1,j89.2.2.2.2.2.2]) (fun _=> rfl) (A7 (B1 R1 (SN.se (A5 rfl)) (SN.se (A0G (B0 (A7 (K9 (he _) (B0 (A7 (A5 rfl)) (B0 (A7 (R3 (B0 (A7 A6) (B0 (A7 A6) (B0 (A7 A6) (B0 (A7 A6) B8)))))) B8)))) B8))))) (fun x_msizes=> (fun h z=> N103 x_msizes () h z))) (M2 (fun h z=> N103 s94 () h z)))))) (fun N105=> (K4 (G7 (SN.se (B1 A4x (SN.se (A5 rfl)) (SN.se A6)))) (T3 (fun x_msizes=> [some (.val x_script),some (.val x_bag),some (.val x_turn),some (.val x_msizes),some (.val x_how),some (.val x_at),some (.val x_odd),j89.2.2.2.2.2.1,j89.2.2.2.2.2.2]) (fun _=> rfl) (A7 (B1 R1 (SN.se (B1 R1 (SN.se (A2p (SN.se (A5 rfl)) A2u (A2R (SN.se (A5 rfl))))) (SN.se (A0G (B0 (A7 (A5 rfl)) B8))))) (SN.se (A2p (SN.se (A5 rfl)) (A2R (SN.se (B1 R1 (SN.se (A5 rfl)) (SN.se A6)))) A2u)))) (fun x_msizes=> (fun h z=> N105 x_msizes () h z))) (M2 (fun h z=> N105 x_msizes () h z))))))))))))))))))))))))))))))
theorem B32 (ws:List W) (h:AH) (Qa:RR→AH→Prop) (Ea:AExc→AH→Prop) (hl:ws.length=1) (z:upc m_law ws h Qa Ea):A2z (C7 Ea) (C1 Qa) (G2 9 ws) h:=by
  obtain ⟨Q0,E0,hQ,hE,z⟩:=z
  match ws,hl with
  | [x_script],_=> exact B3r hQ hE x_script h z
end Ab
namespace Ab
open PySem PySem.Spec PyProof.Rows L2 RZ
abbrev A3U:List Str:=["sizes","cask","size"]
abbrev X0:List Str:=["sizes"]
theorem A5p:FnScope A3U X0 (defScope N0):=⟨rfl,rfl,rfl,by decide+kernel,rfl,by decide+kernel,by decide+kernel⟩
theorem A3V:Q5 "look_sizes" N0 X0:=fun _ _ _ _ _ _ us hl=> match us,hl with | [_],_=> rfl
abbrev A3S:List Str:=["sizes","stand","held","rank","place"]
abbrev o5:List Str:=["sizes","stand"]
theorem A5m:FnScope A3S o5 (defScope O1):=⟨rfl,rfl,rfl,by decide+kernel,rfl,by decide+kernel,by decide+kernel⟩
theorem A5j:Q5 "look_stand" O1 o5:=fun _ _ _ _ _ _ us hl=> match us,hl with | [_,_],_=> rfl
abbrev A3j:List Str:=["many","stand","held","place"]
abbrev A0y:List Str:=["many","stand"]
theorem A6N:FnScope A3j A0y (defScope Q4):=⟨rfl,rfl,rfl,by decide+kernel,rfl,by decide+kernel,by decide+kernel⟩
theorem B0c:Q5 "counted" Q4 A0y:=fun _ _ _ _ _ _ us hl=> match us,hl with | [_,_],_=> rfl
abbrev A3X:List Str:=["sizes","stand"]
abbrev A0t:List Str:=["sizes","stand"]
theorem A5y:FnScope A3X A0t (defScope Q2):=⟨rfl,rfl,rfl,by decide+kernel,rfl,by decide+kernel,by decide+kernel⟩
theorem A56:Q5 "counts_of" Q2 A0t:=fun _ _ _ _ _ _ us hl=> match us,hl with | [_,_],_=> rfl
abbrev A3c:List Str:=["_law_script"]
abbrev A0s:List Str:=["_law_script"]
theorem A57:FnScope A3c A0s (defScope Q1):=⟨rfl,rfl,rfl,by decide+kernel,rfl,by decide+kernel,by decide+kernel⟩
theorem A93:Q5 "_law_open" Q1 A0s:=fun _ _ _ _ _ _ us hl=> match us,hl with | [_],_=> rfl
abbrev A3b:List Str:=["_law_bag","_law_sides","_law_cell","_law_side","_law_mix"]
abbrev f8:List Str:=["_law_bag","_law_sides"]
theorem A5w:FnScope A3b f8 (defScope N2):=⟨rfl,rfl,rfl,by decide+kernel,rfl,by decide+kernel,by decide+kernel⟩
theorem A0v:Q5 "_law_take" N2 f8:=fun _ _ _ _ _ _ us hl=> match us,hl with | [_,_],_=> rfl
abbrev A3a:List Str:=["_law_bag","_law_row"]
abbrev o6:List Str:=["_law_bag","_law_row"]
theorem A5t:FnScope A3a o6 (defScope O2):=⟨rfl,rfl,rfl,by decide+kernel,rfl,by decide+kernel,by decide+kernel⟩
theorem A1p:Q5 "_law_pick" O2 o6:=fun _ _ _ _ _ _ us hl=> match us,hl with | [_,_],_=> rfl
abbrev A1s:List Str:=["_law_found","_law_due","_law_at"]
abbrev o8:List Str:=["_law_found","_law_due"]
theorem A5v:FnScope A1s o8 (defScope O3):=⟨rfl,rfl,rfl,by decide+kernel,rfl,by decide+kernel,by decide+kernel⟩
theorem A1y:Q5 "_law_same" O3 o8:=fun _ _ _ _ _ _ us hl=> match us,hl with | [_,_],_=> rfl
abbrev A1n:List Str:=["_law_bag","_law_mcasks","_law_most","_law_mcask"]
abbrev A0m:List Str:=["_law_bag","_law_mcasks","_law_most"]
theorem A5q:FnScope A1n A0m (defScope O8):=⟨rfl,rfl,rfl,by decide+kernel,rfl,by decide+kernel,by decide+kernel⟩
theorem A9l:Q5 "_law_sizes" O8 A0m:=fun _ _ _ _ _ _ us hl=> match us,hl with | [_,_,_],_=> rfl
abbrev A3Q:List Str:=["_law_bag"]
abbrev A0j:List Str:=["_law_bag"]
theorem A5a:FnScope A3Q A0j (defScope P8):=⟨rfl,rfl,rfl,by decide+kernel,rfl,by decide+kernel,by decide+kernel⟩
theorem A9V:Q5 "_law_any_sizes" P8 A0j:=fun _ _ _ _ _ _ us hl=> match us,hl with | [_],_=> rfl
abbrev A1x:List Str:=["_law_row","_law_some","_law_at"]
abbrev A0u:List Str:=["_law_row"]
theorem A50:FnScope A1x A0u (defScope O9):=⟨rfl,rfl,rfl,by decide+kernel,rfl,by decide+kernel,by decide+kernel⟩
theorem B0M:Q5 "_law_flaw" O9 A0u:=fun _ _ _ _ _ _ us hl=> match us,hl with | [_],_=> rfl
abbrev A1t:List Str:=["_law_ask","_law_mcask","e"]
abbrev A55:List Str:=["_law_ask"]
theorem A0r:FnScope A1t A55 (defScope P0):=⟨rfl,rfl,rfl,by decide+kernel,rfl,by decide+kernel,by decide+kernel⟩
theorem A1w:Q5 "_law_told" P0 A55:=fun _ _ _ _ _ _ us hl=> match us,hl with | [_],_=> rfl
abbrev A3O:List Str:=["self","sizes"]
abbrev n3:List Str:=["self","sizes"]
theorem A5c:FnScope A3O n3 (defScope O0):=⟨rfl,rfl,rfl,by decide+kernel,rfl,by decide+kernel,by decide+kernel⟩
theorem A5Z:A4S "Book" "__init__" O0 n3:=fun _ _ _ _ _ _ us hl=> match us,hl with | [_,_],_=> rfl
abbrev A3P:List Str:=["self","sizes","stand"]
abbrev A0k:List Str:=["self","sizes","stand"]
theorem A5e:FnScope A3P A0k (defScope P9):=⟨rfl,rfl,rfl,by decide+kernel,rfl,by decide+kernel,by decide+kernel⟩
abbrev V9:List Str:=["_law_script","_law_bag","_law_turn","_law_msizes","_law_how","_law_at","_law_odd","_law_due","_law_found"]
abbrev A2v:List Str:=["_law_script"]
theorem A8O:FnScope V9 A2v (defScope N1):=⟨rfl,rfl,rfl,by decide+kernel,rfl,by decide+kernel,by decide+kernel⟩
theorem A92:FnScope ["self","cask"] ["self","cask"] (defScope A1z):=⟨rfl,rfl,rfl,by decide+kernel,rfl,by decide+kernel,by decide+kernel⟩
theorem A9J:MB "__init__" (("Loft":Str)++"."++"__init__") P9 [] A0k ["stand"] 2 [0,1,2] []:=B2d (fun _ _ _ _ _ _ us ws h1 h2=> match us,ws,h1,h2 with | [u0,u1],[w0],_,_=> rfl)
theorem A9b:A4u "look_sizes" N0 X0 ["sizes"] [0]:=fun _ _ _ _ _ _ us hl=> match us,hl with | [u0],_=> rfl
end Ab
namespace Ab
open PySem PySem.Spec PyProof.Rows L2 RZ
structure Blt (K:PySem.W.Frag) (mg:Str→Option Value):Prop where
  n_all:mg "all"=none
  n_bool:mg "bool"=none
  n_enumerate:mg "enumerate"=none
  n_int:mg "int"=none
  n_isinstance:mg "isinstance"=none
  n_len:mg "len"=none
  n_list:mg "list"=none
  n_min:mg "min"=none
  n_range:mg "range"=none
  n_str:mg "str"=none
  n_tuple:mg "tuple"=none
  c_GONE:∃t,mg "GONE"=some (.int (-1) t)
  c_GREAT:∃t,mg "GREAT"=some (.int 1000000000000000000000000000000 t)
  c_LETTERS:∃t,mg "LETTERS"=some (.str ("abcdefghijklmnopqrstuvwxyz":Str) t)
  c_LONGEST:∃t,mg "LONGEST"=some (.int 8 t)
  c_MOST_CALLS:∃t,mg "MOST_CALLS"=some (.int 9 t)
  c_MOST_CASKS:∃t,mg "MOST_CASKS"=some (.int 6 t)
  c_MOST_DROPS:∃t,mg "MOST_DROPS"=some (.int 60 t)
  c_MOST_SIZE:∃t,mg "MOST_SIZE"=some (.int 40 t)
  c_PATHS:∃a vs,mg "PATHS"=some (.ref a)∧(∀H,SqT K H a vs)∧∀H,RepL K H [.str ("over":Str),.str ("down":Str)] vs
  c_PLAIN:∃a vs,mg "PLAIN"=some (.ref a)∧(∀H,SqT K H a vs)∧∀H,RepL K H [.str ("swap":Str),.str ("tap":Str),.str ("drain":Str)] vs
  h_BadSizes:mg "BadSizes"=some (.ref (He.ga K "BadSizes"))
  x_BadSizes:∀k∈(["BadSizes"]:List Str),PySem.W.exmOne K (.ref (He.ga K k)) (.ref (He.ga K "BadSizes"))=some (d8 k "BadSizes")
  f_cask:∀c∈(["BadSizes"]:List Str),XfC K (He.ga K c)∧PySem.W.findIn K (.ref (He.ga K c)) "cask"=some none
  fo_Book_casks:FldOk K "Book" "casks"
  fo_Book_laid:FldOk K "Book" "laid"
  fo_Book_written:FldOk K "Book" "written"
  fo_Loft_book:FldOk K "Loft" "book"
  fo_Loft_casks:FldOk K "Loft" "casks"
  fo_Loft_later:FldOk K "Loft" "later"
  fo_Loft_now:FldOk K "Loft" "now"
  fo_Loft_past:FldOk K "Loft" "past"
  mk_Book:MkC K mg "Book"
  mk_Loft:MkC K mg "Loft"
theorem A9t {P:Program} {w:World} {K:PySem.W.Frag} {mg:Str→Option Value} {base:Heap} {f:Addr} {cdv:Value} {A:Around} {outer:List Env} {s:Shared} {H:Hp} {EX:XK} {G:Gx} {E:AExc→A0→AH→Prop} (Z:Blt K mg) (R_BadSizes:XkOk P w K mg base "BadSizes" "bad sizes" ["cask"]) (hr:Room 2 (A.deeper (envOfC "look_sizes" (defScope N0) s.heap.objs.size f cdv))) (gk:G.K=K) (tk:Takes (bx P w K mg base A3U "look_sizes" (defScope N0) f cdv A outer s H EX) (cW G E)):
    ASs (bx P w K mg base A3U "look_sizes" (defScope N0) f cdv A outer s H EX) G (defBody N0) (A1i E):=by
  subst gk
  have gk:G.K=G.K:=rfl
  have sc:=A5p
  have hu:=hr.units
  exact (C5 (K3 (u6 (A09 op_le op_le ae_int (I6 call_len R6 rfl Z.n_len R4 (D9 (A1 (pv 0)) G1)) (Z8 rfl Z.c_MOST_CASKS))) (D6 (A6m R_BadSizes gk rfl tk hr (by decide) rfl (D1 (A8 (A1F ae_int)) F9))) L9)
    (D6 (A2Y (passes_of rfl) rfl (A7F gk rfl Z.n_enumerate (A8 (A1 (pv 0)))) (A7k gk rfl (A17 (M4 (i:=1) sc.nd rfl (by first | exact .inl rfl | exact .inr rfl)) (A17 (M4 (i:=2) sc.nd rfl (by first | exact .inl rfl | exact .inr rfl)) A7P))) (D6 (K3 (u6 (A09 op_le op_le ae_int (A1 (pv 2)) (Z8 rfl Z.c_MOST_SIZE))) (D6 (A6m R_BadSizes gk rfl tk hr (by decide) rfl (D1 (A8 (A1 (pv 1))) F9))) L9)))))
theorem A9s {P:Program} {w:World} {K:PySem.W.Frag} {mg:Str→Option Value} {base:Heap} {f:Addr} {cdv:Value} {A:Around} {outer:List Env} {s:Shared} {H:Hp} {EX:XK} {G:Gx} {E:AExc→A0→AH→Prop} (Z:Blt K mg) (O_look_sizes:Ok P w K mg base "look_sizes" N0 3 1 X0 (upc L7)) (hr:Room 3 (A.deeper (envOfC "look_stand" (defScope O1) s.heap.objs.size f cdv))) (gk:G.K=K) (tk:Takes (bx P w K mg base A3S "look_stand" (defScope O1) f cdv A outer s H EX) (cW G E)):
    ASs (bx P w K mg base A3S "look_stand" (defScope O1) f cdv A outer s H EX) G (defBody O1) (A1j E):=by
  subst gk
  have gk:G.K=G.K:=rfl
  have sc:=A5m
  have hu:=hr.units
  exact (C5 (s9 (I9 gk O_look_sizes A3V hr (by decide) rfl tk (D1 (A8 (A1 (pv 0))) F9)))
    (C5 (K3 (A8S (I6 call_len R6 rfl Z.n_len R4 (D9 (A1 (pv 1)) G1)) (Z8 rfl Z.c_MOST_DROPS)) (D6 A3p) L9)
    (C5 (A2b (i:=2) sc.nd rfl (by first | exact .inl rfl | exact .inr rfl) (V0 gk (Q9 (D8 (A8 ae_int) J8)) (I6 call_len R6 rfl Z.n_len R4 (D9 (A1 (pv 0)) G1))))
    (D6 (A2Y (passes_of rfl) rfl (A7F gk rfl Z.n_enumerate (A8 (A1 (pv 1)))) (A7k gk rfl (A17 (M4 (i:=3) sc.nd rfl (by first | exact .inl rfl | exact .inr rfl)) (A17 (M4 (i:=4) sc.nd rfl (by first | exact .inl rfl | exact .inr rfl)) A7P))) (C5 (K3 (u6 (A09 op_le op_lt (Z8 rfl Z.c_GONE) (A1 (pv 4)) (I6 call_len R6 rfl Z.n_len R4 (D9 (A1 (pv 0)) G1)))) (D6 A3p) L9)
    (D6 (K3 (A0I gk hu (A1 (pv 4)) (Z8 rfl Z.c_GONE)) (C5 (A7H ip_add (A1 (pv 2)) (A1 (pv 4)) ae_int)
    (D6 (K3 (A8S (L5 gk (A1 (pv 2)) (A1 (pv 4)) (fun _ _=> rfl)) (L5 gk (A1 (pv 0)) (A1 (pv 4)) (fun _ _=> rfl))) (D6 A3p) L9))) L9))))))))
theorem B0x {P:Program} {w:World} {K:PySem.W.Frag} {mg:Str→Option Value} {base:Heap} {f:Addr} {cdv:Value} {A:Around} {outer:List Env} {s:Shared} {H:Hp} {EX:XK} {G:Gx} {E:AExc→A0→AH→Prop} (Z:Blt K mg) (hr:Room 0 (A.deeper (envOfC "counted" (defScope Q4) s.heap.objs.size f cdv))) (gk:G.K=K) (tk:Takes (bx P w K mg base A3j "counted" (defScope Q4) f cdv A outer s H EX) (cW G E)):
    ASs (bx P w K mg base A3j "counted" (defScope Q4) f cdv A outer s H EX) G (defBody Q4) (A15 E):=by
  subst gk
  have gk:G.K=G.K:=rfl
  have sc:=A6N
  have hu:=hr.units
  exact (C5 (A2b (i:=2) sc.nd rfl (by first | exact .inl rfl | exact .inr rfl) (V0 gk (Q9 (D8 (A8 ae_int) J8)) (A1 (pv 0))))
    (C5 (A2Y (passes_of rfl) rfl (B3i gk (A8 (A1 (pv 1)))) (M4 (i:=3) sc.nd rfl (by first | exact .inl rfl | exact .inr rfl)) (D6 (K3 (A0I gk hu (A1 (pv 3)) (Z8 rfl Z.c_GONE)) (D6 (A7H ip_add (A1 (pv 2)) (A1 (pv 3)) ae_int)) L9)))
    (D6 (M1 (A3n call_tuple_of A7m rfl Z.n_tuple A2F (D9 (A1 (pv 2)) G1))))))
theorem A96 {P:Program} {w:World} {K:PySem.W.Frag} {mg:Str→Option Value} {base:Heap} {f:Addr} {cdv:Value} {A:Around} {outer:List Env} {s:Shared} {H:Hp} {EX:XK} {G:Gx} {E:AExc→A0→AH→Prop} (Z:Blt K mg) (O_look_stand:Ok P w K mg base "look_stand" O1 4 2 o5 (upc T1)) (O_counted:Ok P w K mg base "counted" Q4 1 2 A0y (upc p9)) (hr:Room 4 (A.deeper (envOfC "counts_of" (defScope Q2) s.heap.objs.size f cdv))) (gk:G.K=K) (tk:Takes (bx P w K mg base A3X "counts_of" (defScope Q2) f cdv A outer s H EX) (cW G E)):
    ASs (bx P w K mg base A3X "counts_of" (defScope Q2) f cdv A outer s H EX) G (defBody Q2) (A1k E):=by
  subst gk
  have gk:G.K=G.K:=rfl
  have sc:=A5y
  have hu:=hr.units
  exact (C5 (s9 (I9 gk O_look_stand A5j hr (by decide) rfl tk (D1 (A8 (A1 (pv 0))) (D1 (A8 (A1 (pv 1))) F9))))
    (D6 (M1 (I9 gk O_counted B0c hr (by decide) rfl tk (D1 (A8 (I6 call_len R6 rfl Z.n_len R4 (D9 (A1 (pv 0)) G1))) (D1 (A8 (A1 (pv 1))) F9))))))
theorem A9w {P:Program} {w:World} {K:PySem.W.Frag} {mg:Str→Option Value} {base:Heap} {f:Addr} {cdv:Value} {A:Around} {outer:List Env} {s:Shared} {H:Hp} {EX:XK} {G:Gx} {E:AExc→A0→AH→Prop} (Z:Blt K mg) (hr:Room 0 (A.deeper (envOfC "_law_open" (defScope Q1) s.heap.objs.size f cdv))) (gk:G.K=K) (tk:Takes (bx P w K mg base A3c "_law_open" (defScope Q1) f cdv A outer s H EX) (cW G E)):
    ASs (bx P w K mg base A3c "_law_open" (defScope Q1) f cdv A outer s H EX) G (defBody Q1) (A1u E):=by
  subst gk
  have gk:G.K=G.K:=rfl
  have sc:=A57
  have hu:=hr.units
  exact (D6 (M1 (Q9 (D8 (A8 (A3n call_list_of B2w rfl Z.n_list A30 (D9 (A18 gk (A1 (pv 0)) A2M (A2K ae_int)) G1))) (D8 (A8 ae_int) (D8 (A8 ae_int) (D8 (A8 ae_int) (D8 (A8 ae_int) J8))))))))
theorem B0C {P:Program} {w:World} {K:PySem.W.Frag} {mg:Str→Option Value} {base:Heap} {f:Addr} {cdv:Value} {A:Around} {outer:List Env} {s:Shared} {H:Hp} {EX:XK} {G:Gx} {E:AExc→A0→AH→Prop} (Z:Blt K mg) (hr:Room 0 (A.deeper (envOfC "_law_take" (defScope N2) s.heap.objs.size f cdv))) (gk:G.K=K) (tk:Takes (bx P w K mg base A3b "_law_take" (defScope N2) f cdv A outer s H EX) (cW G E)):
    ASs (bx P w K mg base A3b "_law_take" (defScope N2) f cdv A outer s H EX) G (defBody N2) (A1q E):=by
  subst gk
  have gk:G.K=G.K:=rfl
  have sc:=A5w
  have hu:=hr.units
  exact (C5 (K3 (AW.ap (B2j (A4q (L5 gk (A1 (pv 0)) ae_int (fun _ _=> rfl)) (A1 (pv 1))) (B1u (A4q (L5 gk (A1 (pv 0)) ae_int (fun _ _=> rfl)) (I6 call_len R6 rfl Z.n_len R4 (D9 (L5 gk (A1 (pv 0)) ae_int (fun _ _=> rfl)) G1)))))) (C5 (I0 (A8 (L5 gk (L5 gk (A1 (pv 0)) ae_int (fun _ _=> rfl)) (L5 gk (A1 (pv 0)) ae_int (fun _ _=> rfl)) (fun _ _=> rfl))) (M4 (i:=2) sc.nd rfl (by first | exact .inl rfl | exact .inr rfl)))
    (C5 (I0 (A8 (R5 gk (L5 gk (A1 (pv 0)) ae_int (fun _ _=> rfl)) ae_int)) (v4 (A1 (pv 0)) ae_int (pg_sub (A1 (pv 0)).pe ae_int.pe set_list)))
    (C5 (I0 (A8 ae_int) (v4 (A1 (pv 0)) ae_int (pg_sub (A1 (pv 0)).pe ae_int.pe set_list)))
    (D6 (K3 (A8R (A1 (pv 2)) (A4P ae_int ae_int)) (D6 (I0 (A8 (A1 (pv 2))) (v4 (A1 (pv 0)) ae_int (pg_sub (A1 (pv 0)).pe ae_int.pe set_list)))) (D6 (I0 (A8 (v3 (R5 gk (R5 gk (V0 gk (L5 gk (A1 (pv 0)) ae_int (fun _ _=> rfl)) ae_int) (V0 gk (v3 (A1 (pv 2)) ae_int) ae_int)) ae_int) ae_int)) (v4 (A1 (pv 0)) ae_int (pg_sub (A1 (pv 0)).pe ae_int.pe set_list))))))))) L9)
    (C5 (K3 (A8R (L5 gk (A1 (pv 0)) ae_int (fun _ _=> rfl)) (A1 (pv 1))) (C5 (I0 (A8 (v3 (L5 gk (A1 (pv 0)) ae_int (fun _ _=> rfl)) (A1 (pv 1)))) (M4 (i:=3) sc.nd rfl (by first | exact .inl rfl | exact .inr rfl)))
    (C5 (I0 (A8 (A7L (L5 gk (A1 (pv 0)) ae_int (fun _ _=> rfl)) (A1 (pv 1)))) (v4 (A1 (pv 0)) ae_int (pg_sub (A1 (pv 0)).pe ae_int.pe set_list)))
    (D6 (M1 (A1 (pv 3)))))) L9)
    (C5 (I0 (A8 (R5 gk (L5 gk (A1 (pv 0)) ae_int (fun _ _=> rfl)) ae_int)) (v4 (A1 (pv 0)) ae_int (pg_sub (A1 (pv 0)).pe ae_int.pe set_list)))
    (C5 (I0 (A8 (L5 gk (A1 (pv 0)) ae_int (fun _ _=> rfl))) (M4 (i:=4) sc.nd rfl (by first | exact .inl rfl | exact .inr rfl)))
    (C5 (I0 (A8 (v3 (R5 gk (R5 gk (R5 gk (V0 gk (v3 (V0 gk (A1 (pv 4)) (A1 (pv 4))) ae_int) ae_int) (V0 gk (A1 (pv 4)) ae_int)) (V0 gk ae_int (L5 gk (A1 (pv 0)) ae_int (fun _ _=> rfl)))) ae_int) ae_int)) (v4 (A1 (pv 0)) ae_int (pg_sub (A1 (pv 0)).pe ae_int.pe set_list)))
    (D6 (M1 (v3 (R5 gk (A7L (L5 gk (A1 (pv 0)) ae_int (fun _ _=> rfl)) ae_int) (V0 gk (v3 (L5 gk (A1 (pv 0)) ae_int (fun _ _=> rfl)) ae_int) ae_int)) (A1 (pv 1))))))))))
theorem A9x {P:Program} {w:World} {K:PySem.W.Frag} {mg:Str→Option Value} {base:Heap} {f:Addr} {cdv:Value} {A:Around} {outer:List Env} {s:Shared} {H:Hp} {EX:XK} {G:Gx} {E:AExc→A0→AH→Prop} (Z:Blt K mg) (O__law_take:Ok P w K mg base "_law_take" N2 1 2 f8 (upc M3)) (hr:Room 1 (A.deeper (envOfC "_law_pick" (defScope O2) s.heap.objs.size f cdv))) (gk:G.K=K) (tk:Takes (bx P w K mg base A3a "_law_pick" (defScope O2) f cdv A outer s H EX) (cW G E)):
    ASs (bx P w K mg base A3a "_law_pick" (defScope O2) f cdv A outer s H EX) G (defBody O2) (A1r E):=by
  subst gk
  have gk:G.K=G.K:=rfl
  have sc:=A5t
  have hu:=hr.units
  exact (D6 (M1 (L5 gk (A1 (pv 1)) (I9 gk O__law_take A0v hr (by decide) rfl tk (D1 (A8 (A1 (pv 0))) (D1 (A8 (I6 call_len R6 rfl Z.n_len R4 (D9 (A1 (pv 1)) G1))) F9))) (fun _ _=> rfl))))
theorem B0K {P:Program} {w:World} {K:PySem.W.Frag} {mg:Str→Option Value} {base:Heap} {f:Addr} {cdv:Value} {A:Around} {outer:List Env} {s:Shared} {H:Hp} {EX:XK} {G:Gx} {E:AExc→A0→AH→Prop} {d j:Nat} (Z:Blt K mg) (O__law_same:Ok P w K mg base "_law_same" O3 j 2 o8 (upc (m__law_same d))) (hr:Room (max j 0) (A.deeper (envOfC "_law_same" (defScope O3) s.heap.objs.size f cdv))) (gk:G.K=K) (tk:Takes (bx P w K mg base A1s "_law_same" (defScope O3) f cdv A outer s H EX) (cW G E)):
    ASs (bx P w K mg base A1s "_law_same" (defScope O3) f cdv A outer s H EX) G (defBody O3) (A10 d E):=by
  subst gk
  have gk:G.K=G.K:=rfl
  have sc:=A5v
  have hu:=hr.units
  exact (C5 (K3 (B3J (A1 (pv 1)) A39) (D6 (M1 (B3M (A1 (pv 0)) A39))) L9)
    (C5 (K3 (A1S (I6 call_isi V6 rfl Z.n_isinstance U8 (D9 (A1 (pv 1)) (D9 (W1 rfl Z.n_bool A31) G1)))) (D6 (M1 (A2h (I6 call_isi V6 rfl Z.n_isinstance U8 (D9 (A1 (pv 0)) (D9 (W1 rfl Z.n_bool A31) G1))) (A3s (A4c gk hu (A1 (pv 0)) (A1 (pv 1))))))) L9)
    (C5 (K3 (A1S (I6 call_isi V6 rfl Z.n_isinstance U8 (D9 (A1 (pv 1)) (D9 (W1 rfl Z.n_int A7w) G1)))) (D6 (M1 (A2h (I6 call_isi V6 rfl Z.n_isinstance U8 (D9 (A1 (pv 0)) (D9 (W1 rfl Z.n_int A7w) G1))) (A2h (B2e (I6 call_isi V6 rfl Z.n_isinstance U8 (D9 (A1 (pv 0)) (D9 (W1 rfl Z.n_bool A31) G1)))) (A3s (A4c gk hu (A1 (pv 0)) (A1 (pv 1)))))))) L9)
    (C5 (K3 (A1S (I6 call_isi V6 rfl Z.n_isinstance U8 (D9 (A1 (pv 1)) (D9 (W1 rfl Z.n_str A76) G1)))) (D6 (M1 (A2h (I6 call_isi V6 rfl Z.n_isinstance U8 (D9 (A1 (pv 0)) (D9 (W1 rfl Z.n_str A76) G1))) (A3s (A4c gk hu (A1 (pv 0)) (A1 (pv 1))))))) L9)
    (C5 (K3 (AW.ap (A79 (A0I gk hu (I6 call_isi V6 rfl Z.n_isinstance U8 (D9 (A1 (pv 1)) (D9 (W1 rfl Z.n_tuple A2F) G1))) (I6 call_isi V6 rfl Z.n_isinstance U8 (D9 (A1 (pv 0)) (D9 (W1 rfl Z.n_tuple A2F) G1)))) (A75 (A0I gk hu (I6 call_isi V6 rfl Z.n_isinstance U8 (D9 (A1 (pv 1)) (D9 (W1 rfl Z.n_list A30) G1))) (I6 call_isi V6 rfl Z.n_isinstance U8 (D9 (A1 (pv 0)) (D9 (W1 rfl Z.n_list A30) G1))))))) (D6 (M1 A1J)) L9)
    (C5 (K3 (A0I gk hu (I6 call_len R6 rfl Z.n_len R4 (D9 (A1 (pv 0)) G1)) (I6 call_len R6 rfl Z.n_len R4 (D9 (A1 (pv 1)) G1))) (D6 (M1 A1J)) L9)
    (D6 (M1 (I6 (cr_all rfl) B3C rfl Z.n_all B3E (D9 (A7f (own:=[("_law_at",2)]) rfl sc.nd (A13 rfl Z.n_range (D9 (I6 call_len R6 rfl Z.n_len R4 (D9 (A1 (pv 1)) G1)) G1)) (blkOk_by (by first | (show blkC A1s (defScope O3) _ _=true;decide+kernel) | rfl)) (by decide) (fun _ _ _ _ _=> (M4 (i:=2) sc.nd rfl (by first | exact .inl rfl | exact .inr rfl))) (fun _ _ _ _ _=> A7B) (fun _ _ _ _ _=> (A8 (I9 gk O__law_same A1y hr (by omega) rfl A65 (D1 (A8 (L5 gk (A1 (pv 0)) (A1 (pv 2)) (fun _ _=> rfl))) (D1 (A8 (L5 gk (A1 (pv 1)) (A1 (pv 2)) (fun _ _=> rfl))) F9)))))) G1))))))))))
theorem A9q {P:Program} {w:World} {K:PySem.W.Frag} {mg:Str→Option Value} {base:Heap} {f:Addr} {cdv:Value} {A:Around} {outer:List Env} {s:Shared} {H:Hp} {EX:XK} {G:Gx} {E:AExc→A0→AH→Prop} (Z:Blt K mg) (O__law_take:Ok P w K mg base "_law_take" N2 1 2 f8 (upc M3)) (hr:Room 1 (A.deeper (envOfC "_law_sizes" (defScope O8) s.heap.objs.size f cdv))) (gk:G.K=K) (tk:Takes (bx P w K mg base A1n "_law_sizes" (defScope O8) f cdv A outer s H EX) (cW G E)):
    ASs (bx P w K mg base A1n "_law_sizes" (defScope O8) f cdv A outer s H EX) G (defBody O8) (A1m E):=by
  subst gk
  have gk:G.K=G.K:=rfl
  have sc:=A5q
  have hu:=hr.units
  exact (D6 (M1 (A3n call_tuple_of A7m rfl Z.n_tuple A2F (D9 (A7f (own:=[("_law_mcask",3)]) rfl sc.nd (A13 rfl Z.n_range (D9 (R5 gk ae_int (I9 gk O__law_take A0v hr (by decide) rfl tk (D1 (A8 (A1 (pv 0))) (D1 (A8 (A1 (pv 1))) F9)))) G1)) (blkOk_by (by first | (show blkC A1n (defScope O8) _ _=true;decide+kernel) | rfl)) (by decide) (fun _ _ _ _ _=> (M4 (i:=3) sc.nd rfl (by first | exact .inl rfl | exact .inr rfl))) (fun _ _ _ _ _=> A7B) (fun _ _ _ _ _=> (A8 (R5 gk ae_int (I9 gk O__law_take A0v hr (by decide) rfl A65 (D1 (A8 (A1 (pv 0))) (D1 (A8 (A1 (pv 2))) F9))))))) G1))))
theorem A9U {P:Program} {w:World} {K:PySem.W.Frag} {mg:Str→Option Value} {base:Heap} {f:Addr} {cdv:Value} {A:Around} {outer:List Env} {s:Shared} {H:Hp} {EX:XK} {G:Gx} {E:AExc→A0→AH→Prop} (Z:Blt K mg) (O__law_sizes:Ok P w K mg base "_law_sizes" O8 2 3 A0m (upc o3)) (O__law_pick:Ok P w K mg base "_law_pick" O2 2 2 o6 (upc Q3)) (hr:Room 2 (A.deeper (envOfC "_law_any_sizes" (defScope P8) s.heap.objs.size f cdv))) (gk:G.K=K) (tk:Takes (bx P w K mg base A3Q "_law_any_sizes" (defScope P8) f cdv A outer s H EX) (cW G E)):
    ASs (bx P w K mg base A3Q "_law_any_sizes" (defScope P8) f cdv A outer s H EX) G (defBody P8) (A1g E):=by
  subst gk
  have gk:G.K=G.K:=rfl
  have sc:=A5a
  have hu:=hr.units
  exact (D6 (M1 (I9 gk O__law_sizes A9l hr (by decide) rfl tk (D1 (A8 (A1 (pv 0))) (D1 (A8 ae_int) (D1 (A8 (I9 gk O__law_pick A1p hr (by decide) rfl tk (D1 (A8 (A1 (pv 0))) (D1 (A8 (Q9 (D8 (A8 ae_int) (D8 (A8 ae_int) (D8 (A8 ae_int) (D8 (A8 ae_int) J8)))))) F9)))) F9))))))
theorem B0A {P:Program} {w:World} {K:PySem.W.Frag} {mg:Str→Option Value} {base:Heap} {f:Addr} {cdv:Value} {A:Around} {outer:List Env} {s:Shared} {H:Hp} {EX:XK} {G:Gx} {E:AExc→A0→AH→Prop} (Z:Blt K mg) (hr:Room 0 (A.deeper (envOfC "_law_flaw" (defScope O9) s.heap.objs.size f cdv))) (gk:G.K=K) (tk:Takes (bx P w K mg base A1x "_law_flaw" (defScope O9) f cdv A outer s H EX) (cW G E)):
    ASs (bx P w K mg base A1x "_law_flaw" (defScope O9) f cdv A outer s H EX) G (defBody O9) (A1o E):=by
  subst gk
  have gk:G.K=G.K:=rfl
  have sc:=A50
  have hu:=hr.units
  exact (C5 (K3 (u6 (A09 op_le op_le ae_int (I6 call_len R6 rfl Z.n_len R4 (D9 (A1 (pv 0)) G1)) ae_int)) (D6 (M1 (A1F ae_int))) L9)
    (C5 (B1E (i:=1) (own:=[("_law_at",2)]) rfl sc.nd rfl rfl rfl (A13 rfl Z.n_range (D9 (I6 call_len R6 rfl Z.n_len R4 (D9 (A1 (pv 0)) G1)) G1)) (blkOk_by (by first | (show blkC A1x (defScope O9) _ _=true;decide+kernel) | rfl)) (by decide) (fun _ _ _ _ _=> (M4 (i:=2) sc.nd rfl (by first | exact .inl rfl | exact .inr rfl))) (fun _ _ _ _ _=> (B1o (u6 (A09 op_le op_le ae_int (L5 gk (A1 (pv 0)) (A1 (pv 2)) (fun _ _=> rfl)) ae_int)))) (fun _ _ _ _ _=> (A8 (A1 (pv 2)))))
    (D6 (M1 (B3b (A21 gk hu (A1 (pv 1)) (Q9 J8)) A4G (L5 gk (A1 (pv 1)) ae_int (fun _ _=> rfl)))))))
theorem A1v {P:Program} {w:World} {K:PySem.W.Frag} {mg:Str→Option Value} {base:Heap} {f:Addr} {cdv:Value} {A:Around} {outer:List Env} {s:Shared} {H:Hp} {EX:XK} {G:Gx} {E:AExc→A0→AH→Prop} {fl:Addr} {sp:C0} (Z:Blt K mg) (hr:Room 0 (A.deeper (envOfC "_law_told" (defScope P0) s.heap.objs.size f cdv))) (gk:G.K=K) (tk:Takes (bx P w K mg base A1t "_law_told" (defScope P0) f cdv A outer s H EX) (cW G E)) (hL:LamHas (bx P w K mg base A1t "_law_told" (defScope P0) f cdv A outer s H EX) G fl 0 sp):
    ASs (bx P w K mg base A1t "_law_told" (defScope P0) f cdv A outer s H EX) G (defBody P0) (j5 fl sp E):=by
  subst gk
  have gk:G.K=G.K:=rfl
  have sc:=A0r
  have hu:=hr.units
  exact (C5 (I0 (A8 A4G) (M4 (i:=1) sc.nd rfl (by first | exact .inl rfl | exact .inr rfl)))
    (C5 (B2u gk rfl rfl sc.nd tk (fun pn xe G E gk gl tk=> by have hL:=hL.to gl pn xe;exact (D6 (s9 (B2C hL gk rfl (i:=0) rfl (by first | exact .inl rfl | exact .inr (.inl rfl) | exact .inr (.inr rfl)) tk)))) (HdA.cons rfl rfl rfl Z.h_BadSizes Z.x_BadSizes rfl (by first | exact .inl rfl | exact .inr rfl) (by first | exact .inl rfl | exact .inr rfl) (by decide) (fun G gk=> (B2a gk Z.f_cask rfl (by first | exact .inl rfl | exact .inr (.inl rfl) | exact .inr (.inr rfl)))) rfl rfl rfl rfl HdA.nil))
    (D6 (M1 (A1 (pv 1))))))
theorem A9W {P:Program} {w:World} {K:PySem.W.Frag} {mg:Str→Option Value} {base:Heap} {f:Addr} {cdv:Value} {A:Around} {outer:List Env} {s:Shared} {H:Hp} {EX:XK} {G:Gx} {E:AExc→A0→AH→Prop} (Z:Blt K mg) (O_look_sizes:Ok P w K mg base "look_sizes" N0 3 1 X0 (upc L7)) (hr:Room 3 (A.deeper (envOfC (("Book":Str)++"."++"__init__") (defScope O0) s.heap.objs.size f cdv))) (gk:G.K=K) (tk:Takes (bx P w K mg base A3O (("Book":Str)++"."++"__init__") (defScope O0) f cdv A outer s H EX) (cW G E)):
    ASs (bx P w K mg base A3O (("Book":Str)++"."++"__init__") (defScope O0) f cdv A outer s H EX) G (defBody O0) (A1f E):=by
  subst gk
  have gk:G.K=G.K:=rfl
  have sc:=A5c
  have hu:=hr.units
  exact (C5 (s9 (I9 gk O_look_sizes A3V hr (by decide) rfl tk (D1 (A8 (A1 (pv 1))) F9)))
    (C5 (I0 (A8 (A1 (pv 1))) (k8 gk Z.fo_Book_casks (A1 (pv 0))))
    (C5 (I0 (A2f A6d) (k8 gk Z.fo_Book_written (A1 (pv 0))))
    (D6 (I0 (A2f A6d) (k8 gk Z.fo_Book_laid (A1 (pv 0))))))))
theorem A9O {P:Program} {w:World} {K:PySem.W.Frag} {mg:Str→Option Value} {base:Heap} {f:Addr} {cdv:Value} {A:Around} {outer:List Env} {s:Shared} {H:Hp} {EX:XK} {G:Gx} {E:AExc→A0→AH→Prop} (Z:Blt K mg) (O_look_stand:Ok P w K mg base "look_stand" O1 4 2 o5 (upc T1)) (O_Book____init__:OkM P w K mg base "Book" "__init__" O0 4 2 n3 [] (upc U6)) (hr:Room 5 (A.deeper (envOfC (("Loft":Str)++"."++"__init__") (defScope P9) s.heap.objs.size f cdv))) (gk:G.K=K) (tk:Takes (bx P w K mg base A3P (("Loft":Str)++"."++"__init__") (defScope P9) f cdv A outer s H EX) (cW G E)):
    ASs (bx P w K mg base A3P (("Loft":Str)++"."++"__init__") (defScope P9) f cdv A outer s H EX) G (defBody P9) (A1h E):=by
  subst gk
  have gk:G.K=G.K:=rfl
  have sc:=A5e
  have hu:=hr.units
  exact (C5 (s9 (I9 gk O_look_stand A5j hr (by decide) rfl tk (D1 (A8 (A1 (pv 1))) (D1 (A8 (A1 (pv 2))) F9))))
    (C5 (I0 (A8 (A1 (pv 1))) (k8 gk Z.fo_Loft_casks (A1 (pv 0))))
    (C5 (I0 (A8 (A1 (pv 2))) (k8 gk Z.fo_Loft_now (A1 (pv 0))))
    (C5 (I0 (A8 (A61 gk Z.mk_Book O_Book____init__ A5Z hr (by decide) rfl tk (D1 (A8 (A1 (pv 1))) F9))) (k8 gk Z.fo_Loft_book (A1 (pv 0))))
    (C5 (I0 (A2f (Q9 J8)) (k8 gk Z.fo_Loft_past (A1 (pv 0))))
    (D6 (I0 (A2f (Q9 J8)) (k8 gk Z.fo_Loft_later (A1 (pv 0))))))))))
theorem B34 {P:Program} {w:World} {K:PySem.W.Frag} {mg:Str→Option Value} {base:Heap} {f:Addr} {cdv:Value} {A:Around} {outer:List Env} {s:Shared} {H:Hp} {EX:XK} {G:Gx} {E:AExc→A0→AH→Prop} (Z:Blt K mg) (O__law_open:Ok P w K mg base "_law_open" Q1 1 1 A0s (upc o9)) (O__law_any_sizes:Ok P w K mg base "_law_any_sizes" P8 3 1 A0j (upc n8)) (O__law_take:Ok P w K mg base "_law_take" N2 1 2 f8 (upc M3)) (O__law_pick:Ok P w K mg base "_law_pick" O2 2 2 o6 (upc Q3)) (O__law_flaw:Ok P w K mg base "_law_flaw" O9 1 1 A0u (upc o7)) (O__law_same:Ok P w K mg base "_law_same" O3 9 2 o8 (upc (m__law_same 8))) (O_look_sizes:Ok P w K mg base "look_sizes" N0 3 1 X0 (upc L7)) (O_counts_of:Ok P w K mg base "counts_of" Q2 5 2 A0t (upc U7)) (O_Book____init__:OkM P w K mg base "Book" "__init__" O0 4 2 n3 [] (upc U6)) (O_Loft____init__:OkM P w K mg base "Loft" "__init__" P9 6 3 A0k [] (upc n5)) {ga__law_told:Addr} {fd__law_told:FuncData} (F__law_told:FunD K "_law_told" "_law_told" (defArgs P0) (defBody P0) (defScope P0) [] [] ga__law_told fd__law_told) (g__law_told:mg "_law_told"=some (.ref ga__law_told)) (lm:MakesL K mg base ("law"++".<locals>."++"<lambda>") cdv) (hr:Room 9 (A.deeper (envOfC "law" (defScope N1) s.heap.objs.size f cdv))) (gk:G.K=K) (tk:Takes (bx P w K mg base V9 "law" (defScope N1) f cdv A outer s H EX) (cW G E)):
    ASs (bx P w K mg base V9 "law" (defScope N1) f cdv A outer s H EX) G (defBody N1) (A2z E):=by
  subst gk
  have gk:G.K=G.K:=rfl
  have sc:=A8O
  have hu:=hr.units
  exact (C5 (A2b (i:=1) sc.nd rfl (by first | exact .inl rfl | exact .inr rfl) (I9 gk O__law_open A93 hr (by decide) rfl tk (D1 (A8 (A1 (pv 0))) F9)))
    (C5 (B12 1 (A2Y (passes_of rfl) rfl (A13 rfl Z.n_range (D9 ae_int G1)) (M4 (i:=2) sc.nd rfl (by first | exact .inl rfl | exact .inr rfl)) (C5 (I0 (A8 (I9 gk O__law_any_sizes A9V hr (by decide) rfl tk (D1 (A8 (A1 (pv 1))) F9))) (M4 (i:=3) sc.nd rfl (by first | exact .inl rfl | exact .inr rfl)))
    (C5 (I0 (A8 (I9 gk O__law_take A0v hr (by decide) rfl tk (D1 (A8 (A1 (pv 1))) (D1 (A8 ae_int) F9)))) (M4 (i:=4) sc.nd rfl (by first | exact .inl rfl | exact .inr rfl)))
    (C5 (I0 (A8 (I9 gk O__law_take A0v hr (by decide) rfl tk (D1 (A8 (A1 (pv 1))) (D1 (A8 (I6 call_len R6 rfl Z.n_len R4 (D9 (A1 (pv 3)) G1))) F9)))) (M4 (i:=5) sc.nd rfl (by first | exact .inl rfl | exact .inr rfl)))
    (C5 (I0 (A8 (I9 gk O__law_pick A1p hr (by decide) rfl tk (D1 (A8 (A1 (pv 1))) (D1 (A8 (Q9 (D8 (A8 ae_int) (D8 (A8 ae_int) (D8 (A8 (A1F ae_int)) (D8 (A8 (A4P ae_int ae_int)) (D8 (A8 (A1F (A4P ae_int ae_int))) J8))))))) F9)))) (M4 (i:=6) sc.nd rfl (by first | exact .inl rfl | exact .inr rfl)))
    (C5 (K3 (A4q (A1 (pv 4)) ae_int) (D6 (I0 (A8 (R5 gk (R5 gk (A18 gk (A1 (pv 3)) A2M (A2K (A1 (pv 5)))) (A0F (D8 (A8 (A1 (pv 6))) J8))) (A18 gk (A1 (pv 3)) (A2K (R5 gk (A1 (pv 5)) ae_int)) A2M))) (M4 (i:=3) sc.nd rfl (by first | exact .inl rfl | exact .inr rfl)))) L9)
    (C5 (K3 (A21 gk hu (A1 (pv 4)) ae_int) (D6 (I0 (A8 (R5 gk (A1 (pv 3)) (A0F (D8 (A8 (I9 gk O__law_pick A1p hr (by decide) rfl tk (D1 (A8 (A1 (pv 1))) (D1 (A8 (Q9 (D8 (A8 ae_int) (D8 (A8 ae_int) (D8 (A8 ae_int) (D8 (A8 ae_int) J8)))))) F9)))) J8)))) (M4 (i:=3) sc.nd rfl (by first | exact .inl rfl | exact .inr rfl)))) L9)
    (C5 (K3 (A21 gk hu (A1 (pv 4)) ae_int) (D6 (I0 (A8 (A18 gk (V0 gk (A1 (pv 3)) ae_int) A2M (A2K (I9 gk O__law_pick A1p hr (by decide) rfl tk (D1 (A8 (A1 (pv 1))) (D1 (A8 (Q9 (D8 (A8 ae_int) (D8 (A8 ae_int) (D8 (A8 ae_int) J8))))) F9)))))) (M4 (i:=3) sc.nd rfl (by first | exact .inl rfl | exact .inr rfl)))) L9)
    (C5 (I0 (A8 (I9 gk O__law_flaw B0M hr (by decide) rfl tk (D1 (A8 (A1 (pv 3))) F9))) (M4 (i:=7) sc.nd rfl (by first | exact .inl rfl | exact .inr rfl)))
    (C5 (K3 (u6 (A1S (I9 gk O__law_same A1y hr (by decide) rfl tk (D1 (A8 (A11 (ps:=[]) (kg:=4) (kl:=3) gk F__law_told g__law_told A1w A0r rfl rfl tk (hr.mono (by decide)) (A2B gk lm rfl (j7 (by first | (show b8 (defScope N1) _ V9 []=true;decide+kernel) | rfl)) F9) (j7 (by first | (show b8 (defScope N1) _ V9 []=true;decide+kernel) | rfl)) (by decide) (fun _ _ _ _ _ us hl=> match us,hl with | [],_=> rfl) (fun _ _ _ _ _ _ _ _ _ hr gk tk=> by have hu:=hr.units;exact (I9 gk O_look_sizes A3V hr (by decide) rfl tk (D1 (A8 (A1 (pv 3))) F9))) (fun cdv s H EX G' E' f sp hr gk tk hL=> A1v Z (hr.mono (by decide)) gk tk hL))) (D1 (A8 (A1 (pv 7))) F9))))) (D6 (M1 A1J)) L9)
    (D6 (K3 (A21 gk hu (A1 (pv 7)) A4G) (D6 (K3 (AW.ap (A79 (B1z (B0y gk O_look_sizes (A9b) hr (by decide) rfl tk (A60 (A8 (A1 (pv 3))) A7v)) A39) (A75 (A0I gk hu (I9 gk O_counts_of A56 hr (by decide) rfl tk (D1 (A8 (A1 (pv 3))) (D1 (A8 (A0F J8)) F9))) (V0 gk (A0F (D8 (A8 ae_int) J8)) (I6 call_len R6 rfl Z.n_len R4 (D9 (A1 (pv 3)) G1))))))) (D6 (M1 A1J)) L9)) (C5 (A2b (i:=8) sc.nd rfl (by first | exact .inl rfl | exact .inr rfl) (Q9 (D8 (A8 (A11 (ps:=[]) (kg:=6) (kl:=5) gk F__law_told g__law_told A1w A0r rfl rfl tk (hr.mono (by decide)) (A2B gk lm rfl (j7 (by first | (show b8 (defScope N1) _ V9 []=true;decide+kernel) | rfl)) F9) (j7 (by first | (show b8 (defScope N1) _ V9 []=true;decide+kernel) | rfl)) (by decide) (fun _ _ _ _ _ us hl=> match us,hl with | [],_=> rfl) (fun _ _ _ _ _ _ _ _ _ hr gk tk=> by have hu:=hr.units;exact (I9 gk O_counts_of A56 hr (by decide) rfl tk (D1 (A8 (A1 (pv 3))) (D1 (A8 (A0F (D8 (A8 ae_int) J8))) F9)))) (fun cdv s H EX G' E' f sp hr gk tk hL=> A1v Z (hr.mono (by decide)) gk tk hL))) J8)))
    (C5 (s9 (A8W gk A6L PySem.F.plainAttrs_list PySem.F.slot_list_append PySem.F.type_list_append mt_append (A1 (pv 8)) (D8 (A8 (A11 (ps:=[]) (kg:=6) (kl:=5) gk F__law_told g__law_told A1w A0r rfl rfl tk (hr.mono (by decide)) (A2B gk lm rfl (j7 (by first | (show b8 (defScope N1) _ V9 []=true;decide+kernel) | rfl)) F9) (j7 (by first | (show b8 (defScope N1) _ V9 []=true;decide+kernel) | rfl)) (by decide) (fun _ _ _ _ _ us hl=> match us,hl with | [],_=> rfl) (fun _ _ _ _ _ _ _ _ _ hr gk tk=> by have hu:=hr.units;exact (A61 gk Z.mk_Book O_Book____init__ A5Z hr (by decide) rfl tk (D1 (A8 (A1 (pv 3))) F9))) (fun cdv s H EX G' E' f sp hr gk tk hL=> A1v Z (hr.mono (by decide)) gk tk hL))) J8)))
    (C5 (s9 (A8W gk A6L PySem.F.plainAttrs_list PySem.F.slot_list_append PySem.F.type_list_append mt_append (A1 (pv 8)) (D8 (A8 (A11 (ps:=[]) (kg:=8) (kl:=7) gk F__law_told g__law_told A1w A0r rfl rfl tk (hr.mono (by decide)) (A2B gk lm rfl (j7 (by first | (show b8 (defScope N1) _ V9 []=true;decide+kernel) | rfl)) F9) (j7 (by first | (show b8 (defScope N1) _ V9 []=true;decide+kernel) | rfl)) (by decide) (fun _ _ _ _ _ us hl=> match us,hl with | [],_=> rfl) (fun _ _ _ _ _ _ _ _ _ hr gk tk=> by have hu:=hr.units;exact (B1g (perm:=[0,1,2]) (ks:=["stand"]) gk Z.mk_Loft O_Loft____init__ A9J (fun _=> .nil) hr (by decide) rfl tk (D8 (A8 (A1 (pv 3))) J8) (A60 (A8 (A0F (D8 (A8 ae_int) J8))) A7v))) (fun cdv s H EX G' E' f sp hr gk tk hL=> A1v Z (hr.mono (by decide)) gk tk hL))) J8)))
    (D6 (B20 8 (K3 (u6 (A1S (I9 gk O__law_same A1y hr (by decide) rfl tk (D1 (A8 (A1 (pv 8))) (D1 (A8 (Q9 (D8 (A8 (A1 (pv 7))) (D8 (A8 (A1 (pv 7))) (D8 (A8 (A1 (pv 7))) J8))))) F9))))) (D6 (M1 A1J)) L9)))))))))))))))))))
    (D6 (M1 (I9 gk O__law_same A1y hr (by decide) rfl tk (D1 (A8 (Q9 (D8 (A8 (Z8 rfl Z.c_MOST_CASKS)) (D8 (A8 (Z8 rfl Z.c_MOST_SIZE)) (D8 (A8 (Z8 rfl Z.c_MOST_DROPS)) (D8 (A8 (Z8 rfl Z.c_GONE)) J8)))))) (D1 (A8 (Q9 (D8 (A8 ae_int) (D8 (A8 ae_int) (D8 (A8 ae_int) (D8 (A8 (A1F ae_int)) J8)))))) F9)))))))
end Ab
namespace Ab
open PySem PySem.Spec PyProof.Rows L2 RZ
theorem A9r {P:Program} {w:World} {K:PySem.W.Frag} {mg:Str→Option Value} {base:Heap} {f:Addr} {fd:FuncData} (Z:Blt K mg) (F:FunD K "look_sizes" "look_sizes" (defArgs N0) (defBody N0) (defScope N0) [] [] f fd) (hm:mg "look_sizes"=some (.ref f)) (R_BadSizes:XkOk P w K mg base "BadSizes" "bad sizes" ["cask"]):Ok P w K mg base "look_sizes" N0 3 1 X0 (upc L7):=
  Ok.mk' upc.m hm F A5p rfl (fun cdv A outer s H EX G E hr gk tk=> A9t Z R_BadSizes hr gk tk) A9c
theorem A9u {P:Program} {w:World} {K:PySem.W.Frag} {mg:Str→Option Value} {base:Heap} {f:Addr} {fd:FuncData} (Z:Blt K mg) (F:FunD K "look_stand" "look_stand" (defArgs O1) (defBody O1) (defScope O1) [] [] f fd) (hm:mg "look_stand"=some (.ref f)) (O_look_sizes:Ok P w K mg base "look_sizes" N0 3 1 X0 (upc L7)):Ok P w K mg base "look_stand" O1 4 2 o5 (upc T1):=
  Ok.mk' upc.m hm F A5m rfl (fun cdv A outer s H EX G E hr gk tk=> A9s Z O_look_sizes hr gk tk) A9Z
theorem B0s {P:Program} {w:World} {K:PySem.W.Frag} {mg:Str→Option Value} {base:Heap} {f:Addr} {fd:FuncData} (Z:Blt K mg) (F:FunD K "counted" "counted" (defArgs Q4) (defBody Q4) (defScope Q4) [] [] f fd) (hm:mg "counted"=some (.ref f)):Ok P w K mg base "counted" Q4 1 2 A0y (upc p9):=
  Ok.mk' upc.m hm F A6N rfl (fun cdv A outer s H EX G E hr gk tk=> B0x Z hr gk tk) B0k
theorem B0B {P:Program} {w:World} {K:PySem.W.Frag} {mg:Str→Option Value} {base:Heap} {f:Addr} {fd:FuncData} (Z:Blt K mg) (F:FunD K "counts_of" "counts_of" (defArgs Q2) (defBody Q2) (defScope Q2) [] [] f fd) (hm:mg "counts_of"=some (.ref f)) (O_look_stand:Ok P w K mg base "look_stand" O1 4 2 o5 (upc T1)) (O_counted:Ok P w K mg base "counted" Q4 1 2 A0y (upc p9)):Ok P w K mg base "counts_of" Q2 5 2 A0t (upc U7):=
  Ok.mk' upc.m hm F A5y rfl (fun cdv A outer s H EX G E hr gk tk=> A96 Z O_look_stand O_counted hr gk tk) A9i
theorem B0I {P:Program} {w:World} {K:PySem.W.Frag} {mg:Str→Option Value} {base:Heap} {f:Addr} {fd:FuncData} (Z:Blt K mg) (F:FunD K "_law_open" "_law_open" (defArgs Q1) (defBody Q1) (defScope Q1) [] [] f fd) (hm:mg "_law_open"=some (.ref f)):Ok P w K mg base "_law_open" Q1 1 1 A0s (upc o9):=
  Ok.mk' upc.m hm F A57 rfl (fun cdv A outer s H EX G E hr gk tk=> A9w Z hr gk tk) B0E
theorem A98 {P:Program} {w:World} {K:PySem.W.Frag} {mg:Str→Option Value} {base:Heap} {f:Addr} {fd:FuncData} (Z:Blt K mg) (F:FunD K "_law_take" "_law_take" (defArgs N2) (defBody N2) (defScope N2) [] [] f fd) (hm:mg "_law_take"=some (.ref f)):Ok P w K mg base "_law_take" N2 1 2 f8 (upc M3):=
  Ok.mk' upc.m hm F A5w rfl (fun cdv A outer s H EX G E hr gk tk=> B0C Z hr gk tk) A95
theorem A99 {P:Program} {w:World} {K:PySem.W.Frag} {mg:Str→Option Value} {base:Heap} {f:Addr} {fd:FuncData} (Z:Blt K mg) (F:FunD K "_law_pick" "_law_pick" (defArgs O2) (defBody O2) (defScope O2) [] [] f fd) (hm:mg "_law_pick"=some (.ref f)) (O__law_take:Ok P w K mg base "_law_take" N2 1 2 f8 (upc M3)):Ok P w K mg base "_law_pick" O2 2 2 o6 (upc Q3):=
  Ok.mk' upc.m hm F A5t rfl (fun cdv A outer s H EX G E hr gk tk=> A9x Z O__law_take hr gk tk) A97
theorem A6B {P:Program} {w:World} {K:PySem.W.Frag} {mg:Str→Option Value} {base:Heap} {f:Addr} {fd:FuncData} (Z:Blt K mg) (F:FunD K "_law_same" "_law_same" (defArgs O3) (defBody O3) (defScope O3) [] [] f fd) (hm:mg "_law_same"=some (.ref f)):∀d,Ok P w K mg base "_law_same" O3 (1+d) 2 o8 (upc (m__law_same d))
  | 0=> (B1r (n:=2) (ps:=o8) hm F).up (by omega) upc.m (fun _ _ _ _ ⟨_,_,_,_,z⟩=> z)
  | d+1=> Ok.mk' (k:=1+d) upc.m hm F A5v rfl (fun cdv A outer s H EX G E hr gk tk=> B0K (d:=d) (j:=1+d) Z (A6B Z F hm d) (hr.mono (by omega)) gk tk) (B0L d)
theorem A9p {P:Program} {w:World} {K:PySem.W.Frag} {mg:Str→Option Value} {base:Heap} {f:Addr} {fd:FuncData} (Z:Blt K mg) (F:FunD K "_law_sizes" "_law_sizes" (defArgs O8) (defBody O8) (defScope O8) [] [] f fd) (hm:mg "_law_sizes"=some (.ref f)) (O__law_take:Ok P w K mg base "_law_take" N2 1 2 f8 (upc M3)):Ok P w K mg base "_law_sizes" O8 2 3 A0m (upc o3):=
  Ok.mk' upc.m hm F A5q rfl (fun cdv A outer s H EX G E hr gk tk=> A9q Z O__law_take hr gk tk) A9v
theorem A9N {P:Program} {w:World} {K:PySem.W.Frag} {mg:Str→Option Value} {base:Heap} {f:Addr} {fd:FuncData} (Z:Blt K mg) (F:FunD K "_law_any_sizes" "_law_any_sizes" (defArgs P8) (defBody P8) (defScope P8) [] [] f fd) (hm:mg "_law_any_sizes"=some (.ref f)) (O__law_sizes:Ok P w K mg base "_law_sizes" O8 2 3 A0m (upc o3)) (O__law_pick:Ok P w K mg base "_law_pick" O2 2 2 o6 (upc Q3)):Ok P w K mg base "_law_any_sizes" P8 3 1 A0j (upc n8):=
  Ok.mk' upc.m hm F A5a rfl (fun cdv A outer s H EX G E hr gk tk=> A9U Z O__law_sizes O__law_pick hr gk tk) A9Q
theorem A94 {P:Program} {w:World} {K:PySem.W.Frag} {mg:Str→Option Value} {base:Heap} {f:Addr} {fd:FuncData} (Z:Blt K mg) (F:FunD K "_law_flaw" "_law_flaw" (defArgs O9) (defBody O9) (defScope O9) [] [] f fd) (hm:mg "_law_flaw"=some (.ref f)):Ok P w K mg base "_law_flaw" O9 1 1 A0u (upc o7):=
  Ok.mk' upc.m hm F A50 rfl (fun cdv A outer s H EX G E hr gk tk=> B0A Z hr gk tk) A90
theorem A9K {P:Program} {w:World} {K:PySem.W.Frag} {mg:Str→Option Value} {base:Heap} {f:Addr} {fd:FuncData} (Z:Blt K mg) (O_look_sizes:Ok P w K mg base "look_sizes" N0 3 1 X0 (upc L7)) (cl:Cls K (He.ga K "Book")) (M:Meth K (He.ga K "Book") "__init__" f) (F:FunD K "__init__" (("Book":Str)++"."++"__init__") (defArgs O0) (defBody O0) (defScope O0) [] [] f fd):OkM P w K mg base "Book" "__init__" O0 4 2 n3 [] (upc U6):=
  OkM.mk' upc.m cl M F A5c rfl (fun cdv A outer s H EX G E hr gk tk=> A9W Z O_look_sizes hr gk tk) A9R
theorem A9S {P:Program} {w:World} {K:PySem.W.Frag} {mg:Str→Option Value} {base:Heap} {f:Addr} {fd:FuncData} (Z:Blt K mg) (O_look_stand:Ok P w K mg base "look_stand" O1 4 2 o5 (upc T1)) (O_Book____init__:OkM P w K mg base "Book" "__init__" O0 4 2 n3 [] (upc U6)) (cl:Cls K (He.ga K "Loft")) (M:Meth K (He.ga K "Loft") "__init__" f) (F:FunD K "__init__" (("Loft":Str)++"."++"__init__") (defArgs P9) (defBody P9) (defScope P9) [] [] f fd):OkM P w K mg base "Loft" "__init__" P9 6 3 A0k [] (upc n5):=
  OkM.mk' upc.m cl M F A5e rfl (fun cdv A outer s H EX G E hr gk tk=> A9O Z O_look_stand O_Book____init__ hr gk tk) A9M
theorem o_law {P:Program} {w:World} {K:PySem.W.Frag} {mg:Str→Option Value} {base:Heap} {f:Addr} {fd:FuncData} (Z:Blt K mg) (O__law_open:Ok P w K mg base "_law_open" Q1 1 1 A0s (upc o9)) (O__law_any_sizes:Ok P w K mg base "_law_any_sizes" P8 3 1 A0j (upc n8)) (O__law_take:Ok P w K mg base "_law_take" N2 1 2 f8 (upc M3)) (O__law_pick:Ok P w K mg base "_law_pick" O2 2 2 o6 (upc Q3)) (O__law_flaw:Ok P w K mg base "_law_flaw" O9 1 1 A0u (upc o7)) (O__law_same:Ok P w K mg base "_law_same" O3 9 2 o8 (upc (m__law_same 8))) (O_look_sizes:Ok P w K mg base "look_sizes" N0 3 1 X0 (upc L7)) (O_counts_of:Ok P w K mg base "counts_of" Q2 5 2 A0t (upc U7)) (O_Book____init__:OkM P w K mg base "Book" "__init__" O0 4 2 n3 [] (upc U6)) (O_Loft____init__:OkM P w K mg base "Loft" "__init__" P9 6 3 A0k [] (upc n5)) {ga__law_told:Addr} {fd__law_told:FuncData} (F__law_told:FunD K "_law_told" "_law_told" (defArgs P0) (defBody P0) (defScope P0) [] [] ga__law_told fd__law_told) (g__law_told:mg "_law_told"=some (.ref ga__law_told)) (F:FunD K "law" "law" (defArgs N1) (defBody N1) (defScope N1) [] [] f fd) (hm:mg "law"=some (.ref f)) (lm:∀cdv,A2e K f cdv→MakesL K mg base ("law"++".<locals>."++"<lambda>") cdv):Ok P w K mg base "law" N1 10 1 A2v (upc m_law):=
  Ok.mkL upc.m hm F A8O rfl lm (fun cdv A outer s H EX G E lm hr gk tk=> B34 Z O__law_open O__law_any_sizes O__law_take O__law_pick O__law_flaw O__law_same O_look_sizes O_counts_of O_Book____init__ O_Loft____init__ F__law_told g__law_told lm hr gk tk) B32
end Ab
namespace Ab
open PySem PySem.Spec PyProof.Rows L2 RZ
theorem hFacts {P:Program} {w:World} {K:PySem.W.Frag} {h:Heap} {mg:Str→Option Value} {f:Addr} (X:K.In h) (G:h.Ns mainGlobals mg) (hfa:mg ("law":Str)=some (.ref f)) (c:He.SaysD hFa hFn K) (x:hEx K=true):
    ∃fd:FuncData,(∀(s:Shared) (v:Value),BindsTo s fd ⟨[v],[]⟩ [("_law_script",v)])∧∀base:Heap,(∀p∈(R7 K).map (·.1),LamX.TabB base mg p.1 p.2)→FnOk P w K mg base (L2.CX P w) 10 f fd A2v (M9 K 1 (upc m_law)):=by
  obtain ⟨fd__wall,F__wall⟩:=c.def_ 0 (d:=A7O) rfl
  have g__wall:=He.glo_ok X G (c.fact 0 (f:= .glo "_wall") rfl)
  obtain ⟨fd_look_sizes,F_look_sizes⟩:=c.def_ 1 (d:=A5r) rfl
  have g_look_sizes:=He.glo_ok X G (c.fact 1 (f:= .glo "look_sizes") rfl)
  obtain ⟨fd_look_stand,F_look_stand⟩:=c.def_ 2 (d:=A5n) rfl
  have g_look_stand:=He.glo_ok X G (c.fact 2 (f:= .glo "look_stand") rfl)
  obtain ⟨fd_counted,F_counted⟩:=c.def_ 3 (d:=A6Q) rfl
  have g_counted:=He.glo_ok X G (c.fact 3 (f:= .glo "counted") rfl)
  obtain ⟨fd_counts_of,F_counts_of⟩:=c.def_ 4 (d:=A51) rfl
  have g_counts_of:=He.glo_ok X G (c.fact 4 (f:= .glo "counts_of") rfl)
  obtain ⟨fd_has_count,F_has_count⟩:=c.def_ 5 (d:=A6D) rfl
  have g_has_count:=He.glo_ok X G (c.fact 5 (f:= .glo "has_count") rfl)
  obtain ⟨fd_first_bad,F_first_bad⟩:=c.def_ 6 (d:=A58) rfl
  have g_first_bad:=He.glo_ok X G (c.fact 6 (f:= .glo "first_bad") rfl)
  obtain ⟨fd_fault_of,F_fault_of⟩:=c.def_ 7 (d:=A6J) rfl
  have g_fault_of:=He.glo_ok X G (c.fact 7 (f:= .glo "fault_of") rfl)
  obtain ⟨fd_look_deed,F_look_deed⟩:=c.def_ 8 (d:=A5z) rfl
  have g_look_deed:=He.glo_ok X G (c.fact 8 (f:= .glo "look_deed") rfl)
  obtain ⟨fd_ranks_in,F_ranks_in⟩:=c.def_ 9 (d:=A6H) rfl
  have g_ranks_in:=He.glo_ok X G (c.fact 9 (f:= .glo "ranks_in") rfl)
  obtain ⟨fd_moved,F_moved⟩:=c.def_ 10 (d:=A64) rfl
  have g_moved:=He.glo_ok X G (c.fact 10 (f:= .glo "moved") rfl)
  obtain ⟨fd_led,F_led⟩:=c.def_ 11 (d:=A8d) rfl
  have g_led:=He.glo_ok X G (c.fact 11 (f:= .glo "led") rfl)
  obtain ⟨fd_tapped,F_tapped⟩:=c.def_ 12 (d:=A6s) rfl
  have g_tapped:=He.glo_ok X G (c.fact 12 (f:= .glo "tapped") rfl)
  obtain ⟨fd_behind_deed,F_behind_deed⟩:=c.def_ 13 (d:=A5h) rfl
  have g_behind_deed:=He.glo_ok X G (c.fact 13 (f:= .glo "behind_deed") rfl)
  obtain ⟨fd_is_name,F_is_name⟩:=c.def_ 14 (d:=A6T) rfl
  have g_is_name:=He.glo_ok X G (c.fact 14 (f:= .glo "is_name") rfl)
  obtain ⟨fd_is_call,F_is_call⟩:=c.def_ 15 (d:=A6U) rfl
  have g_is_call:=He.glo_ok X G (c.fact 15 (f:= .glo "is_call") rfl)
  obtain ⟨fd_call_fault,F_call_fault⟩:=c.def_ 16 (d:=A5l) rfl
  have g_call_fault:=He.glo_ok X G (c.fact 16 (f:= .glo "call_fault") rfl)
  obtain ⟨fd_step_text,F_step_text⟩:=c.def_ 17 (d:=A53) rfl
  have g_step_text:=He.glo_ok X G (c.fact 17 (f:= .glo "step_text") rfl)
  obtain ⟨fd_row_text,F_row_text⟩:=c.def_ 18 (d:=A6K) rfl
  have g_row_text:=He.glo_ok X G (c.fact 18 (f:= .glo "row_text") rfl)
  obtain ⟨fd__law_open,F__law_open⟩:=c.def_ 19 (d:=A54) rfl
  have g__law_open:=He.glo_ok X G (c.fact 19 (f:= .glo "_law_open") rfl)
  obtain ⟨fd__law_take,F__law_take⟩:=c.def_ 20 (d:=A52) rfl
  have g__law_take:=He.glo_ok X G (c.fact 20 (f:= .glo "_law_take") rfl)
  obtain ⟨fd__law_pick,F__law_pick⟩:=c.def_ 21 (d:=A5x) rfl
  have g__law_pick:=He.glo_ok X G (c.fact 21 (f:= .glo "_law_pick") rfl)
  obtain ⟨fd__law_same,F__law_same⟩:=c.def_ 22 (d:=A5u) rfl
  have g__law_same:=He.glo_ok X G (c.fact 22 (f:= .glo "_law_same") rfl)
  obtain ⟨fd__law_sizes,F__law_sizes⟩:=c.def_ 23 (d:=A5i) rfl
  have g__law_sizes:=He.glo_ok X G (c.fact 23 (f:= .glo "_law_sizes") rfl)
  obtain ⟨fd__law_any_sizes,F__law_any_sizes⟩:=c.def_ 24 (d:=A5d) rfl
  have g__law_any_sizes:=He.glo_ok X G (c.fact 24 (f:= .glo "_law_any_sizes") rfl)
  obtain ⟨fd__law_flaw,F__law_flaw⟩:=c.def_ 25 (d:=A5s) rfl
  have g__law_flaw:=He.glo_ok X G (c.fact 25 (f:= .glo "_law_flaw") rfl)
  obtain ⟨fd__law_told,F__law_told⟩:=c.def_ 26 (d:=A6E) rfl
  have g__law_told:=He.glo_ok X G (c.fact 26 (f:= .glo "_law_told") rfl)
  obtain ⟨fd_law,F_law⟩:=c.def_ 27 (d:=A8U) rfl
  have g_law:=He.glo_ok X G (c.fact 27 (f:= .glo "law") rfl)
  unfold hEx at x
  simp only [Bool.and_eq_true] at x
  have h_BadSizes:=He.glo_ok X G (c.fact 49 (f:= .glo "BadSizes") rfl)
  obtain ⟨fdi_BadSizes,Fi_BadSizes⟩:=c.def_ 28 (d:=A6A) rfl
  have cl_Book:Cls K (He.ga K "Book"):=He.cls_ok (c.fact 52 (f:= .cls "Book") rfl)
  have go_Book:=He.glo_ok X G (c.fact 50 (f:= .glo "Book") rfl)
  have cl_Loft:Cls K (He.ga K "Loft"):=He.cls_ok (c.fact 53 (f:= .cls "Loft") rfl)
  have go_Loft:=He.glo_ok X G (c.fact 51 (f:= .glo "Loft") rfl)
  obtain ⟨fd_Book____init__,F_Book____init__⟩:=c.def_ 29 (d:=A5f) rfl
  have M_Book____init__:=He.meth_ok (c.fact 62 (f:= .meth "Book" "__init__") rfl)
  obtain ⟨fd_Loft____init__,F_Loft____init__⟩:=c.def_ 30 (d:=A5b) rfl
  have M_Loft____init__:=He.meth_ok (c.fact 63 (f:= .meth "Loft" "__init__") rfl)
  have Z:Blt K mg:=⟨He.free_ok X G (c.fact 28 (f:= .free "all") rfl),
    He.free_ok X G (c.fact 29 (f:= .free "bool") rfl),
    He.free_ok X G (c.fact 30 (f:= .free "enumerate") rfl),
    He.free_ok X G (c.fact 31 (f:= .free "int") rfl),
    He.free_ok X G (c.fact 32 (f:= .free "isinstance") rfl),
    He.free_ok X G (c.fact 33 (f:= .free "len") rfl),
    He.free_ok X G (c.fact 34 (f:= .free "list") rfl),
    He.free_ok X G (c.fact 35 (f:= .free "min") rfl),
    He.free_ok X G (c.fact 36 (f:= .free "range") rfl),
    He.free_ok X G (c.fact 37 (f:= .free "str") rfl),
    He.free_ok X G (c.fact 38 (f:= .free "tuple") rfl),
    He.int_ok X G (c.fact 39 (f:= .int "GONE" (-1)) rfl),
    He.int_ok X G (c.fact 40 (f:= .int "GREAT" 1000000000000000000000000000000) rfl),
    He.str_ok X G (c.fact 41 (f:= .str "LETTERS" ("abcdefghijklmnopqrstuvwxyz":Str)) rfl),
    He.int_ok X G (c.fact 42 (f:= .int "LONGEST" 8) rfl),
    He.int_ok X G (c.fact 43 (f:= .int "MOST_CALLS" 9) rfl),
    He.int_ok X G (c.fact 44 (f:= .int "MOST_CASKS" 6) rfl),
    He.int_ok X G (c.fact 45 (f:= .int "MOST_DROPS" 60) rfl),
    He.int_ok X G (c.fact 46 (f:= .int "MOST_SIZE" 40) rfl),
    ⟨_,_,He.glo_ok X G (c.fact 47 (f:= .glo "PATHS") rfl),fun H=> He.tupB_ok x.1.1.1.1.1.1 H,fun H=> .cons .str (.cons .str (.nil))⟩,
    ⟨_,_,He.glo_ok X G (c.fact 48 (f:= .glo "PLAIN") rfl),fun H=> He.tupB_ok x.1.1.1.1.1.2 H,fun H=> .cons .str (.cons .str (.cons .str (.nil)))⟩,
    h_BadSizes,
    B3L x.1.2,
    B2c x.2,
    ⟨cl_Book,He.noat_ok (c.fact 54 (f:= .noat "Book" "casks") rfl)⟩,
    ⟨cl_Book,He.noat_ok (c.fact 55 (f:= .noat "Book" "laid") rfl)⟩,
    ⟨cl_Book,He.noat_ok (c.fact 56 (f:= .noat "Book" "written") rfl)⟩,
    ⟨cl_Loft,He.noat_ok (c.fact 57 (f:= .noat "Loft" "book") rfl)⟩,
    ⟨cl_Loft,He.noat_ok (c.fact 58 (f:= .noat "Loft" "casks") rfl)⟩,
    ⟨cl_Loft,He.noat_ok (c.fact 59 (f:= .noat "Loft" "later") rfl)⟩,
    ⟨cl_Loft,He.noat_ok (c.fact 60 (f:= .noat "Loft" "now") rfl)⟩,
    ⟨cl_Loft,He.noat_ok (c.fact 61 (f:= .noat "Loft" "past") rfl)⟩,
    ⟨go_Book,(He.mkr_ok (c.fact 64 (f:= .mkr "Book") rfl)).makes,(He.mkr_ok (c.fact 64 (f:= .mkr "Book") rfl)).kp⟩,
    ⟨go_Loft,(He.mkr_ok (c.fact 65 (f:= .mkr "Loft") rfl)).makes,(He.mkr_ok (c.fact 65 (f:= .mkr "Loft") rfl)).kp⟩⟩
  have e:=hfa.symm.trans g_law
  cases e
  have b:=FunD.bindsA (ps:=A2v) F_law fun _ _ _ _ _ _ us hl=> match us,hl with | [_],_=> rfl
  refine ⟨fd_law,fun s v=> b s [v] rfl,fun base TBs=> ?_⟩
  have R_BadSizes:XkOk P w K mg base "BadSizes" "bad sizes" ["cask"]:=xk1 (B3V x.1.1.2) h_BadSizes Fi_BadSizes A92 (fun _ _ _ _ _ _ us hl=> match us,hl with | [_,_],_=> rfl)
  have O__law_open:=B0I (P:=P) (w:=w) (base:=base) Z F__law_open g__law_open
  have O__law_take:=A98 (P:=P) (w:=w) (base:=base) Z F__law_take g__law_take
  have O__law_sizes:=A9p (P:=P) (w:=w) (base:=base) Z F__law_sizes g__law_sizes O__law_take
  have O__law_pick:=A99 (P:=P) (w:=w) (base:=base) Z F__law_pick g__law_pick O__law_take
  have O__law_any_sizes:=A9N (P:=P) (w:=w) (base:=base) Z F__law_any_sizes g__law_any_sizes O__law_sizes O__law_pick
  have O__law_flaw:=A94 (P:=P) (w:=w) (base:=base) Z F__law_flaw g__law_flaw
  have O__law_same:=A6B (P:=P) (w:=w) (base:=base) Z F__law_same g__law_same 8
  have O_look_sizes:=A9r (P:=P) (w:=w) (base:=base) Z F_look_sizes g_look_sizes R_BadSizes
  have O_look_stand:=A9u (P:=P) (w:=w) (base:=base) Z F_look_stand g_look_stand O_look_sizes
  have O_counted:=B0s (P:=P) (w:=w) (base:=base) Z F_counted g_counted
  have O_counts_of:=B0B (P:=P) (w:=w) (base:=base) Z F_counts_of g_counts_of O_look_stand O_counted
  have O_Book____init__:=A9K (P:=P) (w:=w) (base:=base) Z O_look_sizes cl_Book M_Book____init__ F_Book____init__
  have O_Loft____init__:=A9S (P:=P) (w:=w) (base:=base) Z O_look_stand O_Book____init__ cl_Loft M_Loft____init__ F_Loft____init__
  have lm_law:=B1j (x:=("law",none)) (q:="law") x.1.1.1.1.2 x.1.1.1.2 TBs
  have O_law:=o_law (P:=P) (w:=w) (base:=base) Z O__law_open O__law_any_sizes O__law_take O__law_pick O__law_flaw O__law_same O_look_sizes O_counts_of O_Book____init__ O_Loft____init__ F__law_told g__law_told F_law g_law lm_law
  obtain ⟨f2,fd2,hm2,FD2,F2⟩:=O_law.ex
  have e2:=hm2.symm.trans g_law
  cases e2
  have e3:fd2=fd_law:=FunD.one FD2 F_law
  rw [←e3]
  exact F2
end Ab
open PySem PySem.W PySem.Calls PyProof.Rows
theorem PySem.Challenge.cw_hidelater_k01_sizes_judged_holds : PySem.Challenge.rw_hidelater_k01_sizes_judged.Holds := by
  w_on;o_law
  refine HandSHeadRun.head_any (r:=OpenLaw.row PySem.Challenge.rw_hidelater_k01_sizes_judged) (q:=view (OpenLaw.row PySem.Challenge.rw_hidelater_k01_sizes_judged).prog [61]) (H:=Ab.hHk) (ob:=Ab.hOb) (M:=13000) (loose:=Ab.hNms) (d:=HandSHeadRun.topDef (OpenLaw.row PySem.Challenge.rw_hidelater_k01_sizes_judged).prog 61) (kwd:=[]) Ab.hOb_eq
    (by kernel_rfl) (fun s=> by kernel_rfl) Ab.hRun (by kernel_rfl) (by kernel_rfl) (by kernel_rfl) (by rfl) (by first | assumption | decide+kernel) (by decide+kernel) ⟨rfl,rfl,rfl,rfl,rfl,by decide+kernel⟩ ?hw ?hc
  case hw=> w_witness2
  case hc=>
    refine Ab.walk_end (l:=PySem.Challenge.rw_hidelater_k01_sizes_judged) (j:=10) (y:="_law_script") rfl (by kernel_rfl) ⟨rfl,by decide,by decide⟩ ?F
    intro w mg fa h Y G hmg0
    obtain ⟨K,KX,⟨c,ex⟩,no,te⟩:=Y
    have hmg:mg ("law":PySem.Str)=some (.ref fa):=by
      have e:(HandSHeadRun.topDef (OpenLaw.row PySem.Challenge.rw_hidelater_k01_sizes_judged).prog 61).name=("law":PySem.Str):=by kernel_rfl
      rw [←e]
      exact hmg0
    obtain ⟨fd,hb,hF⟩:=Ab.hFacts (P:=(PySem.Challenge.rw_hidelater_k01_sizes_judged).prog) (w:=w) KX G hmg c ex
    exact ⟨K,fd,Ab.upc Ab.m_law,KX,no,te,Ab.law_says,hb,hF⟩
