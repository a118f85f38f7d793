import PyProof.Rows.All
import Wide.All
import OpenK.AllK
import Wide.FinOn
import HandS.ForExc
import HandS.ForMost
import HandS.Defaults
import HandS.Lambda
import HandS.HeadHook1
import KE.DataEq
import HandS.TupAny
import HandS.IsInst
import HandS.Wide
import HandS.TupMul
import HandS.Codes
import HandS.Zip
import PyProof.CollectIter
import PyProof.WalksMore
import KE.GoesEnum
import KE.GoesZip
import KE.KItemsList
import HandS.Conv
import HandS.TryOnly
import HandS.SortInts
import HandS.Dict
import HandS.Head0
import HandS.Head1
import HandS.Head2
import HandS.HeadEnd
import HandS.HeadHook2
import HandS.HeadHook4
import HandS.HeadWalk
import HandS.EndTab
import HandS.ExcInit
import HandS.ExcField
import KE.KMinKey
import HandS.SortKw
import HandS.NoneIn
import KE.KDictDisplayH
import HandS.Style
import HandS.SetFor
import HandS.CallSlots
import HandS.WordsDict
import HandS.DictComp
import HandS.Iter
import HandS.OwnEq
import KE.KFmtOwn
import PyProof.InstNe
import HandS.MakeKwOnly
import HandS.FStr
import KE.KEqDict
import PyProof.NeKinds
import HandS.Small
import HandS.Finally
import HandS.More
import HandS.Text
import HandS.RaiseMore
import HandS.MapJoin
import HandS.HeadHook3
import KE.KIntText
import KE.IntTextText
import PySem.Challenge.RW_hidelater_k27_rounds_let_go
set_option Elab.async false
set_option linter.all false
set_option maxRecDepth 100000
set_option maxHeartbeats 0
namespace Ab
open PySem PySem.Spec PyProof.Rows L2
inductive W where
  | non | bl (b:Bool) | int (i:Int) | str (x:Str) | tup (xs:List W) | lst (xs:List W) | dct (ks vs:List W) | ref (a:Addr) | ty (n:String)
instance:Inhabited W:=⟨.non⟩
def A0y:W→Option Key
  | .int i=> some (.inl i)
  | .str x=> some (.inr x)
  | _=> none
def B61:List W→Option (List Key)
  | []=> some []
  | w::ws=> match A0y w,B61 ws with
    | some k,some ks=> some (k::ks)
    | _,_=> none
def B2K:W→Option (List Key)
  | .tup ws=> B61 ws
  | _=> none
def Imm:HO→Prop
  | .tup _=> True
  | .frz _ _=> True
  | _=> False
def LsF (H:Hp) (a:Addr) (vs:List V):Prop:=∃o,H a=some (.frz o (.lst vs))
theorem LsF.sq {K:PySem.W.Frag} {H:Hp} {a:Addr} {vs:List V} (h:LsF H a vs):SqL K H a vs:=let ⟨o,h⟩:=h;.inl (.inr ⟨o,h⟩)
def TqT (K:PySem.W.Frag) (H:Hp) (a:Addr) (xs:List V):Prop:=
  H a=some (.tup xs)∨xs≠[]∧∃(o:Obj) (its:Array Value) (n:Nat),K.lookup a=some o∧o.cls= .type "tuple"∧o.data= .seq its n∧its.size≤sizeLine∧Vals xs its.toList
theorem TqT.sq {K:PySem.W.Frag} {H:Hp} {a:Addr} {xs:List V} (h:TqT K H a xs):SqT K H a xs:=h.imp .inl (·.2)
theorem C4L {K:PySem.W.Frag} {a:Addr} {vs:List V} (ne:vs≠[]) (h:∀H,SqT K H a vs) (H:Hp):TqT K H a vs:=by
  rcases h (fun _=> none) with (h | ⟨o,h⟩) | h
  · cases h
  · cases h
  · exact .inr ⟨ne,h⟩
mutual
def Rep (K:PySem.W.Frag) (H:Hp):W→V→Prop
  | .non,v=> v= .non
  | .bl b,v=> v= .bl b
  | .int i,v=> v= .int i
  | .str x,v=> v= .str x
  | .tup ws,v=> ∃a vs,v= .ref a∧TqT K H a vs∧RepL K H ws vs
  | .lst ws,v=> ∃a vs,v= .ref a∧LsF H a vs∧RepL K H ws vs
  | .dct ks ws,v=> ∃a,v= .ref a∧((∃o kvs,H a=some (.frz o (.dK kvs))∧ks.map A0y=kvs.map (fun p=> some p.1)∧RepL K H ws (kvs.map (·.2)))∨
      ∃o kvs,H a=some (.frz o (.dT kvs))∧(∃r,ks= .lst []::r∧r.map B2K=kvs.map (fun p=> some p.1))∧RepL K H ws (.non::kvs.map (·.2)))
  | .ref a,v=> v= .ref a
  | .ty n,v=> v= .ty n
def RepL (K:PySem.W.Frag) (H:Hp):List W→List V→Prop
  | [],vs=> vs=[]
  | w::ws,vs=> ∃v r,vs=v::r∧Rep K H w v∧RepL K H ws r
end
def Keeps (H H':Hp):Prop:=∀a o,H a=some o→Imm o→H' a=some o
theorem Keeps.refl (H:Hp):Keeps H H:=fun _ _ h _=> h
theorem Keeps.trans {H H1 H2:Hp} (a:Keeps H H1) (b:Keeps H1 H2):Keeps H H2:=fun p o h i=> b p o (a p o h i) i
theorem Keeps.tqT {K:PySem.W.Frag} {H H':Hp} (k:Keeps H H') {a:Addr} {vs:List V} (h:TqT K H a vs):TqT K H' a vs:=h.imp (fun e=> k _ _ e trivial) id
theorem Keeps.sqT {K:PySem.W.Frag} {H H':Hp} (k:Keeps H H') {a:Addr} {vs:List V} (h:SqT K H a vs):SqT K H' a vs:=by
  rcases h with (h | ⟨o,h⟩) | h
  · exact .inl (.inl (k _ _ h trivial))
  · exact .inl (.inr ⟨o,k _ _ h trivial⟩)
  · exact .inr h
theorem Keeps.lsF {H H':Hp} (k:Keeps H H') {a:Addr} {vs:List V} (h:LsF H a vs):LsF H' a vs:=let ⟨o,h⟩:=h;⟨o,k _ _ h trivial⟩
mutual
theorem Rep.mono {K:PySem.W.Frag} {H H':Hp} (k:Keeps H H'):∀(w:W) (v:V),Rep K H w v→Rep K H' w v
  | .non,_,h=> by simpa only [Rep] using h
  | .bl _,_,h=> by simpa only [Rep] using h
  | .int _,_,h=> by simpa only [Rep] using h
  | .str _,_,h=> by simpa only [Rep] using h
  | .ref _,_,h=> by simpa only [Rep] using h
  | .ty _,_,h=> by simpa only [Rep] using h
  | .tup ws,v,h=> by
    simp only [Rep] at h ⊢
    obtain ⟨a,vs,e,s,r⟩:=h
    exact ⟨a,vs,e,k.tqT s,RepL.mono k ws vs r⟩
  | .lst ws,v,h=> by
    simp only [Rep] at h ⊢
    obtain ⟨a,vs,e,s,r⟩:=h
    exact ⟨a,vs,e,k.lsF s,RepL.mono k ws vs r⟩
  | .dct ks ws,v,h=> by
    simp only [Rep] at h ⊢
    obtain ⟨a,e,⟨o,kvs,s,t,r⟩ | ⟨o,kvs,s,t,r⟩⟩:=h
    · exact ⟨a,e,.inl ⟨o,kvs,k _ _ s trivial,t,RepL.mono k ws _ r⟩⟩
    · exact ⟨a,e,.inr ⟨o,kvs,k _ _ s trivial,t,RepL.mono k ws _ r⟩⟩
theorem RepL.mono {K:PySem.W.Frag} {H H':Hp} (k:Keeps H H'):∀(ws:List W) (vs:List V),RepL K H ws vs→RepL K H' ws vs
  | [],vs,h=> by simpa only [RepL] using h
  | w::ws,vs,h=> by
    simp only [RepL] at h ⊢
    obtain ⟨v,r,e,a,b⟩:=h
    exact ⟨v,r,e,Rep.mono k w v a,RepL.mono k ws r b⟩
end
section
variable {K:PySem.W.Frag} {H:Hp}
theorem Rep.of_int {i:Int} {v:V} (h:Rep K H (.int i) v):v= .int i:=by simpa only [Rep] using h
theorem Rep.of_str {i:Str} {v:V} (h:Rep K H (.str i) v):v= .str i:=by simpa only [Rep] using h
theorem Rep.of_bl {i:Bool} {v:V} (h:Rep K H (.bl i) v):v= .bl i:=by simpa only [Rep] using h
theorem Rep.of_non {v:V} (h:Rep K H .non v):v= .non:=by simpa only [Rep] using h
theorem Rep.of_ref {a:Addr} {v:V} (h:Rep K H (.ref a) v):v= .ref a:=by simpa only [Rep] using h
theorem Rep.of_ty {n:String} {v:V} (h:Rep K H (.ty n) v):v= .ty n:=by simpa only [Rep] using h
theorem Rep.of_tupT {ws:List W} {v:V} (h:Rep K H (.tup ws) v):∃a vs,v= .ref a∧TqT K H a vs∧RepL K H ws vs:=by simpa only [Rep] using h
theorem Rep.of_tup {ws:List W} {v:V} (h:Rep K H (.tup ws) v):∃a vs,v= .ref a∧SqT K H a vs∧RepL K H ws vs:=let ⟨a,vs,e,s,r⟩:=h.of_tupT;⟨a,vs,e,s.sq,r⟩
theorem Rep.of_lst {ws:List W} {v:V} (h:Rep K H (.lst ws) v):∃a vs,v= .ref a∧LsF H a vs∧RepL K H ws vs:=by simpa only [Rep] using h
theorem Rep.int {i:Int}:Rep K H (.int i) (.int i):=by simp only [Rep]
theorem Rep.str {i:Str}:Rep K H (.str i) (.str i):=by simp only [Rep]
theorem Rep.bl {i:Bool}:Rep K H (.bl i) (.bl i):=by simp only [Rep]
theorem Rep.non:Rep K H .non .non:=by simp only [Rep]
theorem Rep.ref {a:Addr}:Rep K H (.ref a) (.ref a):=by simp only [Rep]
theorem Rep.ty {n:String}:Rep K H (.ty n) (.ty n):=by simp only [Rep]
theorem Rep.tup {ws:List W} {a:Addr} {vs:List V} (s:TqT K H a vs) (r:RepL K H ws vs):Rep K H (.tup ws) (.ref a):=by
  simp only [Rep];exact ⟨a,vs,rfl,s,r⟩
theorem Rep.lst {ws:List W} {a:Addr} {vs:List V} (s:LsF H a vs) (r:RepL K H ws vs):Rep K H (.lst ws) (.ref a):=by
  simp only [Rep];exact ⟨a,vs,rfl,s,r⟩
theorem RepL.nil:RepL K H [] []:=by simp only [RepL]
theorem RepL.cons {w:W} {ws:List W} {v:V} {vs:List V} (a:Rep K H w v) (b:RepL K H ws vs):RepL K H (w::ws) (v::vs):=by
  simp only [RepL];exact ⟨v,vs,rfl,a,b⟩
theorem RepL.of_nil {vs:List V} (h:RepL K H [] vs):vs=[]:=by simpa only [RepL] using h
theorem RepL.of_cons {w:W} {ws:List W} {vs:List V} (h:RepL K H (w::ws) vs):∃v r,vs=v::r∧Rep K H w v∧RepL K H ws r:=by simpa only [RepL] using h
theorem RepL.length:∀{ws:List W} {vs:List V},RepL K H ws vs→ws.length=vs.length
  | [],vs,h=> by rw [h.of_nil];rfl
  | w::ws,vs,h=> by
    obtain ⟨v,r,e,_,t⟩:=h.of_cons
    rw [e,List.length_cons,List.length_cons,t.length]
theorem RepL.get:∀{ws:List W} {vs:List V} {i:Nat} {w:W},RepL K H ws vs→ws[i]? =some w→∃v,vs[i]? =some v∧Rep K H w v
  | [],_,_,_,_,e=> by simp at e
  | w::ws,vs,0,x,h,e=> by
    obtain ⟨v,r,rfl,a,_⟩:=h.of_cons
    simp at e;subst e;exact ⟨v,rfl,a⟩
  | w::ws,vs,i+1,x,h,e=> by
    obtain ⟨v,r,rfl,_,t⟩:=h.of_cons
    obtain ⟨u,h1,h2⟩:=t.get (i:=i) (by simpa using e)
    exact ⟨u,by simpa using h1,h2⟩
theorem RepL.append:∀{ws xs:List W} {vs us:List V},RepL K H ws vs→RepL K H xs us→RepL K H (ws++xs) (vs++us)
  | [],xs,vs,us,h,g=> by rw [h.of_nil];exact g
  | w::ws,xs,vs,us,h,g=> by
    obtain ⟨v,r,rfl,a,t⟩:=h.of_cons
    exact .cons a (t.append g)
theorem RepL.set:∀{ws:List W} {vs:List V} (i:Nat) {w:W} {v:V},RepL K H ws vs→Rep K H w v→RepL K H (ws.set i w) (vs.set i v)
  | [],vs,i,w,v,h,g=> by rw [h.of_nil];exact .nil
  | x::ws,vs,0,w,v,h,g=> by
    obtain ⟨u,r,rfl,a,t⟩:=h.of_cons
    exact .cons g t
  | x::ws,vs,i+1,w,v,h,g=> by
    obtain ⟨u,r,rfl,a,t⟩:=h.of_cons
    exact .cons a (t.set i g)
theorem RepL.take:∀{ws:List W} {vs:List V} (n:Nat),RepL K H ws vs→RepL K H (ws.take n) (vs.take n)
  | _,_,0,_=> .nil
  | [],vs,n+1,h=> by rw [h.of_nil];exact .nil
  | w::ws,vs,n+1,h=> by
    obtain ⟨v,r,rfl,a,t⟩:=h.of_cons
    exact .cons a (t.take n)
theorem RepL.drop:∀{ws:List W} {vs:List V} (n:Nat),RepL K H ws vs→RepL K H (ws.drop n) (vs.drop n)
  | _,_,0,h=> h
  | [],vs,n+1,h=> by rw [h.of_nil];exact .nil
  | w::ws,vs,n+1,h=> by
    obtain ⟨v,r,rfl,a,t⟩:=h.of_cons
    exact t.drop n
theorem RepL.eraseIdx:∀{ws:List W} {vs:List V} (i:Nat),RepL K H ws vs→RepL K H (ws.eraseIdx i) (vs.eraseIdx i)
  | [],vs,i,h=> by rw [h.of_nil];exact .nil
  | w::ws,vs,0,h=> by
    obtain ⟨v,r,rfl,a,t⟩:=h.of_cons
    exact t
  | w::ws,vs,i+1,h=> by
    obtain ⟨v,r,rfl,a,t⟩:=h.of_cons
    exact .cons a (t.eraseIdx i)
theorem RepL.rep {ws:List W} {vs:List V} (h:RepL K H ws vs):∀k:Nat,RepL K H (List.replicate k ws).flatten (List.replicate k vs).flatten
  | 0=> .nil
  | k+1=> by
    rw [List.replicate_succ,List.replicate_succ,List.flatten_cons,List.flatten_cons]
    exact h.append (h.rep k)
theorem RepL.ints {ns:List Int}:RepL K H (ns.map W.int) (ns.map V.int):=by
  induction ns with
  | nil=> exact .nil
  | cons n r ih=> exact .cons .int ih
theorem RepL.of_ints {ns:List Int} {vs:List V} (h:RepL K H (ns.map W.int) vs):vs=ns.map V.int:=by
  induction ns generalizing vs with
  | nil=> exact h.of_nil
  | cons n r ih=>
    obtain ⟨v,t,rfl,a,b⟩:=h.of_cons
    rw [a.of_int,ih b];rfl
theorem RepL.of_bls {ns:List Bool} {vs:List V} (h:RepL K H (ns.map W.bl) vs):vs=ns.map V.bl:=by
  induction ns generalizing vs with
  | nil=> exact h.of_nil
  | cons n r ih=>
    obtain ⟨v,t,rfl,a,b⟩:=h.of_cons
    rw [a.of_bl,ih b];rfl
theorem RepL.of_strs {ns:List Str} {vs:List V} (h:RepL K H (ns.map W.str) vs):vs=ns.map V.str:=by
  induction ns generalizing vs with
  | nil=> exact h.of_nil
  | cons n r ih=>
    obtain ⟨v,t,rfl,a,b⟩:=h.of_cons
    rw [a.of_str,ih b];rfl
end
inductive Cont where
  | seq (ws:List W) | map (kvs:List (W×W))
def Cont.fz:Cont→W
  | .seq ws=> .lst ws
  | .map kvs=> .dct (kvs.map (·.1)) (kvs.map (·.2))
inductive AO where
  | cont (c:Cont) | ins (C:Str) (fs:List (Str×W))
abbrev AH:=Addr→Option AO
inductive SV where
  | val (w:W) | own (c:Cont)
abbrev A0:=List (Option SV)
def CRep (K:PySem.W.Frag) (H:Hp) (p:Addr):Cont→Prop
  | .seq ws=> ∃vs,H p=some (.lst vs)∧RepL K H ws vs
  | .map kvs=> (∃ks,H p=some (.dK ks)∧(kvs.map (·.1)).map A0y=ks.map (fun q=> some q.1)∧RepL K H (kvs.map (·.2)) (ks.map (·.2)))∨
      ∃ks,H p=some (.dT ks)∧(∃r,kvs.map (·.1)= .lst []::r∧r.map B2K=ks.map (fun q=> some q.1))∧RepL K H (kvs.map (·.2)) (.non::ks.map (·.2))
def FRep (K:PySem.W.Frag) (H:Hp) (fs:List (Str×W)) (vs:List (Str×V)):Prop:=fs.map (·.1)=vs.map (·.1)∧RepL K H (fs.map (·.2)) (vs.map (·.2))
def ORep (K:PySem.W.Frag) (H:Hp) (a:Addr):AO→Prop
  | .cont c=> CRep K H a c
  | .ins C fs=> ∃dx vs,H a=some (.ins (He.ga K C) dx vs)∧FRep K H fs vs
def Mu:HO→Prop
  | .lst _=> True
  | .dK _=> True
  | .dT _=> True
  | .ins _ _ _=> True
  | _=> False
theorem Mu.mut {o:HO} (h:Mu o):Mut (some o):=by cases o <;> first | trivial | exact h.elim
def NT (o:HO):Prop:=∀ps,o≠ .tbl ps
theorem Mu.nt {o:HO} (h:Mu o):NT o:=fun _ e=> by subst e;exact h
theorem Imm.nt {o:HO} (h:Imm o):NT o:=fun _ e=> by subst e;exact h
def B6t:Addr:=builtinsNs
def cs1 (K:PySem.W.Frag) (p:Addr×Obj):Option ((Addr×Addr)×Str):=match p.2.data with
  | .fields vs=> (match vs.getD 11 .none,vs.getD 1 .none with
    | .ref P,.str q _=> some ((p.1,P),q++".<locals>."++"<lambda>")
    | _,_=> none)
  | _=> none
def i9 (K:PySem.W.Frag):List ((Addr×Addr)×Str):=((K.dropWhile fun p=> decide (p.1≠B6t)).tail).filterMap (cs1 K)
def A3h (K:PySem.W.Frag):List (Addr×Str):=(i9 K).map fun p=> (p.1.2,p.2)
abbrev TabsK (K:PySem.W.Frag) (H:Hp):Prop:=LamX.Tabs (A3h K) H
theorem TabsK.keep {K:PySem.W.Frag} {H H':Hp} (t:TabsK K H) (k:∀a o,H a=some o→(¬Mu o)→H' a=some o):TabsK K H':=fun p hp=> by
  obtain ⟨ps,h1,h2,h3⟩:=t p hp
  refine ⟨ps,k _ _ h1 (fun z=> z),h2,fun pos cv hc=> ?_⟩
  obtain ⟨c,e1,e2⟩:=h3 pos cv hc
  exact ⟨c,e1,k _ _ e2 (fun z=> z)⟩
theorem TabsK.upd {K:PySem.W.Frag} {H:Hp} {p:Addr} {u:HO} (t:TabsK K H) (n:∀o,H p=some o→Mu o):TabsK K (upd H p u):=t.keep fun a o e m=> by
  have ne:a≠p:=fun z=> m (n o (z▸e))
  rw [upd_ne ne];exact e
theorem Mu.imm {o:HO} (h:Mu o):¬Imm o:=by cases o <;> first | exact h.elim | (intro z;exact z)
theorem CRep.there {K:PySem.W.Frag} {H:Hp} {p:Addr} {c:Cont} (h:CRep K H p c):∃o,H p=some o∧Mu o:=by
  cases c with
  | seq ws=> obtain ⟨vs,e,_⟩:=h;exact ⟨_,e,trivial⟩
  | map kvs=>
    rcases h with ⟨ks,e,_⟩ | ⟨ks,e,_⟩
    · exact ⟨_,e,trivial⟩
    · exact ⟨_,e,trivial⟩
theorem CRep.mu_at {K:PySem.W.Frag} {H:Hp} {p:Addr} {c:Cont} {o:HO} (h:CRep K H p c) (e:H p=some o):Mu o:=by
  obtain ⟨u,e',m⟩:=h.there
  rw [e] at e';cases e';exact m
theorem ORep.there {K:PySem.W.Frag} {H:Hp} {p:Addr} {o:AO} (h:ORep K H p o):∃u,H p=some u∧Mu u:=by
  cases o with
  | cont c=> exact CRep.there h
  | ins C fs=> obtain ⟨dx,vs,e,_⟩:=h;exact ⟨_,e,trivial⟩
theorem CRep.mono {K:PySem.W.Frag} {H H':Hp} (k:Keeps H H') {p:Addr} (s:H' p=H p) {c:Cont} (h:CRep K H p c):CRep K H' p c:=by
  cases c with
  | seq ws=> obtain ⟨vs,e,r⟩:=h;exact ⟨vs,s.trans e,RepL.mono k _ _ r⟩
  | map kvs=>
    rcases h with ⟨ks,e,t,r⟩ | ⟨ks,e,t,r⟩
    · exact .inl ⟨ks,s.trans e,t,RepL.mono k _ _ r⟩
    · exact .inr ⟨ks,s.trans e,t,RepL.mono k _ _ r⟩
theorem ORep.mono {K:PySem.W.Frag} {H H':Hp} (k:Keeps H H') {p:Addr} (s:H' p=H p) {o:AO} (h:ORep K H p o):ORep K H' p o:=by
  cases o with
  | cont c=> exact CRep.mono k s h
  | ins C fs=> obtain ⟨dx,vs,e,t,r⟩:=h;exact ⟨dx,vs,s.trans e,t,RepL.mono k _ _ r⟩
structure AExc where
  n:Str
  fs:List (Str×W)
structure Gx where
  K:PySem.W.Frag
  h0:AH
  H0:Hp
def OwnAt (env:A0) (σ:L2.St) (p:Addr):Prop:=∃(i:Nat) (c:Cont),env[i]? =some (some (SV.own c))∧σ[i]? =some (some (V.ref p))
structure BS (G:Gx) (env:A0) (h:AH) (σ:L2.St) (H:Hp):Prop where
  len:env.length=σ.length
  val:∀(i:Nat) (w:W),env[i]? =some (some (SV.val w))→∃v,σ[i]? =some (some v)∧Rep G.K H w v
  own:∀(i:Nat) (c:Cont),env[i]? =some (some (SV.own c))→∃p,σ[i]? =some (some (V.ref p))∧CRep G.K H p c∧h p=none∧G.H0 p=none
  uni:∀(i j:Nat) (c c':Cont) (p:Addr),env[i]? =some (some (SV.own c))→env[j]? =some (some (SV.own c'))→σ[i]? =some (some (V.ref p))→σ[j]? =some (some (V.ref p))→i=j
  hp:∀a o,h a=some o→ORep G.K H a o
  fr:∀p o,G.H0 p=some o→G.h0 p=none→NT o→H p=some o
  ext:∀a o,h a=some o→G.h0 a=none→G.H0 a=none
  tr:∀p o,G.H0 p=some o→∃u,H p=some u
  tabs:TabsK G.K H
structure Xt (env:A0) (h:AH) (σ:L2.St) (H:Hp) (env':A0) (h':AH) (H':Hp):Prop where
  fr:∀p o,H p=some o→h p=none→¬OwnAt env σ p→NT o→H' p=some o
  hn:∀p o,h' p=some o→h p=none→H p=none
  th:∀p o,H p=some o→∃o',H' p=some o'
  sl:∀(i:Nat) (c':Cont),env'[i]? =some (some (SV.own c'))→∃c,env[i]? =some (some (SV.own c))
section
variable {G:Gx} {env env' env2:A0} {h h' h2:AH} {σ:L2.St} {H H' H2:Hp}
theorem BS.imm (S:BS G env h σ H) {p:Addr} {o:HO} (e:H p=some o) (i:Imm o):h p=none∧¬OwnAt env σ p:=by
  refine ⟨?_,fun ⟨j,c,a,b⟩=> ?_⟩
  · cases q:h p with
    | none=> rfl
    | some u=>
      obtain ⟨o',e',m⟩:=(S.hp p u q).there
      rw [e] at e';cases e'
      exact absurd i m.imm
  · obtain ⟨p',b',cr,_⟩:=S.own j c a
    rw [b] at b';cases b'
    obtain ⟨o',e',m⟩:=cr.there
    rw [e] at e';cases e'
    exact absurd i m.imm
theorem Xt.keeps (x:Xt env h σ H env' h' H') (S:BS G env h σ H):Keeps H H':=fun p o e i=> x.fr p o e (S.imm e i).1 (S.imm e i).2 i.nt
theorem Xt.refl:Xt env h σ H env h H:=⟨fun _ _ e _ _ _=> e,fun p o e n=> (by rw [n] at e;cases e),fun _ o e=> ⟨o,e⟩,fun i c e=> ⟨c,e⟩⟩
theorem Xt.own (x:Xt env h σ H env' h' H') {p:Addr} (o:OwnAt env' σ p):OwnAt env σ p:=by
  obtain ⟨i,c,e1,e2⟩:=o
  obtain ⟨c0,z⟩:=x.sl i c e1
  exact ⟨i,c0,z,e2⟩
theorem Xt.trans (a:Xt env h σ H env' h' H') (b:Xt env' h' σ H' env2 h2 H2):Xt env h σ H env2 h2 H2:=by
  refine ⟨fun p o e n w nt=> ?_,fun p o e n=> ?_,fun p o e=> ?_,fun i c e=> ?_⟩
  · refine b.fr p o (a.fr p o e n w nt) ?_ (fun q=> w (a.own q)) nt
    cases q:h' p with
    | none=> rfl
    | some u=> rw [a.hn p u q n] at e;cases e
  · cases q:h' p with
    | none=>
      have z:=b.hn p o e q
      cases q2:H p with
      | none=> rfl
      | some u=>
        obtain ⟨o',e'⟩:=a.th p u q2
        rw [z] at e';cases e'
    | some u=> exact a.hn p u q n
  · obtain ⟨o',e'⟩:=a.th p o e
    exact b.th p o' e'
  · obtain ⟨c1,z⟩:=b.sl i c e
    exact a.sl i c1 z
end
end Ab
namespace Ab
open PySem PySem.Spec PyProof.Rows L2
inductive RV where
  | val (w:W) | own (c:Cont) | slot (i:Nat)
inductive Vw where
  | wv (x:W) | cv (x:Cont) | bad
def B1h:Option (Option SV)→Vw
  | some (some (.val w))=> .wv w
  | some (some (.own c))=> .cv c
  | _=> .bad
def viewW (h:AH):W→Vw
  | .ref a=> match h a with
    | some (.cont c)=> .cv c
    | _=> .wv (.ref a)
  | w=> .wv w
def view (env:A0) (h:AH):RV→Vw
  | .val w=> viewW h w
  | .own c=> .cv c
  | .slot i=> B1h env[i]?
def Vw.toW:Vw→W
  | .wv w=> w
  | .cv c=> c.fz
  | .bad=> .non
def RvRep (G:Gx) (env:A0) (h:AH) (σ:L2.St) (H:Hp):RV→V→Prop
  | .val w,v=> Rep G.K H w v
  | .own c,v=> ∃p,v= .ref p∧CRep G.K H p c∧h p=none∧G.H0 p=none∧¬OwnAt env σ p
  | .slot i,v=> σ[i]? =some (some v)
def VR (K:PySem.W.Frag) (H:Hp):Vw→V→Prop
  | .wv w,v=> Rep K H w v
  | .cv c,v=> ∃p,v= .ref p∧CRep K H p c
  | .bad,_=> True
section
variable {G:Gx} {env env':A0} {h h':AH} {σ:L2.St} {H H':Hp}
theorem VR.viewW (S:BS G env h σ H) {w:W} {v:V} (x:Rep G.K H w v):VR G.K H (viewW h w) v:=by
  cases w with
  | ref a=>
    have e:v= .ref a:=Rep.of_ref x
    subst e
    show VR G.K H (match h a with
      | some (.cont c)=> .cv c
      | _=> .wv (.ref a)) _
    cases q:h a with
    | none=> exact x
    | some o=>
      cases o with
      | cont c=> exact ⟨a,rfl,S.hp a _ q⟩
      | ins C fs=> exact x
  | _=> exact x
theorem RvRep.vr (S:BS G env h σ H) {r:RV} {v:V} (x:RvRep G env h σ H r v):VR G.K H (view env h r) v:=by
  cases r with
  | val w=> exact VR.viewW S x
  | own c=> obtain ⟨p,e,c,_⟩:=x;exact ⟨p,e,c⟩
  | slot i=>
    have e1:σ[i]? =some (some v):=x
    show VR G.K H (B1h env[i]?) v
    cases e2:env[i]? with
    | none=> trivial
    | some o=>
      cases o with
      | none=> trivial
      | some sv=>
        cases sv with
        | val w=>
          obtain ⟨u,e3,r⟩:=S.val i w e2
          rw [e1] at e3;cases e3
          exact r
        | own c=>
          obtain ⟨p,e3,r,_⟩:=S.own i c e2
          rw [e1] at e3;cases e3
          exact ⟨p,rfl,r⟩
theorem RvRep.xt (S:BS G env h σ H) (x:Xt env h σ H env' h' H') {r:RV} {v:V} (a:RvRep G env h σ H r v):RvRep G env' h' σ H' r v:=by
  cases r with
  | val w=> exact Rep.mono (x.keeps S) w v a
  | own c=>
    obtain ⟨p,e,c,n,n0,no⟩:=a
    obtain ⟨o,eo,_⟩:=c.there
    refine ⟨p,e,c.mono (x.keeps S) ((x.fr p o eo n no (c.mu_at eo).nt).trans eo.symm),?_,n0,fun q=> no (x.own q)⟩
    cases q:h' p with
    | none=> rfl
    | some u=> rw [x.hn p u q n] at eo;cases eo
  | slot i=> exact a
def New (H H':Hp):Prop:=∀p o,H p=some o→H' p=some o
theorem New.refl (H:Hp):New H H:=fun _ _ e=> e
theorem New.upd {p:Addr} {o:HO} (n:H p=none):New H (upd H p o):=fun q u e=> by rw [upd_ne (ne_of_none e n)];exact e
theorem New.keeps (n:New H H'):Keeps H H':=fun p o e _=> n p o e
theorem New.xt (n:New H H'):Xt env h σ H env h H':=⟨fun p o e _ _ _=> n p o e,fun p o e q=> (by rw [q] at e;cases e),fun p o e=> ⟨o,n p o e⟩,fun i c e=> ⟨c,e⟩⟩
theorem New.bs (n:New H H') (S:BS G env h σ H):BS G env h σ H' where
  len:=S.len
  val:=fun i w e=> let ⟨v,a,b⟩:=S.val i w e;⟨v,a,Rep.mono n.keeps w v b⟩
  own:=fun i c e=> by
    obtain ⟨p,a,b,d,f⟩:=S.own i c e
    obtain ⟨o,eo,_⟩:=b.there
    exact ⟨p,a,b.mono n.keeps ((n p o eo).trans eo.symm),d,f⟩
  uni:=S.uni
  hp:=fun a o e=> by
    obtain ⟨u,eu,_⟩:=(S.hp a o e).there
    exact (S.hp a o e).mono n.keeps ((n a u eu).trans eu.symm)
  fr:=fun p o e q t=> n p o (S.fr p o e q t)
  ext:=S.ext
  tr:=fun p o e=> let ⟨u,q⟩:=S.tr p o e;⟨u,n p u q⟩
  tabs:=S.tabs.keep fun a o e _=> n a o e
end
abbrev AT:=A0→AH→(RV→A0→AH→Prop)→Prop
abbrev D3:=A0→AH→(W→A0→AH→Prop)→Prop
abbrev G2:=A0→AH→(List W→A0→AH→Prop)→Prop
abbrev K9:=A0→AH→(Bool→A0→AH→Prop)→Prop
def B3 {α:Type} (t:A0→AH→(α→A0→AH→Prop)→Prop):Prop:=∀env h Q Q',(∀r e k,Q r e k→Q' r e k)→t env h Q→t env h Q'
def R0 (H:Hp):RV→V→Prop
  | .own _,v=> ∀p,v= .ref p→H p=none
  | _,_=> True
def cE (G:Gx) (t:AT):TE:=fun σ H Q=> ∃env h,BS G env h σ H∧t env h fun r env' h'=> ∀v H',BS G env' h' σ H'→Xt env h σ H env' h' H'→RvRep G env' h' σ H' r v→R0 H r v→Q v H'
def cV (G:Gx) (t:D3):TE:=fun σ H Q=> ∃env h,BS G env h σ H∧t env h fun w env' h'=> ∀v H',BS G env' h' σ H'→Xt env h σ H env' h' H'→Rep G.K H' w v→Q v H'
def cA (G:Gx) (t:G2):TA:=fun σ H Q=> ∃env h,BS G env h σ H∧t env h fun ws env' h'=> ∀vs H',BS G env' h' σ H'→Xt env h σ H env' h' H'→RepL G.K H' ws vs→Q vs H'
def cT (G:Gx) (t:K9):TT:=fun σ H Q=> ∃env h,BS G env h σ H∧t env h fun b env' h'=> ∀H',BS G env' h' σ H'→Xt env h σ H env' h' H'→Q b H'
structure AE (X:Cx) (G:Gx) (e:Expr) (t:AT):Prop where
  mono:B3 t
  pe:PE X e (cE G t)
structure AV (X:Cx) (G:Gx) (e:Expr) (t:D3):Prop where
  mono:B3 t
  pe:PE X e (cV G t)
structure AA (X:Cx) (G:Gx) (es:List Expr) (t:G2):Prop where
  mono:B3 t
  pa:PA X es (cA G t)
structure AP (X:Cx) (G:Gx) (e:Expr) (t:K9):Prop where
  mono:B3 t
  pt:PT X e (cT G t)
theorem PE.imp {X:Cx} {e:Expr} {t t':TE} (h:PE X e t) (i:∀σ H Q,t' σ H Q→t σ H Q):PE X e t':=⟨fun pins s σ H Q I q=> h.run pins s σ H Q I (i σ H Q q)⟩
theorem PA.imp {X:Cx} {e:List Expr} {t t':TA} (h:PA X e t) (i:∀σ H Q,t' σ H Q→t σ H Q):PA X e t':=⟨fun pos pins s σ H Q I q=> h.run pos pins s σ H Q I (i σ H Q q)⟩
theorem PT.imp {X:Cx} {e:Expr} {t t':TT} (h:PT X e t) (i:∀σ H Q,t' σ H Q→t σ H Q):PT X e t':=⟨fun pins s σ H Q I q=> h.run pins s σ H Q I (i σ H Q q)⟩
theorem PS.imp {X:Cx} {e:Stmt} {t t':TS} (h:PS X e t) (i:∀D σ H,t' D σ H→t D σ H):PS X e t':=⟨fun pins s σ H Q I q=> h.run pins s σ H Q I (i Q σ H q)⟩
theorem PSs.imp {X:Cx} {e:List Stmt} {t t':TS} (h:PSs X e t) (i:∀D σ H,t' D σ H→t D σ H):PSs X e t':=⟨fun pins s σ H Q I q=> h.run pins s σ H Q I (i Q σ H q)⟩
section
variable {X:Cx} {G:Gx}
def aVar (i:Nat):AT:=fun env h Q=> match env[i]? with
  | some (some (.val w))=> Q (.val w) env h
  | some (some (.own _))=> Q (.slot i) env h
  | _=> False
def aC (w:W):AT:=fun env h Q=> Q (.val w) env h
theorem aVar.mono {i:Nat}:B3 (aVar i):=fun env h Q Q' k q=> by
  unfold aVar at q ⊢
  split at q
  · exact k _ _ _ q
  · exact k _ _ _ q
  · exact q
theorem aC.mono {w:W}:B3 (aC w):=fun env h Q Q' k q=> k _ _ _ q
theorem A1 {e:Expr} {i:Nat} (h:PE X e (tVar i)):AE X G e (aVar i):=by
  refine ⟨aVar.mono,PE.imp h fun σ H Q ⟨env,k,S,q⟩=> ?_⟩
  unfold aVar at q
  split at q
  · rename_i w e
    obtain ⟨v,e1,r⟩:=S.val i w e
    exact ⟨v,e1,q v H S .refl r trivial⟩
  · rename_i c e
    obtain ⟨p,e1,r⟩:=S.own i c e
    exact ⟨_,e1,q _ H S .refl e1 trivial⟩
  · exact q.elim
theorem A2O {e:Expr} {w:W} {v:V} (h:PE X e (tC v)) (r:∀H,Rep G.K H w v):AE X G e (aC w):=
  ⟨aC.mono,PE.imp h fun σ H Q ⟨env,k,S,q⟩=> q v H S .refl (r H) trivial⟩
theorem ae_int {i j pos}:AE X G (.Constant (.int i) j pos) (aC (.int i)):=A2O pe_int fun _=> .int
theorem A1L {i j pos}:AE X G (.Constant (.bool i) j pos) (aC (.bl i)):=A2O pe_bl fun _=> .bl
theorem A0q {j pos}:AE X G (.Constant .none j pos) (aC .non):=A2O pe_non fun _=> .non
theorem Q6 {i j pos}:AE X G (.Constant (.str i) j pos) (aC (.str i)):=A2O pe_str fun _=> .str
def aFz (t:AT):D3:=fun env h Q=> t env h fun r env' h'=> match r with
  | .val w=> Q w env' h'
  | .own c=> Q c.fz env' h'
  | .slot i=> match env'[i]? with
    | some (some (.val w))=> Q w env' h'
    | some (some (.own c))=> Q c.fz (env'.set i (some (.val c.fz))) h'
    | _=> False
theorem aFz.mono {t:AT} (m:B3 t):B3 (aFz t):=fun env h Q Q' k q=> by
  refine m env h _ _ (fun r e g z=> ?_) q
  cases r with
  | val w=> exact k _ _ _ z
  | own c=> exact k _ _ _ z
  | slot i=>
    show match e[i]? with
      | some (some (.val w))=> Q' w e g
      | some (some (.own c))=> Q' c.fz (e.set i (some (.val c.fz))) g
      | _=> False
    have z:match e[i]? with
      | some (some (.val w))=> Q w e g
      | some (some (.own c))=> Q c.fz (e.set i (some (.val c.fz))) g
      | _=> False:=z
    split at z
    · exact k _ _ _ z
    · exact k _ _ _ z
    · exact z
theorem B59 {K:PySem.W.Frag} {H:Hp} {p:Addr} {c:Cont} (r:CRep K H p c) (hp:∃u,H p=some u∧Mu u):∃u,H p=some u∧Mu u∧∀od,Rep K (upd H p (.frz od u)) c.fz (.ref p):=by
  have keep:∀(u:HO) (od:Obj),H p=some u→Mu u→Keeps H (upd H p (.frz od u)):=fun u od e m q o e' i=> by
    have n:q≠p:=fun z=> by rw [z,e] at e';cases e';exact m.imm i
    rw [upd_ne n];exact e'
  cases c with
  | seq ws=>
    obtain ⟨vs,e,r⟩:=r
    refine ⟨_,e,trivial,fun od=> ?_⟩
    exact .lst ⟨od,upd_same⟩ (RepL.mono (keep _ od e trivial) _ _ r)
  | map kvs=>
    rcases r with ⟨ks,e,t,r⟩ | ⟨ks,e,t,r⟩
    · refine ⟨_,e,trivial,fun od=> ?_⟩
      show Rep K _ (.dct _ _) _
      simp only [Rep]
      exact ⟨p,rfl,.inl ⟨od,ks,upd_same,t,RepL.mono (keep _ od e trivial) _ _ r⟩⟩
    · refine ⟨_,e,trivial,fun od=> ?_⟩
      show Rep K _ (.dct _ _) _
      simp only [Rep]
      exact ⟨p,rfl,.inr ⟨od,ks,upd_same,t,RepL.mono (keep _ od e trivial) _ _ r⟩⟩
theorem BS.freeze {env env':A0} {h:AH} {σ:L2.St} {H:Hp} (S:BS G env h σ H) {p:Addr} {u:HO} (od:Obj) (e:H p=some u) (m:Mu u) (n:h p=none) (n0:G.H0 p=none)
    (len:env'.length=env.length)
    (v':∀(i:Nat) (w:W),env'[i]? =some (some (SV.val w))→env[i]? =some (some (SV.val w))∨∃v,σ[i]? =some (some v)∧Rep G.K (upd H p (.frz od u)) w v)
    (o':∀(i:Nat) (c:Cont),env'[i]? =some (some (SV.own c))→env[i]? =some (some (SV.own c))∧σ[i]? ≠some (some (V.ref p))):BS G env' h σ (upd H p (.frz od u)):=by
  have keep:Keeps H (upd H p (.frz od u)):=fun q o e' i=> by
    have n:q≠p:=fun z=> by rw [z,e] at e';cases e';exact m.imm i
    rw [upd_ne n];exact e'
  refine ⟨len.trans S.len,fun i w z=> ?_,fun i c z=> ?_,fun i j c c' q a b=> ?_,fun a o z=> ?_,fun q o z y t=> ?_,S.ext,fun q o z=> ?_,S.tabs.upd fun o z=> (by rw [e] at z;cases z;exact m)⟩
  · rcases v' i w z with z | z
    · obtain ⟨v,a,b⟩:=S.val i w z
      exact ⟨v,a,Rep.mono keep w v b⟩
    · exact z
  · obtain ⟨z,ne⟩:=o' i c z
    obtain ⟨q,a,b,d,f⟩:=S.own i c z
    have nq:q≠p:=fun y=> ne (by rw [a,y])
    exact ⟨q,a,b.mono keep (upd_ne nq),d,f⟩
  · exact S.uni i j c c' q (o' i c a).1 (o' j c' b).1
  · have na:a≠p:=fun y=> by rw [y,n] at z;cases z
    exact (S.hp a o z).mono keep (upd_ne na)
  · have nq:q≠p:=fun x=> by rw [x,n0] at z;cases z
    rw [upd_ne nq];exact S.fr q o z y t
  · by_cases hq:q=p
    · subst hq;exact ⟨_,upd_same⟩
    · obtain ⟨u',e'⟩:=S.tr q o z
      exact ⟨u',by rw [upd_ne hq];exact e'⟩
theorem Xt.freeze {env env' env2:A0} {h h':AH} {σ:L2.St} {H H1:Hp} {p:Addr} {u:HO} {od:Obj} (x:Xt env h σ H env' h' H1) (e:H1 p=some u) (f:H p=none∨OwnAt env σ p)
    (sl:∀(i:Nat) (c:Cont),env2[i]? =some (some (SV.own c))→env'[i]? =some (some (SV.own c))):Xt env h σ H env2 h' (upd H1 p (.frz od u)):=by
  refine ⟨fun q o e n w t=> ?_,x.hn,fun q o e=> ?_,fun i c e=> x.sl i c (sl i c e)⟩
  · have nq:q≠p:=fun y=> by
      rcases f with f | f
      · rw [y,f] at e;cases e
      · exact w (y▸f)
    rw [upd_ne nq];exact x.fr q o e n w t
  · by_cases hq:q=p
    · subst hq;exact ⟨_,upd_same⟩
    · rw [upd_ne hq];exact x.th q o e
theorem A5P {env:A0} {i j:Nat} {sv sv':SV} (e:env[i]? =some (some sv)):(env.set i (some sv'))[j]? =if j=i then some (some sv') else env[j]? :=by
  have hi:i < env.length:=(List.getElem?_eq_some_iff.mp e).1
  by_cases hj:j=i
  · subst hj;rw [if_pos rfl,List.getElem?_set_self hi]
  · rw [if_neg hj,List.getElem?_set_ne (Ne.symm hj)]
theorem A9i {env env':A0} {h h':AH} {σ:L2.St} {H H1:Hp} {i:Nat} {c:Cont} {pins:List (Addr×Obj)} {s:Shared} (S:BS G env' h' σ H1) (x:Xt env h σ H env' h' H1) (I:Inv X pins σ H1 s) (e:env'[i]? =some (some (.own c))):
    ∃p H2,σ[i]? =some (some (V.ref p))∧Inv X pins σ H2 s∧BS G (env'.set i (some (.val c.fz))) h' σ H2∧Xt env h σ H (env'.set i (some (.val c.fz))) h' H2∧Rep G.K H2 c.fz (.ref p):=by
  obtain ⟨p,es,cr,n,n0⟩:=S.own i c e
  obtain ⟨u,eu,mu,fr⟩:=B59 cr cr.there
  obtain ⟨od,I2⟩:=I.lock eu mu.mut
  refine ⟨p,_,es,I2,S.freeze od eu mu n n0 (by simp) (fun j w z=> ?_) (fun j d z=> ?_),x.freeze eu (.inr ?_) (fun j d z=> ?_),fr od⟩
  · rw [A5P e] at z
    by_cases hj:j=i
    · rw [if_pos hj] at z
      cases z
      exact .inr ⟨_,hj▸es,fr od⟩
    · rw [if_neg hj] at z;exact .inl z
  · rw [A5P e] at z
    by_cases hj:j=i
    · rw [if_pos hj] at z;cases z
    · rw [if_neg hj] at z
      exact ⟨z,fun y=> hj (S.uni j i d c p z e y es)⟩
  · exact x.own ⟨i,c,e,es⟩
  · rw [A5P e] at z
    by_cases hj:j=i
    · rw [if_pos hj] at z;cases z
    · rw [if_neg hj] at z;exact z
theorem C01 {env env':A0} {h h':AH} {σ:L2.St} {H H1:Hp} {c:Cont} {v:V} {pins:List (Addr×Obj)} {s:Shared} (S:BS G env' h' σ H1) (x:Xt env h σ H env' h' H1) (I:Inv X pins σ H1 s) (r:RvRep G env' h' σ H1 (.own c) v) (f:R0 H (.own c) v):
    ∃H2,Inv X pins σ H2 s∧BS G env' h' σ H2∧Xt env h σ H env' h' H2∧Rep G.K H2 c.fz v:=by
  obtain ⟨p,ex,cr,n,n0,no⟩:=r
  obtain ⟨u,eu,mu,fr⟩:=B59 cr cr.there
  obtain ⟨od,I2⟩:=I.lock eu mu.mut
  subst ex
  exact ⟨_,I2,S.freeze od eu mu n n0 rfl (fun i w e=> .inl e) fun i c e=> ⟨e,fun y=> no ⟨i,c,e,y⟩⟩,x.freeze eu (.inl (f p rfl)) fun i c e=> e,fr od⟩
theorem A4 {e:Expr} {t:AT} (a:AE X G e t):AV X G e (aFz t):=by
  refine ⟨aFz.mono a.mono,⟨fun pins s σ H Q I ⟨env,h,S,q⟩=> ?_⟩⟩
  refine thn (a.pe.run pins s σ H (fun v H1=> ∃r env' h',BS G env' h' σ H1∧Xt env h σ H env' h' H1∧RvRep G env' h' σ H1 r v∧R0 H r v∧match r with
    | .val w=> ∀v H',BS G env' h' σ H'→Xt env h σ H env' h' H'→Rep G.K H' w v→Q v H'
    | .own c=> ∀v H',BS G env' h' σ H'→Xt env h σ H env' h' H'→Rep G.K H' c.fz v→Q v H'
    | .slot i=> match env'[i]? with
      | some (some (.val w))=> ∀v H',BS G env' h' σ H'→Xt env h σ H env' h' H'→Rep G.K H' w v→Q v H'
      | some (some (.own c))=> ∀v H',BS G (env'.set i (some (.val c.fz))) h' σ H'→Xt env h σ H (env'.set i (some (.val c.fz))) h' H'→Rep G.K H' c.fz v→Q v H'
      | _=> False) I ⟨env,h,S,a.mono env h _ _ (fun r env' h' z v H1 S1 x1 r1 f1=> ⟨r,env',h',S1,x1,r1,f1,z⟩) q⟩) fun v s1 ⟨x,H1,I1,r1,r,env',h',S1,x1,rr,f1,z⟩=> ?_
  cases r with
  | val w=> exact ⟨x,H1,I1,r1,z x H1 S1 x1 rr⟩
  | own c=>
    obtain ⟨H2,I2,S2,x2,r2⟩:=C01 S1 x1 I1 rr f1
    exact ⟨x,H2,I2,r1,z x H2 S2 x2 r2⟩
  | slot i=>
    have es:σ[i]? =some (some x):=rr
    have z:match env'[i]? with
      | some (some (.val w))=> ∀v H',BS G env' h' σ H'→Xt env h σ H env' h' H'→Rep G.K H' w v→Q v H'
      | some (some (.own c))=> ∀v H',BS G (env'.set i (some (.val c.fz))) h' σ H'→Xt env h σ H (env'.set i (some (.val c.fz))) h' H'→Rep G.K H' c.fz v→Q v H'
      | _=> False:=z
    split at z
    · rename_i w e
      obtain ⟨u,e3,r⟩:=S1.val i w e
      rw [es] at e3;cases e3
      exact ⟨x,H1,I1,r1,z x H1 S1 x1 r⟩
    · rename_i c e
      obtain ⟨p,H2,ep,I2,S2,x2,r2⟩:=A9i S1 x1 I1 e
      rw [es] at ep;cases ep
      exact ⟨_,H2,I2,r1,z _ H2 S2 x2 r2⟩
    · exact z.elim
def aNil:G2:=fun env h Q=> Q [] env h
def aCons (t:D3) (u:G2):G2:=fun env h Q=> t env h fun w env' h'=> u env' h' fun ws env2 h2=> Q (w::ws) env2 h2
theorem aNil.mono:B3 aNil:=fun env h Q Q' k q=> k _ _ _ q
theorem aCons.mono {t:D3} {u:G2} (m:B3 t) (n:B3 u):B3 (aCons t u):=fun env h Q Q' k q=> m env h _ _ (fun w e g z=> n e g _ _ (fun ws e2 g2 z2=> k _ _ _ z2) z) q
theorem N4:AA X G [] aNil:=⟨aNil.mono,PA.imp pa_nil fun σ H Q ⟨env,h,S,q⟩=> q [] H S .refl .nil⟩
theorem E9 {e:Expr} {es:List Expr} {t:D3} {u:G2} (a:AV X G e t) (b:AA X G es u) (hs:starEach (e::es) X.env=(false,eval e X.env)::starEach es X.env:=by rfl):AA X G (e::es) (aCons t u):=by
  refine ⟨aCons.mono a.mono b.mono,PA.imp (pa_cons a.pe b.pa hs) fun σ H Q ⟨env,h,S,q⟩=> ?_⟩
  refine ⟨env,h,S,a.mono env h _ _ (fun w env1 h1 z v H1 S1 x1 r1=> ?_) q⟩
  refine ⟨env1,h1,S1,b.mono env1 h1 _ _ (fun ws env2 h2 z vs H2 S2 x2 r2=> ?_) z⟩
  exact z (v::vs) H2 S2 (x1.trans x2) (.cons (Rep.mono (x2.keeps S1) w v r1) r2)
def aTup (t:G2):AT:=fun env h Q=> t env h fun ws env' h'=> ws.length≤sizeLine∧Q (.val (.tup ws)) env' h'
def aLst (t:G2):AT:=fun env h Q=> t env h fun ws env' h'=> ws.length≤sizeLine∧Q (.own (.seq ws)) env' h'
theorem aTup.mono {t:G2} (m:B3 t):B3 (aTup t):=fun env h Q Q' k q=> m env h _ _ (fun ws e g z=> ⟨z.1,k _ _ _ z.2⟩) q
theorem aLst.mono {t:G2} (m:B3 t):B3 (aLst t):=fun env h Q Q' k q=> m env h _ _ (fun ws e g z=> ⟨z.1,k _ _ _ z.2⟩) q
section
variable {env:A0} {h:AH} {σ:L2.St} {H:Hp}
theorem BS.noAt (S:BS G env h σ H) {p:Addr} (n:H p=none):h p=none∧G.H0 p=none∧¬OwnAt env σ p:=by
  refine ⟨?_,?_,fun ⟨i,c,e1,e2⟩=> ?_⟩
  · cases q:h p with
    | none=> rfl
    | some u=> obtain ⟨o,e,_⟩:=(S.hp p u q).there;rw [n] at e;cases e
  · cases q:G.H0 p with
    | none=> rfl
    | some o=> obtain ⟨u,e⟩:=S.tr p o q;rw [n] at e;cases e
  · obtain ⟨q,e3,cr,_⟩:=S.own i c e1
    rw [e2] at e3;cases e3
    obtain ⟨o,e,_⟩:=cr.there;rw [n] at e;cases e
theorem A0o {es:List Expr} {t:G2} {x1 pos} (a:AA X G es t):AE X G (.Tuple es x1 pos) (aTup t):=by
  refine ⟨aTup.mono a.mono,PE.imp (pe_tup a.pa) fun σ H Q ⟨env,h,S,q⟩=> ?_⟩
  refine ⟨env,h,S,a.mono env h _ _ (fun ws env1 h1 z vs H1 S1 x1 r1=> ⟨by rw [←r1.length];exact z.1,fun p n=> ?_⟩) q⟩
  have nw:New H1 (upd H1 p (.tup vs)):=New.upd n
  exact z.2 (.ref p) _ (nw.bs S1) (x1.trans nw.xt) (.tup (.inl upd_same) (RepL.mono nw.keeps _ _ r1)) trivial
theorem Xt.fresh {env env':A0} {h':AH} {H':Hp} (x:Xt env h σ H env' h' H') {p:Addr} (n:H' p=none):H p=none:=by
  cases q:H p with
  | none=> rfl
  | some o=> obtain ⟨u,e⟩:=x.th p o q;rw [n] at e;cases e
theorem B0D {env env1:A0} {h h1:AH} {σ:L2.St} {H H1:Hp} {p:Addr} {o:HO} {c:Cont} (S:BS G env1 h1 σ H1) (x:Xt env h σ H env1 h1 H1) (n:H1 p=none) (r:New H1 (upd H1 p o)→CRep G.K (upd H1 p o) p c):
    BS G env1 h1 σ (upd H1 p o)∧Xt env h σ H env1 h1 (upd H1 p o)∧RvRep G env1 h1 σ (upd H1 p o) (.own c) (.ref p)∧R0 H (.own c) (.ref p):=by
  have nw:New H1 (upd H1 p o):=New.upd n
  obtain ⟨a,b,d⟩:=S.noAt n
  exact ⟨nw.bs S,x.trans nw.xt,⟨p,rfl,r nw,a,b,d⟩,fun q e=> by cases e;exact x.fresh n⟩
theorem V0 {es:List Expr} {t:G2} {pos} (a:AA X G es t):AE X G (.List es pos) (aLst t):=by
  refine ⟨aLst.mono a.mono,PE.imp (pe_lst a.pa) fun σ H Q ⟨env,h,S,q⟩=> ?_⟩
  refine ⟨env,h,S,a.mono env h _ _ (fun ws env1 h1 z vs H1 S1 x1 r1=> ⟨by rw [←r1.length];exact z.1,fun p n=> ?_⟩) q⟩
  obtain ⟨S2,x2,r2,f2⟩:=B0D S1 x1 n (o:= .lst vs) (c:= .seq ws) fun nw=> ⟨vs,upd_same,RepL.mono nw.keeps _ _ r1⟩
  exact z.2 _ _ S2 x2 r2 f2
end
end
end Ab
namespace Ab
open PySem PySem.Spec PyProof.Rows L2
def Vw.seq:Vw→Option (List W)
  | .wv (.lst xs)=> some xs
  | .cv (.seq xs)=> some xs
  | _=> none
def Vw.tpl:Vw→Option (List W)
  | .wv (.tup xs)=> some xs
  | _=> none
section
variable {K:PySem.W.Frag} {H:Hp} {a:Vw} {v:V} {xs:List W}
theorem VR.seq (r:VR K H a v) (e:a.seq=some xs):∃p vs,v= .ref p∧Rd H p (.lst vs)∧RepL K H xs vs:=by
  cases a with
  | wv w=>
    cases w with
    | lst ys=>
      cases e
      obtain ⟨p,vs,e1,⟨o,l⟩,r⟩:=Rep.of_lst r
      exact ⟨p,vs,e1,.inr ⟨o,l⟩,r⟩
    | _=> cases e
  | cv c=>
    cases c with
    | seq ys=>
      cases e
      obtain ⟨p,e1,vs,l,r⟩:=r
      exact ⟨p,vs,e1,.inl l,r⟩
    | map _=> cases e
  | bad=> cases e
theorem VR.tplT (r:VR K H a v) (e:a.tpl=some xs):∃p vs,v= .ref p∧TqT K H p vs∧RepL K H xs vs:=by
  cases a with
  | wv w=>
    cases w with
    | tup ys=> cases e;exact Rep.of_tupT r
    | _=> cases e
  | _=> cases e
theorem VR.tpl (r:VR K H a v) (e:a.tpl=some xs):∃p vs,v= .ref p∧SqT K H p vs∧RepL K H xs vs:=let ⟨p,vs,e,s,r⟩:=r.tplT e;⟨p,vs,e,s.sq,r⟩
theorem VR.int {i:Int} (r:VR K H (.wv (.int i)) v):v= .int i:=Rep.of_int (K:=K) (H:=H) r
theorem VR.str {i:Str} (r:VR K H (.wv (.str i)) v):v= .str i:=Rep.of_str (K:=K) (H:=H) r
theorem VR.bl {i:Bool} (r:VR K H (.wv (.bl i)) v):v= .bl i:=Rep.of_bl (K:=K) (H:=H) r
theorem VR.non (r:VR K H (.wv .non) v):v= .non:=Rep.of_non (K:=K) (H:=H) r
end
def OutR (K:PySem.W.Frag) (H:Hp) (Q:RV→Prop) (v:V) (H':Hp):Prop:=
  (H'=H∧∃w,Q (.val w)∧Rep K H w v)∨∃p o,H p=none∧H'=upd H p o∧v= .ref p∧((∃w,Q (.val w)∧Rep K H' w v)∨∃c,Q (.own c)∧CRep K H' p c)
theorem OutR.val {K:PySem.W.Frag} {H:Hp} {Q:RV→Prop} {w:W} {v:V} (q:Q (.val w)) (r:Rep K H w v):OutR K H Q v H:= .inl ⟨rfl,w,q,r⟩
theorem OutR.tup {K:PySem.W.Frag} {H:Hp} {Q:RV→Prop} {ws:List W} {vs:List V} {p:Addr} (n:H p=none) (q:Q (.val (.tup ws))) (r:RepL K H ws vs):OutR K H Q (.ref p) (upd H p (.tup vs)):=
  .inr ⟨p,_,n,rfl,rfl,.inl ⟨_,q,.tup (.inl upd_same) (RepL.mono (New.upd n).keeps _ _ r)⟩⟩
theorem OutR.lst {K:PySem.W.Frag} {H:Hp} {Q:RV→Prop} {ws:List W} {vs:List V} {p:Addr} (n:H p=none) (q:Q (.own (.seq ws))) (r:RepL K H ws vs):OutR K H Q (.ref p) (upd H p (.lst vs)):=
  .inr ⟨p,_,n,rfl,rfl,.inr ⟨_,q,vs,upd_same,RepL.mono (New.upd n).keeps _ _ r⟩⟩
section
variable {G:Gx} {env env1:A0} {h h1:AH} {σ:L2.St} {H H1 H2:Hp}
theorem OutR.end {Q0:RV→Prop} {v:V} (S:BS G env1 h1 σ H1) (x:Xt env h σ H env1 h1 H1) (o:OutR G.K H1 Q0 v H2):
    ∃r,Q0 r∧BS G env1 h1 σ H2∧Xt env h σ H env1 h1 H2∧RvRep G env1 h1 σ H2 r v∧R0 H r v:=by
  rcases o with ⟨rfl,w,q,r⟩ | ⟨p,o,n,rfl,rfl,⟨w,q,r⟩ | ⟨c,q,r⟩⟩
  · exact ⟨_,q,S,x,r,trivial⟩
  · have nw:New H1 (upd H1 p o):=New.upd n
    exact ⟨_,q,nw.bs S,x.trans nw.xt,r,trivial⟩
  · obtain ⟨a,b,c,d⟩:=B0D S x n fun _=> r
    exact ⟨_,q,a,b,c,d⟩
end
abbrev M5:=Vw→Vw→(RV→Prop)→Prop
structure OpA (K:PySem.W.Frag) (r:R2) (o:M5):Prop where
  mono:∀a b Q Q',(∀r,Q r→Q' r)→o a b Q→o a b Q'
  ok:∀a b x y H Q0 Q,VR K H a x→VR K H b y→o a b Q0→(∀v H',OutR K H Q0 v H'→Q v H')→r x y H Q
def aOp2 (o:M5) (ta tb:AT):AT:=fun env h Q=> ta env h fun rx env1 h1=> tb env1 h1 fun ry env2 h2=> o (view env2 h2 rx) (view env2 h2 ry) fun r=> Q r env2 h2
theorem aOp2.mono {K:PySem.W.Frag} {r:R2} {o:M5} (oa:OpA K r o) {ta tb:AT} (a:B3 ta) (b:B3 tb):B3 (aOp2 o ta tb):=fun env h Q Q' k q=>
  a env h _ _ (fun rx e g z=> b e g _ _ (fun ry e2 g2 z2=> oa.mono _ _ _ _ (fun r z3=> k _ _ _ z3) z2) z) q
section
variable {X:Cx} {G:Gx}
theorem A7k {ta tb:AT} {o:M5} {r:R2} (ma:B3 ta) (mb:B3 tb) (oa:OpA G.K r o) {σ:L2.St} {H:Hp} {Q:VK} (q:cE G (aOp2 o ta tb) σ H Q):tOp r (cE G ta) (cE G tb) σ H Q:=by
  obtain ⟨env,h,S,q⟩:=q
  refine ⟨env,h,S,ma env h _ _ (fun rx env1 h1 z x H1 S1 x1 r1 f1=> ?_) q⟩
  refine ⟨env1,h1,S1,mb env1 h1 _ _ (fun ry env2 h2 z2 y H2 S2 x2 r2 f2=> ?_) z⟩
  refine oa.ok _ _ _ _ _ _ _ ((r1.xt S1 x2).vr S2) (r2.vr S2) z2 fun v H3 out=> ?_
  obtain ⟨res,q0,S3,x3,r3,f3⟩:=out.end S2 (x1.trans x2)
  exact q0 v H3 S3 x3 r3 f3
theorem A3D {op:Operator} {r:R2} {o:M5} {a b:Expr} {ta tb:AT} {pos:Pos} (ho:OpR X (binaryOp op) r) (oa:OpA G.K r o) (ha:AE X G a ta) (hb:AE X G b tb):AE X G (.BinOp a op b pos) (aOp2 o ta tb):=
  ⟨aOp2.mono oa ha.mono hb.mono,PE.imp (pe_op ho ha.pe hb.pe) fun _ _ _ q=> A7k ha.mono hb.mono oa q⟩
theorem A5p {op:CmpOp} {r:R2} {o:M5} {a b:Expr} {ta tb:AT} {pos:Pos} (ho:OpR X (compareOp op) r) (oa:OpA G.K r o) (ha:AE X G a ta) (hb:AE X G b tb) (hm:behindInMarks op b=false):AE X G (.Compare a [op] [b] pos) (aOp2 o ta tb):=
  ⟨aOp2.mono oa ha.mono hb.mono,PE.imp (pe_cmpR ho ha.pe hb.pe hm) fun _ _ _ q=> A7k ha.mono hb.mono oa q⟩
end
theorem OpA.or {K:PySem.W.Frag} {r r':R2} {o o':M5} (a:OpA K r o) (b:OpA K r' o'):OpA K (fun x y H Q=> r x y H Q∨r' x y H Q) (fun x y Q=> o x y Q∨o' x y Q):=
  ⟨fun x y Q Q' k q=> q.elim (fun z=> .inl (a.mono x y Q Q' k z)) fun z=> .inr (b.mono x y Q Q' k z),fun x y u v H Q0 Q r1 r2 q k=> q.elim (fun z=> .inl (a.ok x y u v H Q0 Q r1 r2 z k)) fun z=> .inr (b.ok x y u v H Q0 Q r1 r2 z k)⟩
theorem OpA.as {K:PySem.W.Frag} {r:R2} {o o':M5} (a:OpA K r o) (i:∀x y Q,o' x y Q→o x y Q) (m:∀a b Q Q',(∀r,Q r→Q' r)→o' a b Q→o' a b Q'):OpA K r o':=⟨m,fun x y u v H Q0 Q r1 r2 q k=> a.ok x y u v H Q0 Q r1 r2 (i _ _ _ q) k⟩
def oII (C:Int→Int→Prop) (g:Int→Int→W):M5:=fun a b Q=> match a,b with
  | .wv (.int i),.wv (.int j)=> C i j∧Q (.val (g i j))
  | _,_=> False
theorem oII.mono {C:Int→Int→Prop} {g:Int→Int→W} (a b:Vw) (Q Q':RV→Prop) (k:∀r,Q r→Q' r) (q:oII C g a b Q):oII C g a b Q':=by
  unfold oII at q ⊢
  split at q
  · exact ⟨q.1,k _ q.2⟩
  · exact q.elim
theorem oII.get {C:Int→Int→Prop} {g:Int→Int→W} {a b:Vw} {Q:RV→Prop} (q:oII C g a b Q):∃i j,a= .wv (.int i)∧b= .wv (.int j)∧C i j∧Q (.val (g i j)):=by
  unfold oII at q
  split at q
  · exact ⟨_,_,rfl,rfl,q⟩
  · exact q.elim
theorem B0O {K:PySem.W.Frag} {C:Int→Int→Prop} {g:Int→Int→V} {g':Int→Int→W} (hg:∀H i j,Rep K H (g' i j) (g i j)):OpA K (rI C g) (oII C g'):=
  ⟨fun a b Q Q' k q=> oII.mono a b Q Q' k q,fun a b x y H Q0 Q ra rb q k=> by
    obtain ⟨i,j,rfl,rfl,c,q⟩:=q.get
    exact ⟨i,j,ra.int,rb.int,c,k _ _ (.val q (hg H i j))⟩⟩
theorem A3U {K:PySem.W.Frag} {g:Int→Int→V} {g':Int→Int→W} (hg:∀H i j,Rep K H (g' i j) (g i j)):OpA K (rI0 g) (oII (fun _ _=> True) g'):=
  ⟨fun a b Q Q' k q=> oII.mono a b Q Q' k q,fun a b x y H Q0 Q ra rb q k=> by
    obtain ⟨i,j,rfl,rfl,c,q⟩:=q.get
    exact ⟨i,j,ra.int,rb.int,k _ _ (.val q (hg H i j))⟩⟩
def B7S (_ j:Int):Prop:=0 < j
section
variable {X:Cx} {G:Gx} {a b:Expr} {ta tb:AT} {pos:Pos}
theorem B6j (ha:AE X G a ta) (hb:AE X G b tb):AE X G (.BinOp a .Sub b pos) (aOp2 (oII (fun _ _=> True) fun i j=> .int (i - j)) ta tb):=A3D op_sub (A3U fun _ _ _=> .int) ha hb
theorem A2v (ha:AE X G a ta) (hb:AE X G b tb):AE X G (.BinOp a .Mod b pos) (aOp2 (oII B7S fun i j=> .int (i % j)) ta tb):=A3D op_mod (B0O (C:=fun _ j=> 0 < j) fun _ _ _=> .int) ha hb
theorem B0K (ha:AE X G a ta) (hb:AE X G b tb):AE X G (.BinOp a .FloorDiv b pos) (aOp2 (oII CDivW fun i j=> .int (i / j)) ta tb):=A3D op_fdivW (B0O fun _ _ _=> .int) ha hb
theorem C6j (ha:AE X G a ta) (hb:AE X G b tb):AE X G (.Compare a [.Gt] [b] pos) (aOp2 (oII (fun _ _=> True) fun i j=> .bl (decide (j < i))) ta tb):=A5p op_gt (A3U fun _ _ _=> .bl) ha hb (nomark _)
end
end Ab
namespace Ab
open PySem PySem.Spec PyProof.Rows L2
section
variable {X:Cx}
theorem B1J {pins:List (Addr×Obj)} {σ:L2.St} {H:Hp} {s:Shared} {l:Addr} {xs:List V} (I:Inv X pins σ H s) (r:Rd H l (.lst xs)):
    xs.length≤sizeLine∧∃(us:List Value) (n:Nat),Vals xs us∧s.heap.get? l=some { cls:= .type "list",data:= .seq us.toArray n }:=r.ok I.hok
def B6m:R2:=fun x y H Q=> ∃l b xs zs,x= .ref l∧y= .ref b∧Rd H l (.lst xs)∧Rd H b (.lst zs)∧xs.length+zs.length≤sizeLine∧∀p,H p=none→Q (.ref p) (upd H p (.lst (xs++zs)))
theorem C4P:OpR X (binaryOp .Add) B6m:=fun pins s σ H x y v u Q I rx ry h=> by
  obtain ⟨l,b,xs,zs,rfl,rfl,h1,h2,hz,q⟩:=h
  obtain rfl:v= .ref l:=rx
  obtain rfl:u= .ref b:=ry
  obtain ⟨_,us,n,r1,e1⟩:=B1J I h1
  obtain ⟨_,ws,m,r2,e2⟩:=B1J I h2
  have z:us.toArray.size+ws.toArray.size≤sizeLine:=by
    rw [List.size_toArray,List.size_toArray,←r1.length,←r2.length];exact hz
  have w:=r1.append r2
  refine PySem.P.add_list e1 e2 ?_ z
  rw [show us.toArray++ws.toArray=(us++ws).toArray from by simp]
  refine ⟨.ref _,_,I.lnew (t':=s.toks) w ?_,rfl,q _ I.fresh⟩
  rw [List.length_append];exact hz
end
def B7Y:M5:=fun a b Q=> ∃xs ys,a.seq=some xs∧b.seq=some ys∧xs.length+ys.length≤sizeLine∧Q (.own (.seq (xs++ys)))
theorem C3q {K:PySem.W.Frag}:OpA K B6m B7Y:=
  ⟨fun a b Q Q' k ⟨xs,ys,e,f,z,q⟩=> ⟨xs,ys,e,f,z,k _ q⟩,fun a b x y H Q0 Q ra rb q k=> by
    obtain ⟨xs,ys,e,f,z,q⟩:=q
    obtain ⟨p,vs,rfl,d1,r1⟩:=ra.seq e
    obtain ⟨p',us,rfl,d2,r2⟩:=rb.seq f
    exact ⟨p,p',vs,us,rfl,rfl,d1,d2,by rw [←r1.length,←r2.length];exact z,fun l n=> k _ _ (.lst n q (r1.append r2))⟩⟩
def B7L:M5:=fun a b Q=> ∃xs ys,a.tpl=some xs∧b.tpl=some ys∧xs.length+ys.length≤sizeLine∧Q (.val (.tup (xs++ys)))
theorem C1v {K:PySem.W.Frag}:OpA K (rCatA K) B7L:=
  ⟨fun a b Q Q' k ⟨xs,ys,e,f,z,q⟩=> ⟨xs,ys,e,f,z,k _ q⟩,fun a b x y H Q0 Q ra rb q k=> by
    obtain ⟨xs,ys,e,f,z,q⟩:=q
    obtain ⟨p,vs,rfl,d1,r1⟩:=ra.tplT e
    obtain ⟨p',us,rfl,d2,r2⟩:=rb.tplT f
    refine ⟨p,p',vs,us,rfl,rfl,d1.sq,d2.sq,by rw [←r1.length,←r2.length];exact z,fun h0=> ?_,fun _ h0=> ?_,fun _ _ l n=> k _ _ (.tup n q (r1.append r2))⟩
    · have e0:xs=[]:=List.eq_nil_of_length_eq_zero (by rw [r1.length,h0];rfl)
      subst e0
      exact k _ _ (.val q (.tup d2 r2))
    · have e0:ys=[]:=List.eq_nil_of_length_eq_zero (by rw [r2.length,h0];rfl)
      subst e0
      rw [List.append_nil] at q
      exact k _ _ (.val q (.tup d1 r1))⟩
def A8p:M5:=fun a b Q=> match a,b with
  | .wv (.str x),.wv (.str y)=> x.length+y.length≤sizeLine∧Q (.val (.str (x++y)))
  | _,_=> False
theorem C2n {K:PySem.W.Frag}:OpA K (fun x y H Q=> ∃i j,x= .str i∧y= .str j∧i.length+j.length≤sizeLine∧Q (.str (i++j)) H) A8p:=
  ⟨fun a b Q Q' k q=> by
    unfold A8p at q ⊢
    split at q
    · exact ⟨q.1,k _ q.2⟩
    · exact q.elim,fun a b x y H Q0 Q ra rb q k=> by
    unfold A8p at q
    split at q
    · exact ⟨_,_,ra.str,rb.str,q.1,k _ _ (.val q.2 .str)⟩
    · exact q.elim⟩
def oAdd:M5:=fun a b Q=> match a,b with
  | .wv (.int i),.wv (.int j)=> Q (.val (.int (i+j)))
  | .wv (.str x),.wv (.str y)=> x.length+y.length≤sizeLine∧Q (.val (.str (x++y)))
  | .wv (.tup xs),.wv (.tup ys)=> xs.length+ys.length≤sizeLine∧Q (.val (.tup (xs++ys)))
  | .wv (.lst xs),.wv (.lst ys)=> xs.length+ys.length≤sizeLine∧Q (.own (.seq (xs++ys)))
  | .wv (.lst xs),.cv (.seq ys)=> xs.length+ys.length≤sizeLine∧Q (.own (.seq (xs++ys)))
  | .cv (.seq xs),.wv (.lst ys)=> xs.length+ys.length≤sizeLine∧Q (.own (.seq (xs++ys)))
  | .cv (.seq xs),.cv (.seq ys)=> xs.length+ys.length≤sizeLine∧Q (.own (.seq (xs++ys)))
  | _,_=> False
theorem oAdd.as (a b:Vw) (Q:RV→Prop) (q:oAdd a b Q):((oII (fun _ _=> True) (fun i j=> .int (i+j)) a b Q∨A8p a b Q)∨B7L a b Q)∨B7Y a b Q:=by
  unfold oAdd at q
  split at q
  · exact .inl (.inl (.inl ⟨trivial,q⟩))
  · exact .inl (.inl (.inr q))
  · exact .inl (.inr ⟨_,_,rfl,rfl,q⟩)
  · exact .inr ⟨_,_,rfl,rfl,q⟩
  · exact .inr ⟨_,_,rfl,rfl,q⟩
  · exact .inr ⟨_,_,rfl,rfl,q⟩
  · exact .inr ⟨_,_,rfl,rfl,q⟩
  · exact q.elim
theorem oAdd.mono (a b:Vw) (Q Q':RV→Prop) (k:∀r,Q r→Q' r) (q:oAdd a b Q):oAdd a b Q':=by
  unfold oAdd at q ⊢
  split at q <;> first | exact ⟨q.1,k _ q.2⟩ | exact k _ q | exact q.elim
section
variable {X:Cx} {G:Gx} {a b c:Expr} {ta tb tc:AT} {pos:Pos}
theorem Q1 (gk:G.K=X.K) (ha:AE X G a ta) (hb:AE X G b tb):AE X G (.BinOp a .Add b pos) (aOp2 oAdd ta tb):=
  A3D (((op_add.or op_add_str).or op_catA).or C4P) ((((A3U fun _ _ _=> .int).or C2n).or (gk▸C1v)).or C3q |>.as (o':=oAdd) oAdd.as oAdd.mono) ha hb
end
mutual
def W.pd:W→PyData
  | .non=> .none
  | .bl b=> .bool b
  | .int i=> .int i
  | .str x=> .str x
  | .tup xs=> .tuple (W.pds xs)
  | .lst xs=> .list (W.pds xs)
  | .dct _ _=> .none
  | .ref _=> .none
  | .ty _=> .none
def W.pds:List W→List PyData
  | []=> []
  | x::xs=> x.pd::W.pds xs
end
def W.dat:Nat→W→Bool
  | _,.non=> true
  | _,.bl _=> true
  | _,.int _=> true
  | _,.str _=> true
  | n+1,.tup xs=> xs.all (W.dat n)
  | n+1,.lst xs=> xs.all (W.dat n)
  | _,_=> false
theorem W.depth_all {n:Nat}:∀xs:List W,(∀x∈xs,x.pd.depth≤n)→PyData.depthAll (W.pds xs)≤n
  | [],_=> Nat.zero_le _
  | x::xs,h=> by
    simp only [W.pds,PyData.depthAll]
    exact Nat.max_le.mpr ⟨h x List.mem_cons_self,W.depth_all xs fun y hy=> h y (List.mem_cons_of_mem _ hy)⟩
theorem W.dat_depth:∀(n:Nat) (w:W),w.dat n=true→w.pd.depth≤n
  | _,.non,_=> by simp only [W.pd,PyData.depth];omega
  | _,.bl _,_=> by simp only [W.pd,PyData.depth];omega
  | _,.int _,_=> by simp only [W.pd,PyData.depth];omega
  | _,.str _,_=> by simp only [W.pd,PyData.depth];omega
  | 0,.tup _,h=> by simp [W.dat] at h
  | 0,.lst _,h=> by simp [W.dat] at h
  | n+1,.tup xs,h=> by
    simp only [W.pd,PyData.depth]
    have z:=W.depth_all xs fun x hx=> W.dat_depth n x (List.all_eq_true.mp (by simpa only [W.dat] using h) x hx)
    omega
  | n+1,.lst xs,h=> by
    simp only [W.pd,PyData.depth]
    have z:=W.depth_all xs fun x hx=> W.dat_depth n x (List.all_eq_true.mp (by simpa only [W.dat] using h) x hx)
    omega
  | n,.dct _ _,h=> by simp [W.dat] at h
  | n,.ref _,h=> by simp [W.dat] at h
  | n,.ty _,h=> by simp [W.dat] at h
mutual
theorem W.pd_plain:∀w:W,w.pd.plain=true
  | .non=> rfl
  | .bl _=> rfl
  | .int _=> rfl
  | .str _=> rfl
  | .tup xs=> by simp only [W.pd,PyData.plain];exact W.pds_plain xs
  | .lst xs=> by simp only [W.pd,PyData.plain];exact W.pds_plain xs
  | .dct _ _=> rfl
  | .ref _=> rfl
  | .ty _=> rfl
theorem W.pds_plain:∀ws:List W,PyData.plainAll (W.pds ws)=true
  | []=> rfl
  | w::ws=> by simp only [W.pds,PyData.plainAll,Bool.and_eq_true];exact ⟨W.pd_plain w,W.pds_plain ws⟩
end
section
variable {K:PySem.W.Frag} {H:Hp}
theorem u6 {a:Addr} {vs:List V} (h:Rd H a (.lst vs)):SqL K H a vs:= .inl h
theorem RepL.dp {n:Nat} (ih:∀(w:W) (v:V),Rep K H w v→w.dat n=true→Dp K H v w.pd):∀(ws:List W) (vs:List V),RepL K H ws vs→ws.all (W.dat n)=true→DpAll K H vs (W.pds ws)
  | [],vs,r,_=> by rw [r.of_nil];exact .nil
  | w::ws,vs,r,d=> by
    obtain ⟨v,t,rfl,a,b⟩:=r.of_cons
    rw [List.all_cons,Bool.and_eq_true] at d
    exact .cons (ih w v a d.1) (RepL.dp ih ws t b d.2)
theorem Rep.dp:∀(n:Nat) (w:W) (v:V),Rep K H w v→w.dat n=true→Dp K H v w.pd
  | _,.non,_,r,_=> by rw [Rep.of_non (K:=K) (H:=H) r];exact .non
  | _,.bl _,_,r,_=> by rw [Rep.of_bl (K:=K) (H:=H) r];exact .bl _
  | _,.int _,_,r,_=> by rw [Rep.of_int (K:=K) (H:=H) r];exact .int _
  | _,.str _,_,r,_=> by rw [Rep.of_str (K:=K) (H:=H) r];exact .str _
  | n+1,.tup xs,v,r,d=> by
    obtain ⟨a,vs,rfl,s,r⟩:=Rep.of_tup r
    simp only [W.pd]
    exact .tup s (RepL.dp (Rep.dp n) xs vs r (by simpa only [W.dat] using d))
  | n+1,.lst xs,v,r,d=> by
    obtain ⟨a,vs,rfl,⟨o,s⟩,r⟩:=Rep.of_lst r
    simp only [W.pd]
    exact .lst (u6 (.inr ⟨o,s⟩)) (RepL.dp (Rep.dp n) xs vs r (by simpa only [W.dat] using d))
  | 0,.tup _,_,_,d=> by simp [W.dat] at d
  | 0,.lst _,_,_,d=> by simp [W.dat] at d
  | _,.dct _ _,_,_,d=> by simp [W.dat] at d
  | _,.ref _,_,_,d=> by simp [W.dat] at d
  | _,.ty _,_,_,d=> by simp [W.dat] at d
end
theorem VR.dp {K:PySem.W.Frag} {H:Hp} {a:Vw} {v:V} {n:Nat} (r:VR K H a v) (d:a.toW.dat n=true) (nb:a≠ .bad):Dp K H v a.toW.pd:=by
  cases a with
  | wv w=> exact Rep.dp n w v r d
  | bad=> exact absurd rfl nb
  | cv c=>
    cases c with
    | map kvs=> simp [Vw.toW,Cont.fz,W.dat] at d
    | seq ws=>
      obtain ⟨p,rfl,vs,e,r⟩:=r
      have d:(W.lst ws).dat n=true:=d
      cases n with
      | zero=> simp [W.dat] at d
      | succ n=>
        simp only [W.dat] at d
        show Dp K H _ (W.lst ws).pd
        simp only [W.pd]
        exact .lst (u6 (.inl e)) (RepL.dp (Rep.dp n) ws vs r d)
def N3 (a b:W):Bool:=PyData.eqv a.pd b.pd
def Vw.ok:Vw→Bool
  | .bad=> false
  | v=> v.toW.dat 60
theorem Vw.of_ok {a:Vw} (h:a.ok=true):a.toW.dat 60=true∧a≠ .bad:=by
  cases a with
  | bad=> cases h
  | wv w=> exact ⟨h,fun z=> nomatch z⟩
  | cv c=> exact ⟨h,fun z=> nomatch z⟩
def D6 (neg:Bool):M5:=fun a b Q=> a.ok=true∧b.ok=true∧Q (.val (.bl (if neg then !N3 a.toW b.toW else N3 a.toW b.toW)))
def B17 (K:PySem.W.Frag) (neg:Bool):R2:=fun x y H Q=> ∃d e,Dp K H x d∧Dp K H y e∧d.plain=true∧e.plain=true∧d.depth≤60∧Q (.bl (if neg then !PyData.eqv d e else PyData.eqv d e)) H
theorem B0y {K:PySem.W.Frag} {neg:Bool}:OpA K (B17 K neg) (D6 neg):=
  ⟨fun a b Q Q' k ⟨x,y,q⟩=> ⟨x,y,k _ q⟩,fun a b x y H Q0 Q ra rb ⟨da,db,q⟩ k=>
    ⟨_,_,ra.dp (Vw.of_ok da).1 (Vw.of_ok da).2,rb.dp (Vw.of_ok db).1 (Vw.of_ok db).2,W.pd_plain _,W.pd_plain _,W.dat_depth _ _ (Vw.of_ok da).1,k _ _ (.val q .bl)⟩⟩
section
variable {X:Cx} {G:Gx} {a b c:Expr} {ta tb tc:AT} {pos:Pos}
theorem B6e (hu:X.A.units+64 < cLine):OpR X (compareOp .Eq) (B17 X.K false):=fun pins s σ H x y v u Q I rx ry ⟨d,e,hd,he,pd,pe,dp,q⟩=> by
  obtain ⟨as,r1⟩:=Dp.reads I d x v hd rx
  obtain ⟨bs,r2⟩:=Dp.reads I e y u he ry
  have z:=Nat.min_le_left d.depth e.depth
  exact SeqAt.eq_plain r1 r2 pd pe (by omega) ⟨.bl _,H,I,rfl,q⟩
theorem C4p (hu:X.A.units+64 < cLine):OpR X (compareOp .NotEq) (B17 X.K true):=fun pins s σ H x y v u Q I rx ry ⟨d,e,hd,he,pd,pe,dp,q⟩=> by
  obtain ⟨as,r1⟩:=Dp.reads I d x v hd rx
  obtain ⟨bs,r2⟩:=Dp.reads I e y u he ry
  have z:=Nat.min_le_left d.depth e.depth
  exact SeqAt.ne_plain r1 r2 pd pe (by omega) ⟨.bl _,H,I,rfl,q⟩
theorem A30 (gk:G.K=X.K) (hu:X.A.units+64 < cLine) (ha:AE X G a ta) (hb:AE X G b tb):AE X G (.Compare a [.Eq] [b] pos) (aOp2 (D6 false) ta tb):=A5p (B6e hu) (gk▸B0y) ha hb (nomark _)
end
end Ab
namespace Ab
open PySem PySem.Spec PyProof.Rows L2
def Vw.isNon:Vw→Bool
  | .wv .non=> true
  | _=> false
def N5 (neg:Bool):M5:=fun a b Q=> b= .wv .non∧a≠ .bad∧Q (.val (.bl (if neg then !a.isNon else a.isNon)))
theorem VR.isN {K:PySem.W.Frag} {H:Hp}:∀{a:Vw} {v:V},VR K H a v→a≠ .bad→decide (v= .non)=a.isNon
  | .bad,_,_,nb=> absurd rfl nb
  | .cv c,v,r,_=> by obtain ⟨p,e,_⟩:=r;subst e;rfl
  | .wv .non,v,r,_=> by have e:=r.non;subst e;rfl
  | .wv (.bl b),v,r,_=> by have e:=r.bl;subst e;rfl
  | .wv (.int b),v,r,_=> by have e:=r.int;subst e;rfl
  | .wv (.str b),v,r,_=> by have e:=r.str;subst e;rfl
  | .wv (.tup b),v,r,_=> by obtain ⟨p,vs,e,_⟩:=Rep.of_tup (K:=K) (H:=H) r;subst e;rfl
  | .wv (.lst b),v,r,_=> by obtain ⟨p,vs,e,_⟩:=Rep.of_lst (K:=K) (H:=H) r;subst e;rfl
  | .wv (.ref a),v,r,_=> by have e:=Rep.of_ref (K:=K) (H:=H) r;subst e;rfl
  | .wv (.ty a),v,r,_=> by have e:=Rep.of_ty (K:=K) (H:=H) r;subst e;rfl
  | .wv (.dct ks vs),v,r,_=> by
    have z:Rep K H (.dct ks vs) v:=r
    simp only [Rep] at z
    obtain ⟨p,e,_⟩:=z;subst e;rfl
theorem B51 {K:PySem.W.Frag}:OpA K (fun x y H Q=> y= .non∧Q (.bl (decide (x= .non))) H) (N5 false):=
  ⟨fun a b Q Q' k ⟨x,y,q⟩=> ⟨x,y,k _ q⟩,fun a b x y H Q0 Q ra rb ⟨e,nb,q⟩ k=> by
    subst e
    refine ⟨rb.non,k _ _ (.val q ?_)⟩
    rw [ra.isN nb]
    exact .bl⟩
theorem C2g {K:PySem.W.Frag}:OpA K (fun x y H Q=> y= .non∧Q (.bl (!decide (x= .non))) H) (N5 true):=
  ⟨fun a b Q Q' k ⟨x,y,q⟩=> ⟨x,y,k _ q⟩,fun a b x y H Q0 Q ra rb ⟨e,nb,q⟩ k=> by
    subst e
    refine ⟨rb.non,k _ _ (.val q ?_)⟩
    rw [ra.isN nb]
    exact .bl⟩
def Vw.items:Vw→Option (List W)
  | .wv (.lst xs)=> some xs
  | .wv (.tup xs)=> some xs
  | .cv (.seq xs)=> some xs
  | _=> none
theorem VR.itemsT {K:PySem.W.Frag} {H:Hp} {a:Vw} {v:V} {xs:List W} (r:VR K H a v) (e:a.items=some xs):∃p vs,v= .ref p∧(Rd H p (.lst vs)∨TqT K H p vs)∧RepL K H xs vs:=by
  cases a with
  | bad=> cases e
  | cv c=>
    cases c with
    | map _=> cases e
    | seq ws=> obtain ⟨p,vs,a,b,c⟩:=r.seq e;exact ⟨p,vs,a,.inl b,c⟩
  | wv w=>
    cases w with
    | lst ws=> obtain ⟨p,vs,a,b,c⟩:=r.seq e;exact ⟨p,vs,a,.inl b,c⟩
    | tup ws=> obtain ⟨p,vs,a,b,c⟩:=r.tplT e;exact ⟨p,vs,a,.inr b,c⟩
    | _=> cases e
theorem VR.items {K:PySem.W.Frag} {H:Hp} {a:Vw} {v:V} {xs:List W} (r:VR K H a v) (e:a.items=some xs):∃p vs,v= .ref p∧(Rd H p (.lst vs)∨SqT K H p vs)∧RepL K H xs vs:=let ⟨p,vs,q,s,r⟩:=r.itemsT e;⟨p,vs,q,s.imp id TqT.sq,r⟩
def p8 (x:W) (xs:List W):Bool:=xs.any fun y=> N3 y x
def O7 (neg:Bool):M5:=fun a b Q=> ∃xs,b.items=some xs∧a.ok=true∧xs.all (W.dat 60)=true∧Q (.val (.bl (if neg then !p8 a.toW xs else p8 a.toW xs)))
def B1t (K:PySem.W.Frag) (neg:Bool):R2:=fun x y H Q=> ∃p vs d ds,y= .ref p∧(SqL K H p vs∨SqT K H p vs)∧Dp K H x d∧DpAll K H vs ds∧d.plain=true∧PyData.plainAll ds=true∧d.depth≤60∧Q (.bl (if neg then !(ds.any fun y=> PyData.eqv y d) else ds.any fun y=> PyData.eqv y d)) H
theorem B5f (x:W):∀xs:List W,((W.pds xs).any fun y=> PyData.eqv y x.pd)=p8 x xs
  | []=> rfl
  | y::ys=> by
    simp only [W.pds,List.any_cons,p8]
    rw [B5f x ys];rfl
theorem B0S {K:PySem.W.Frag} {neg:Bool}:OpA K (B1t K neg) (O7 neg):=
  ⟨fun a b Q Q' k ⟨xs,x,y,z,q⟩=> ⟨xs,x,y,z,k _ q⟩,fun a b x y H Q0 Q ra rb ⟨xs,e,da,db,q⟩ k=> by
    obtain ⟨p,vs,rfl,hs,rv⟩:=rb.items e
    refine ⟨p,vs,_,_,rfl,hs.imp_left u6,ra.dp (Vw.of_ok da).1 (Vw.of_ok da).2,RepL.dp (Rep.dp 60) xs vs rv db,W.pd_plain _,W.pds_plain _,W.dat_depth _ _ (Vw.of_ok da).1,k _ _ (.val q ?_)⟩
    rw [B5f]
    exact .bl⟩
section
variable {X:Cx}
theorem B58 {pins:List (Addr×Obj)} {σ:L2.St} {H:Hp} {s:Shared} {p:Addr} {vs:List V} {ds:List PyData} (I:Inv X pins σ H s) (hq:SqL X.K H p vs∨SqT X.K H p vs) (hd:DpAll X.K H vs ds):(∃as,Reads s.heap (.ref p) (.list ds) as)∨∃as,Reads s.heap (.ref p) (.tuple ds) as:=by
  rcases hq with hq | hq
  · exact .inl (Dp.reads I (.list ds) (.ref p) (.ref p) (.lst hq hd) rfl)
  · exact .inr (Dp.reads I (.tuple ds) (.ref p) (.ref p) (.tup hq hd) rfl)
theorem B6W (hu:X.A.units+64 < cLine):OpR X (compareOp .In) (B1t X.K false):=fun pins s σ H x y v u Q I rx ry ⟨p,vs,d,ds,e,hq,hx,hd,pd,pe,dp,q⟩=> by
  subst e
  obtain rfl:u= .ref p:=ry
  obtain ⟨as,r1⟩:=Dp.reads I d x v hx rx
  have z:=Nat.min_le_right (PyData.depthAll ds) d.depth
  rcases B58 I hq hd with ⟨bs,r2⟩ | ⟨bs,r2⟩
  · exact SeqAt.in_list_data r2 r1 pe pd (by omega) ⟨.bl _,H,I,rfl,q⟩
  · exact SeqAt.in_tuple_data r2 r1 pe pd (by omega) ⟨.bl _,H,I,rfl,q⟩
theorem C1H (hu:X.A.units+64 < cLine):OpR X (compareOp .NotIn) (B1t X.K true):=fun pins s σ H x y v u Q I rx ry ⟨p,vs,d,ds,e,hq,hx,hd,pd,pe,dp,q⟩=> by
  subst e
  obtain rfl:u= .ref p:=ry
  obtain ⟨as,r1⟩:=Dp.reads I d x v hx rx
  have z:=Nat.min_le_right (PyData.depthAll ds) d.depth
  rcases B58 I hq hd with ⟨bs,r2⟩ | ⟨bs,r2⟩
  · exact SeqAt.notIn_list_data r2 r1 pe pd (by omega) ⟨.bl _,H,I,rfl,q⟩
  · exact SeqAt.notIn_tuple_data r2 r1 pe pd (by omega) ⟨.bl _,H,I,rfl,q⟩
end
def aTst (t:AT):K9:=fun env h Q=> t env h fun r env' h'=> match view env' h' r with
  | .wv (.bl b)=> Q b env' h'
  | _=> False
theorem aTst.mono {t:AT} (m:B3 t):B3 (aTst t):=fun env h Q Q' k q=> m env h _ _ (fun r e g z=> by
  show match view e g r with
    | .wv (.bl b)=> Q' b e g
    | _=> False
  have z:match view e g r with
    | .wv (.bl b)=> Q b e g
    | _=> False:=z
  split at z
  · exact k _ _ _ z
  · exact z) q
def aAndT (t u:K9):K9:=fun env h Q=> t env h fun b env' h'=> if b=true then u env' h' Q else Q false env' h'
def aOrT (t u:K9):K9:=fun env h Q=> t env h fun b env' h'=> if b=true then Q true env' h' else u env' h' Q
def aNotT (t:K9):K9:=fun env h Q=> t env h fun b env' h'=> Q (!b) env' h'
def aIfE (t:K9) (a b:AT):AT:=fun env h Q=> t env h fun c env' h'=> if c=true then a env' h' Q else b env' h' Q
theorem aAndT.mono {t u:K9} (m:B3 t) (n:B3 u):B3 (aAndT t u):=fun env h Q Q' k q=> m env h _ _ (fun b e g z=> by
  cases b with
  | true=> exact iteT (n e g _ _ k (by simpa using z))
  | false=> exact iteF (k _ _ _ (by simpa using z))) q
theorem aOrT.mono {t u:K9} (m:B3 t) (n:B3 u):B3 (aOrT t u):=fun env h Q Q' k q=> m env h _ _ (fun b e g z=> by
  cases b with
  | true=> exact iteT (k _ _ _ (by simpa using z))
  | false=> exact iteF (n e g _ _ k (by simpa using z))) q
theorem aNotT.mono {t:K9} (m:B3 t):B3 (aNotT t):=fun env h Q Q' k q=> m env h _ _ (fun b e g z=> k _ _ _ z) q
theorem aIfE.mono {t:K9} {a b:AT} (m:B3 t) (n:B3 a) (o:B3 b):B3 (aIfE t a b):=fun env h Q Q' k q=> m env h _ _ (fun c e g z=> by
  cases c with
  | true=> exact iteT (n e g _ _ k (by simpa using z))
  | false=> exact iteF (o e g _ _ k (by simpa using z))) q
section
variable {X:Cx} {G:Gx} {a b c:Expr} {ta tb tc:AT} {t u:K9} {pos:Pos} {rest:List Expr}
theorem C4h (h:AE X G a ta) (hv:∀t:TE,PE X a t→PT X a (tTest t)):AP X G a (aTst ta):=by
  refine ⟨aTst.mono h.mono,PT.imp (hv _ h.pe) fun σ H Q ⟨env,k,S,q⟩=> ?_⟩
  refine ⟨env,k,S,h.mono env k _ _ (fun r env1 h1 z v H1 S1 x1 r1 f1=> ?_) q⟩
  have r2:=r1.vr S1
  split at z
  · rename_i b e
    rw [e] at r2
    exact ⟨b,r2.bl,z H1 S1 x1⟩
  · exact z.elim
theorem A1F {op:CmpOp} {r:R2} {o:M5} (ho:OpR X (compareOp op) r) (oa:OpA G.K r o) (ha:AE X G a ta) (hb:AE X G b tb) (hm:behindInMarks op b=false):AP X G (.Compare a [op] [b] pos) (aTst (aOp2 o ta tb)):=by
  refine ⟨aTst.mono (aOp2.mono oa ha.mono hb.mono),PT.imp (pt_cmpR ho ha.pe hb.pe hm) fun σ H Q ⟨env,k,S,q⟩=> ?_⟩
  refine A7k ha.mono hb.mono oa ⟨env,k,S,aOp2.mono oa ha.mono hb.mono env k _ _ (fun r env1 h1 z v H1 S1 x1 r1 f1=> ?_) q⟩
  have r2:=r1.vr S1
  split at z
  · rename_i b e
    rw [e] at r2
    exact ⟨b,r2.bl,z H1 S1 x1⟩
  · exact z.elim
theorem A14 (h:AP X G a t):AP X G (.UnaryOp .Not a pos) (aNotT t):=
  ⟨aNotT.mono h.mono,PT.imp (pt_not h.pt) fun σ H Q ⟨env,k,S,q⟩=> ⟨env,k,S,q⟩⟩
structure AW (X:Cx) (G:Gx) (e:Expr) (t:K9):Prop where
  mono:B3 t
  pw:PW X e (cT G t)
theorem PW.imp {e:Expr} {t t':TT} (h:PW X e t) (i:∀σ H Q,t' σ H Q→t σ H Q):PW X e t':=⟨fun w pins s σ H Q I q=> h.run w pins s σ H Q I (i σ H Q q)⟩
theorem AW.ap (h:AW X G a t):AP X G a t:=⟨h.mono,h.pw.pt⟩
theorem A5a (h:AP X G a t):AW X G (.BoolOp .And [a] pos) t:=⟨h.mono,pw_and1 h.pt⟩
theorem A51 (h:AP X G a t):AW X G (.BoolOp .Or [a] pos) t:=⟨h.mono,pw_or1 h.pt⟩
theorem C1z {σ:L2.St} {H:Hp} {Q:Bool→Hp→Prop} (mt:B3 t) (mu:B3 u) (q:cT G (aAndT t u) σ H Q):tAnd (cT G t) (cT G u) σ H Q:=by
  obtain ⟨env,k,S,q⟩:=q
  refine ⟨env,k,S,mt env k _ _ (fun b env1 h1 z H1 S1 x1=> ?_) q⟩
  cases b with
  | true=>
    rw [if_pos rfl] at z
    exact iteT ⟨env1,h1,S1,mu env1 h1 _ _ (fun c env2 h2 z2 H2 S2 x2=> z2 H2 S2 (x1.trans x2)) z⟩
  | false=>
    rw [if_neg Bool.false_ne_true] at z ⊢
    exact z H1 S1 x1
theorem C4C {σ:L2.St} {H:Hp} {Q:Bool→Hp→Prop} (mt:B3 t) (mu:B3 u) (q:cT G (aOrT t u) σ H Q):tOr (cT G t) (cT G u) σ H Q:=by
  obtain ⟨env,k,S,q⟩:=q
  refine ⟨env,k,S,mt env k _ _ (fun b env1 h1 z H1 S1 x1=> ?_) q⟩
  cases b with
  | false=>
    rw [if_neg Bool.false_ne_true] at z
    exact iteF ⟨env1,h1,S1,mu env1 h1 _ _ (fun c env2 h2 z2 H2 S2 x2=> z2 H2 S2 (x1.trans x2)) z⟩
  | true=>
    rw [if_pos rfl] at z ⊢
    exact z H1 S1 x1
theorem A5k (ha:AP X G a t) (hb:AW X G (.BoolOp .And (b::rest) pos) u):AW X G (.BoolOp .And (a::b::rest) pos) (aAndT t u):=
  ⟨aAndT.mono ha.mono hb.mono,PW.imp (pw_and ha.pt hb.pw) fun _ _ _ q=> C1z ha.mono hb.mono q⟩
theorem A6H (ha:AP X G a t) (hb:AW X G (.BoolOp .Or (b::rest) pos) u):AW X G (.BoolOp .Or (a::b::rest) pos) (aOrT t u):=
  ⟨aOrT.mono ha.mono hb.mono,PW.imp (pw_or ha.pt hb.pw) fun _ _ _ q=> C4C ha.mono hb.mono q⟩
theorem A3z (hc:AP X G c t) (ha:AE X G a ta) (hb:AE X G b tb):AE X G (.IfExp c a b pos) (aIfE t ta tb):=by
  refine ⟨aIfE.mono hc.mono ha.mono hb.mono,PE.imp (pe_ifExp hc.pt ha.pe hb.pe) fun σ H Q ⟨env,k,S,q⟩=> ?_⟩
  refine ⟨env,k,S,hc.mono env k _ _ (fun d env1 h1 z H1 S1 x1=> ?_) q⟩
  have fin:∀{t:AT},B3 t→t env1 h1 (fun r env2 h2=> ∀v H',BS G env2 h2 σ H'→Xt env k σ H env2 h2 H'→RvRep G env2 h2 σ H' r v→R0 H r v→Q v H')→cE G t σ H1 Q:=fun m y=>
    ⟨env1,h1,S1,m env1 h1 _ _ (fun r env2 h2 z2 v H2 S2 x2 r2 f2=> z2 v H2 S2 (x1.trans x2) r2 (by
      cases r with
      | own c=> exact fun p e=> x1.fresh (f2 p e)
      | _=> trivial)) y⟩
  cases d with
  | true=> exact iteT (fin ha.mono (by simpa using z))
  | false=> exact iteF (fin hb.mono (by simpa using z))
end
end Ab
namespace Ab
open PySem PySem.Spec PyProof.Rows L2
theorem RepL.atI {K:PySem.W.Frag} {H:Hp} {ws:List W} {vs:List V} {i:Int} {w:W} (r:RepL K H ws vs) (e:L2.atI ws i=some w):∃v,L2.atI vs i=some v∧Rep K H w v:=by
  unfold L2.atI at e ⊢
  rw [←r.length]
  cases q:ixN ws.length i with
  | none=> rw [q] at e;cases e
  | some j=>
    rw [q] at e
    exact r.get (i:=j) e
def oIx:M5:=fun a b Q=> match b with
  | .wv (.int i)=> match a with
    | .wv (.str x)=> x.length≤sizeLine∧∃c,L2.atI x.cps.toList i=some c∧Q (.val (.str ⟨#[c]⟩))
    | a=> ∃xs w,a.items=some xs∧L2.atI xs i=some w∧Q (.val w)
  | _=> False
theorem oIx.mono (a b:Vw) (Q Q':RV→Prop) (k:∀r,Q r→Q' r) (q:oIx a b Q):oIx a b Q':=by
  unfold oIx at q ⊢
  split at q
  · split at q
    · obtain ⟨z,c,e,q⟩:=q;exact ⟨z,c,e,k _ q⟩
    · obtain ⟨xs,w,e,f,q⟩:=q;exact ⟨xs,w,e,f,k _ q⟩
  · exact q
theorem B6a {K:PySem.W.Frag}:OpA K (rIx K) oIx:=
  ⟨oIx.mono,fun a b x y H Q0 Q ra rb q k=> by
    unfold oIx at q
    split at q
    · rename_i i
      split at q
      · obtain ⟨z,c,e,q⟩:=q
        exact .inr (.inr ⟨_,i,c,ra.str,rb.int,z,e,k _ _ (.val q .str)⟩)
      · obtain ⟨xs,w,e,f,q⟩:=q
        obtain ⟨p,vs,rfl,hs,rv⟩:=ra.items e
        obtain ⟨v,g,r⟩:=rv.atI f
        rcases hs with hs | hs
        · exact .inl ⟨p,vs,i,v,rfl,rb.int,u6 hs,g,k _ _ (.val q r)⟩
        · exact .inr (.inl ⟨p,vs,i,v,rfl,rb.int,hs,g,k _ _ (.val q r)⟩)
    · exact q.elim⟩
section
variable {X:Cx} {G:Gx} {a b c:Expr} {ta tb tc:AT} {pos:Pos}
theorem M0 (gk:G.K=X.K) (ha:AE X G a ta) (hb:AE X G b tb) (hs:PlainIx b):AE X G (.Subscript a b pos) (aOp2 oIx ta tb):=
  ⟨aOp2.mono (B6a (K:=G.K)) ha.mono hb.mono,PE.imp (pe_ix ix_seq ha.pe hb.pe hs) fun _ _ _ q=> A7k ha.mono hb.mono (gk▸B6a) q⟩
end
abbrev AOT:=A0→AH→(Option Int→A0→AH→Prop)→Prop
def cO (G:Gx) (t:AOT):TO:=fun σ H Q=> ∃env h,BS G env h σ H∧t env h fun o env' h'=> ∀H',BS G env' h' σ H'→Xt env h σ H env' h' H'→Q o H'
structure AOp (X:Cx) (G:Gx) (e:Option Expr) (t:AOT):Prop where
  mono:B3 t
  po:PO X e (cO G t)
def A3f:AOT:=fun env h Q=> Q none env h
def A3w (t:AT):AOT:=fun env h Q=> t env h fun r env' h'=> match view env' h' r with
  | .wv (.int i)=> Q (some i) env' h'
  | _=> False
theorem PO.imp {X:Cx} {e:Option Expr} {t t':TO} (h:PO X e t) (i:∀σ H Q,t' σ H Q→t σ H Q):PO X e t':=⟨fun pins s σ H Q I q=> h.run pins s σ H Q I (i σ H Q q)⟩
section
variable {X:Cx} {G:Gx} {a b c:Expr} {ta tb tc:AT} {pos p2:Pos} {lo hi:Option Expr} {tl th:AOT}
theorem A74:AOp X G none A3f:=⟨fun env h Q Q' k q=> k _ _ _ q,PO.imp po_none fun σ H Q ⟨env,h,S,q⟩=> q H S .refl⟩
theorem A7v (ha:AE X G a ta):AOp X G (some a) (A3w ta):=by
  refine ⟨fun env h Q Q' k q=> ha.mono env h _ _ (fun r e g z=> ?_) q,PO.imp (po_some ha.pe) fun σ H Q ⟨env,h,S,q⟩=> ?_⟩
  · split at z
    · exact k _ _ _ z
    · exact z
  · refine ⟨env,h,S,ha.mono env h _ _ (fun r env1 h1 z v H1 S1 x1 r1 f1=> ?_) q⟩
    have r2:=r1.vr S1
    split at z
    · rename_i i e
      rw [e] at r2
      exact ⟨i,r2.int,z H1 S1 x1⟩
    · exact z.elim
def o8 (xs:List W) (lo hi:Option Int):List W:=(xs.drop (HT.sIx xs.length 0 lo)).take (HT.sIx xs.length xs.length hi - HT.sIx xs.length 0 lo)
def oSl (a:Vw) (lo hi:Option Int) (Q:RV→Prop):Prop:=match a with
  | .wv (.str x)=> x.length≤sizeLine∧Q (.val (.str (Txt.slice x lo hi)))
  | .wv (.tup xs)=> Q (.val (.tup (o8 xs lo hi)))
  | .wv (.lst xs)=> Q (.own (.seq (o8 xs lo hi)))
  | .cv (.seq xs)=> Q (.own (.seq (o8 xs lo hi)))
  | _=> False
theorem oSl.mono {a:Vw} {lo hi:Option Int} {Q Q':RV→Prop} (k:∀r,Q r→Q' r) (q:oSl a lo hi Q):oSl a lo hi Q':=by
  unfold oSl at q ⊢
  split at q <;> first | exact ⟨q.1,k _ q.2⟩ | exact k _ q | exact q.elim
def aSl (ta:AT) (tl th:AOT):AT:=fun env h Q=> ta env h fun r env1 h1=> tl env1 h1 fun lo env2 h2=> th env2 h2 fun hi env3 h3=> oSl (view env3 h3 r) lo hi fun r=> Q r env3 h3
theorem RepL.cut {K:PySem.W.Frag} {H:Hp} {ws:List W} {vs:List V} (r:RepL K H ws vs) (lo hi:Option Int):RepL K H (o8 ws lo hi) (cutV vs lo hi):=by
  unfold o8 cutV
  rw [←r.length]
  exact (r.drop _).take _
theorem C1K {ws:List W} {lo hi:Option Int} (h:HT.sIx ws.length 0 lo=0∧HT.sIx ws.length ws.length hi=ws.length):o8 ws lo hi=ws:=by
  unfold o8
  rw [h.1,h.2]
  simp
theorem A7e (gk:G.K=X.K) (ha:AE X G a ta) (hl:AOp X G lo tl) (hu:AOp X G hi th):AE X G (.Subscript a (.Slice lo hi none p2) pos) (aSl ta tl th):=by
  refine ⟨fun env h Q Q' k q=> ha.mono env h _ _ (fun r e g z=> hl.mono e g _ _ (fun l e g z=> hu.mono e g _ _ (fun u e g z=> oSl.mono (fun r q=> k _ _ _ q) z) z) z) q,PE.imp (pe_slice ((C8.sl_txt.or sl_tupA).or sl_list) ha.pe hl.po hu.po) fun σ H Q ⟨env,h,S,q⟩=> ?_⟩
  refine ⟨env,h,S,ha.mono env h _ _ (fun r env1 h1 z v H1 S1 x1 r1 f1=> ?_) q⟩
  refine ⟨env1,h1,S1,hl.mono env1 h1 _ _ (fun l env2 h2 z H2 S2 x2=> ?_) z⟩
  refine ⟨env2,h2,S2,hu.mono env2 h2 _ _ (fun u env3 h3 z H3 S3 x3=> ?_) z⟩
  have rr:=((r1.xt S1 x2).xt S2 x3).vr S3
  have fin:∀{v:V} {H':Hp},OutR G.K H3 (fun r=> ∀v H',BS G env3 h3 σ H'→Xt env h σ H env3 h3 H'→RvRep G env3 h3 σ H' r v→R0 H r v→Q v H') v H'→Q v H':=fun o=> by
    obtain ⟨res,q0,a,b,c,d⟩:=o.end S3 (x1.trans (x2.trans x3))
    exact q0 _ _ a b c d
  unfold oSl at z
  split at z
  · rename_i x e
    rw [e] at rr
    exact .inl (.inl ⟨x,rr.str,z.1,fin (.val z.2 .str)⟩)
  · rename_i xs e
    rw [e] at rr
    obtain ⟨p,vs,rfl,hs,rv⟩:=rr.tplT rfl
    refine .inl (.inr ⟨p,vs,rfl,gk▸hs.sq,fun y=> ?_,fun _ m n=> fin (.tup n z (rv.cut _ _))⟩)
    rw [←rv.length] at y
    rw [C1K y] at z
    exact fin (.val z (.tup hs rv))
  · rename_i xs e
    rw [e] at rr
    obtain ⟨p,vs,rfl,hs,rv⟩:=rr.seq rfl
    exact .inr ⟨p,vs,rfl,u6 hs,fun m n=> fin (.lst n z (rv.cut _ _))⟩
  · rename_i xs e
    rw [e] at rr
    obtain ⟨p,vs,rfl,hs,rv⟩:=rr.seq rfl
    exact .inr ⟨p,vs,rfl,u6 hs,fun m n=> fin (.lst n z (rv.cut _ _))⟩
  · exact z.elim
abbrev V4:=A0→AH→(List RV→A0→AH→Prop)→Prop
inductive RvL (G:Gx) (env:A0) (h:AH) (σ:L2.St) (H:Hp):List RV→List V→Prop where
  | nil:RvL G env h σ H [] []
  | cons {r:RV} {rs:List RV} {v:V} {vs:List V}:RvRep G env h σ H r v→RvL G env h σ H rs vs→RvL G env h σ H (r::rs) (v::vs)
def cR (G:Gx) (t:V4):TA:=fun σ H Q=> ∃env h,BS G env h σ H∧t env h fun rs env' h'=> ∀vs H',BS G env' h' σ H'→Xt env h σ H env' h' H'→RvL G env' h' σ H' rs vs→Q vs H'
structure AR (X:Cx) (G:Gx) (es:List Expr) (t:V4):Prop where
  mono:B3 t
  pa:PA X es (cR G t)
def F5:V4:=fun env h Q=> Q [] env h
def D9 (t:AT) (u:V4):V4:=fun env h Q=> t env h fun r env' h'=> u env' h' fun rs env2 h2=> Q (r::rs) env2 h2
theorem F7:AR X G [] F5:=⟨fun env h Q Q' k q=> k _ _ _ q,PA.imp pa_nil fun σ H Q ⟨env,h,S,q⟩=> q [] H S .refl .nil⟩
theorem E1 {e:Expr} {es:List Expr} {t:AT} {u:V4} (a:AE X G e t) (b:AR X G es u) (hs:starEach (e::es) X.env=(false,eval e X.env)::starEach es X.env:=by rfl):AR X G (e::es) (D9 t u):=by
  refine ⟨fun env h Q Q' k q=> a.mono env h _ _ (fun r e g z=> b.mono e g _ _ (fun rs e2 g2 z2=> k _ _ _ z2) z) q,PA.imp (pa_cons a.pe b.pa hs) fun σ H Q ⟨env,h,S,q⟩=> ?_⟩
  refine ⟨env,h,S,a.mono env h _ _ (fun r env1 h1 z v H1 S1 x1 r1 f1=> ?_) q⟩
  refine ⟨env1,h1,S1,b.mono env1 h1 _ _ (fun rs env2 h2 z vs H2 S2 x2 r2=> ?_) z⟩
  exact z (v::vs) H2 S2 (x1.trans x2) (.cons (r1.xt S1 x2) r2)
inductive VRL (K:PySem.W.Frag) (H:Hp):List Vw→List V→Prop where
  | nil:VRL K H [] []
  | cons {a:Vw} {as:List Vw} {v:V} {vs:List V}:VR K H a v→VRL K H as vs→VRL K H (a::as) (v::vs)
theorem RvL.vrl {env:A0} {h:AH} {σ:L2.St} {H:Hp} (S:BS G env h σ H) {rs:List RV} {vs:List V} (r:RvL G env h σ H rs vs):VRL G.K H (rs.map (view env h)) vs:=by
  induction r with
  | nil=> exact .nil
  | cons a _ ih=> exact .cons (a.vr S) ih
abbrev L4:=List Vw→(RV→Prop)→Prop
structure CallA (K:PySem.W.Frag) (r:List V→Hp→VK→Prop) (o:L4):Prop where
  mono:∀as Q Q',(∀r,Q r→Q' r)→o as Q→o as Q'
  ok:∀as vs H Q0 Q,VRL K H as vs→o as Q0→(∀v H',OutR K H Q0 v H'→Q v H')→r vs H Q
def aCB (o:L4) (t:V4):AT:=fun env h Q=> t env h fun rs env1 h1=> o (rs.map (view env1 h1)) fun r=> Q r env1 h1
theorem CallA.or {K:PySem.W.Frag} {r r':List V→Hp→VK→Prop} {o o':L4} (a:CallA K r o) (b:CallA K r' o'):CallA K (fun vs H Q=> r vs H Q∨r' vs H Q) (fun as Q=> o as Q∨o' as Q):=
  ⟨fun as Q Q' k q=> q.imp (a.mono as Q Q' k) (b.mono as Q Q' k),fun as vs H Q0 Q r q k=> q.imp (fun z=> a.ok as vs H Q0 Q r z k) fun z=> b.ok as vs H Q0 Q r z k⟩
theorem CallA.as {K:PySem.W.Frag} {r:List V→Hp→VK→Prop} {o o':L4} (a:CallA K r o) (i:∀as Q,o' as Q→o as Q) (m:∀as Q Q',(∀r,Q r→Q' r)→o' as Q→o' as Q'):CallA K r o':=⟨m,fun as vs H Q0 Q r q k=> a.ok as vs H Q0 Q r (i _ _ q) k⟩
theorem B5W {r:List V→Hp→VK→Prop} {o:L4} {t:V4} (ca:CallA G.K r o) (m:B3 t) {σ:L2.St} {H:Hp} {Q:VK} (q:cE G (aCB o t) σ H Q):tCB r (cR G t) σ H Q:=by
  obtain ⟨env,h,S,q⟩:=q
  refine ⟨env,h,S,m env h _ _ (fun rs env1 h1 z vs H1 S1 x1 r1=> ?_) q⟩
  refine ca.ok _ _ _ _ _ (r1.vrl S1) z fun v H2 out=> ?_
  obtain ⟨res,q0,a,b,c,d⟩:=out.end S1 x1
  exact q0 v H2 a b c d
theorem aCB.mono {r:List V→Hp→VK→Prop} {o:L4} {t:V4} (ca:CallA G.K r o) (m:B3 t):B3 (aCB o t):=fun env h Q Q' k q=> m env h _ _ (fun rs e g z=> ca.mono _ _ _ (fun r q=> k _ _ _ q) z) q
theorem L0 {id:String} {x:Str} {e:Expr} {es:List Expr} {p:Pos} {r:List V→Hp→VK→Prop} {o:L4} {t:V4} (hc:CallR X (.builtin id) r) (ca:CallA G.K r o) (hg:Gl X x) (hm:X.mg x=none) (hv:bootBuiltins x=some (.builtin id)) (ha:AR X G (e::es) t)
    (hn:x≠"__name__":=by decide) (hdb:(x==("__debug__":Str))=false:=by decide) (he:starEach (e::es) X.env=(false,eval e X.env)::starEach es X.env:=by rfl) (hpl:(backTo pos (starEach es X.env)).any (·.1)=false:=by rfl):
    AE X G (.Call (.Name x p) (e::es) [] pos) (aCB o t):=
  ⟨aCB.mono ca ha.mono,PE.imp (pe_callB hc hg hm hv ha.pa hn hdb he hpl) fun _ _ _ q=> B5W ca ha.mono q⟩
theorem A03 {T:String} {x:Str} {e:Expr} {es:List Expr} {p:Pos} {r:List V→Hp→VK→Prop} {o:L4} {t:V4} (hc:CallR X (.type T) r) (ca:CallA G.K r o) (hg:Gl X x) (hm:X.mg x=none) (hv:bootBuiltins x=some (.type T)) (ha:AR X G (e::es) t)
    (hn:x≠"__name__":=by decide) (hdb:(x==("__debug__":Str))=false:=by decide) (he:starEach (e::es) X.env=(false,eval e X.env)::starEach es X.env:=by rfl) (hpl:(backTo pos (starEach es X.env)).any (·.1)=false:=by rfl):
    AE X G (.Call (.Name x p) (e::es) [] pos) (aCB o t):=
  ⟨aCB.mono ca ha.mono,PE.imp (pe_callTy hc hg hm hv ha.pa hn hdb he hpl) fun _ _ _ q=> B5W ca ha.mono q⟩
end
theorem VRL.one {K:PySem.W.Frag} {H:Hp} {a:Vw} {vs:List V} (r:VRL K H [a] vs):∃v,vs=[v]∧VR K H a v:=by
  cases r with
  | cons r t=> cases t;exact ⟨_,rfl,r⟩
theorem VRL.two {K:PySem.W.Frag} {H:Hp} {a b:Vw} {vs:List V} (r:VRL K H [a,b] vs):∃v u,vs=[v,u]∧VR K H a v∧VR K H b u:=by
  cases r with
  | cons r t=> obtain ⟨u,rfl,q⟩:=t.one;exact ⟨_,u,rfl,r,q⟩
def D2:L4:=fun as Q=> match as with
  | [.wv (.str x)]=> x.length≤sizeLine∧Q (.val (.int x.length))
  | [a]=> ∃xs,a.items=some xs∧Q (.val (.int xs.length))
  | _=> False
theorem O9 {K:PySem.W.Frag}:CallA K (fun xs H Q=> ∃x n,xs=[x]∧LenV K x H n∧Q (.int n) H) D2:=
  ⟨fun as Q Q' k q=> by
    unfold D2 at q ⊢
    split at q
    · exact ⟨q.1,k _ q.2⟩
    · obtain ⟨xs,e,q⟩:=q;exact ⟨xs,e,k _ q⟩
    · exact q,fun as vs H Q0 Q r q k=> by
    unfold D2 at q
    split at q
    · obtain ⟨v,rfl,r1⟩:=r.one
      cases r1.str
      exact ⟨_,_,rfl,⟨q.1,rfl⟩,k _ _ (.val q.2 .int)⟩
    · obtain ⟨v,rfl,r1⟩:=r.one
      obtain ⟨xs,e,q⟩:=q
      obtain ⟨p,us,rfl,hs,rv⟩:=r1.items e
      refine ⟨_,us.length,rfl,?_,k _ _ (.val q (by rw [rv.length];exact .int))⟩
      rcases hs with hs | hs
      · exact .inl ⟨us,u6 hs,rfl⟩
      · exact .inr ⟨us,hs,rfl⟩
    · exact q.elim⟩
def o2I (g:Int→Int→Int):L4:=fun as Q=> match as with
  | [.wv (.int i),.wv (.int j)]=> Q (.val (.int (g i j)))
  | _=> False
def o1I (g:Int→Int):L4:=fun as Q=> match as with
  | [.wv (.int i)]=> Q (.val (.int (g i)))
  | _=> False
def oInts (g:List Int→(RV→Prop)→Prop):L4:=fun as Q=> match as with
  | [a]=> ∃ns:List Int,a.seq=some (ns.map W.int)∧g ns Q
  | _=> False
theorem oInts.mono {g:List Int→(RV→Prop)→Prop} (m:∀ns Q Q',(∀r,Q r→Q' r)→g ns Q→g ns Q') (as:List Vw) (Q Q':RV→Prop) (k:∀r,Q r→Q' r) (q:oInts g as Q):oInts g as Q':=by
  unfold oInts at q ⊢
  split at q
  · obtain ⟨ns,e,q⟩:=q;exact ⟨ns,e,m _ _ _ k q⟩
  · exact q
theorem oInts.get {K:PySem.W.Frag} {H:Hp} {g:List Int→(RV→Prop)→Prop} {as:List Vw} {vs:List V} {Q:RV→Prop} (r:VRL K H as vs) (q:oInts g as Q):∃p ns,vs=[.ref p]∧SqL K H p (ns.map V.int)∧g ns Q:=by
  unfold oInts at q
  split at q
  · obtain ⟨v,rfl,r1⟩:=r.one
    obtain ⟨ns,e,q⟩:=q
    obtain ⟨p,us,rfl,hs,rv⟩:=r1.seq e
    rw [rv.of_ints] at hs
    exact ⟨p,ns,rfl,u6 hs,q⟩
  · exact q.elim
def oBls (g:List Bool→Bool):L4:=fun as Q=> match as with
  | [a]=> ∃bs:List Bool,a.seq=some (bs.map W.bl)∧Q (.val (.bl (g bs)))
  | _=> False
theorem oBls.mono {g:List Bool→Bool} (as:List Vw) (Q Q':RV→Prop) (k:∀r,Q r→Q' r) (q:oBls g as Q):oBls g as Q':=by
  unfold oBls at q ⊢
  split at q
  · obtain ⟨ns,e,q⟩:=q;exact ⟨ns,e,k _ q⟩
  · exact q
theorem oBls.get {K:PySem.W.Frag} {H:Hp} {g:List Bool→Bool} {as:List Vw} {vs:List V} {Q:RV→Prop} (r:VRL K H as vs) (q:oBls g as Q):∃p bs,vs=[.ref p]∧SqL K H p (bs.map V.bl)∧Q (.val (.bl (g bs))):=by
  unfold oBls at q
  split at q
  · obtain ⟨v,rfl,r1⟩:=r.one
    obtain ⟨ns,e,q⟩:=q
    obtain ⟨p,us,rfl,hs,rv⟩:=r1.seq e
    rw [rv.of_bls] at hs
    exact ⟨p,ns,rfl,u6 hs,q⟩
  · exact q.elim
theorem B6g {K:PySem.W.Frag}:CallA K (rAny K) (oBls fun bs=> bs.any id):=
  ⟨oBls.mono,fun as vs H Q0 Q r q k=> by
    obtain ⟨p,ns,rfl,hs,q⟩:=oBls.get r q
    exact ⟨p,ns,rfl,hs,k _ _ (.val q .bl)⟩⟩
theorem B6D {K:PySem.W.Frag}:CallA K (rAll K) (oBls fun bs=> bs.all id):=
  ⟨oBls.mono,fun as vs H Q0 Q r q k=> by
    obtain ⟨p,ns,rfl,hs,q⟩:=oBls.get r q
    exact ⟨p,ns,rfl,hs,k _ _ (.val q .bl)⟩⟩
def U4:L4:=fun as Q=> match as with
  | [a]=> ∃xs,a.items=some xs∧Q (.val (.tup xs))
  | _=> False
theorem B0u {K:PySem.W.Frag}:CallA K (fun xs H Q=> ∃p ys,xs=[.ref p]∧((SqL K H p ys∧∀l,H l=none→Q (.ref l) (upd H l (.tup ys)))∨(SqT K H p ys∧Q (.ref p) H))) U4:=
  ⟨fun as Q Q' k q=> by
    unfold U4 at q ⊢
    split at q
    · obtain ⟨xs,e,q⟩:=q;exact ⟨xs,e,k _ q⟩
    · exact q,fun as vs H Q0 Q r q k=> by
    unfold U4 at q
    split at q
    · obtain ⟨v,rfl,r1⟩:=r.one
      obtain ⟨xs,e,q⟩:=q
      obtain ⟨p,us,rfl,hs,rv⟩:=r1.itemsT e
      refine ⟨p,us,rfl,?_⟩
      rcases hs with hs | hs
      · exact .inl ⟨u6 hs,fun l n=> k _ _ (.tup n q rv)⟩
      · exact .inr ⟨hs.sq,k _ _ (.val q (.tup hs rv))⟩
    · exact q.elim⟩
def Q4:L4:=fun as Q=> match as with
  | [a]=> ∃xs,a.items=some xs∧Q (.own (.seq xs))
  | _=> False
theorem A79 {K:PySem.W.Frag}:CallA K (fun xs H Q=> ∃p ys,xs=[.ref p]∧(SqL K H p ys∨SqT K H p ys)∧∀l,H l=none→Q (.ref l) (upd H l (.lst ys))) Q4:=
  ⟨fun as Q Q' k q=> by
    unfold Q4 at q ⊢
    split at q
    · obtain ⟨xs,e,q⟩:=q;exact ⟨xs,e,k _ q⟩
    · exact q,fun as vs H Q0 Q r q k=> by
    unfold Q4 at q
    split at q
    · obtain ⟨v,rfl,r1⟩:=r.one
      obtain ⟨xs,e,q⟩:=q
      obtain ⟨p,us,rfl,hs,rv⟩:=r1.items e
      exact ⟨p,us,rfl,hs.imp_left u6,fun l n=> k _ _ (.lst n q rv)⟩
    · exact q.elim⟩
def W.tyName:W→Option String
  | .non=> some "NoneType"
  | .bl _=> some "bool"
  | .int _=> some "int"
  | .str _=> some "str"
  | .tup _=> some "tuple"
  | .lst _=> some "list"
  | _=> none
def Vw.tyName:Vw→Option String
  | .wv w=> w.tyName
  | .cv (.seq _)=> some "list"
  | _=> none
def v3:String→String→Option Bool
  | "NoneType","bool"=> some false
  | "NoneType","int"=> some false
  | "NoneType","str"=> some false
  | "NoneType","tuple"=> some false
  | "NoneType","list"=> some false
  | "bool","bool"=> some true
  | "bool","int"=> some true
  | "bool","str"=> some false
  | "bool","tuple"=> some false
  | "bool","list"=> some false
  | "int","bool"=> some false
  | "int","int"=> some true
  | "int","str"=> some false
  | "int","tuple"=> some false
  | "int","list"=> some false
  | "str","bool"=> some false
  | "str","int"=> some false
  | "str","str"=> some true
  | "str","tuple"=> some false
  | "str","list"=> some false
  | "tuple","bool"=> some false
  | "tuple","int"=> some false
  | "tuple","str"=> some false
  | "tuple","tuple"=> some true
  | "tuple","list"=> some false
  | "list","bool"=> some false
  | "list","int"=> some false
  | "list","str"=> some false
  | "list","tuple"=> some false
  | "list","list"=> some true
  | _,_=> none
def F6:L4:=fun as Q=> match as with
  | [a,.wv (.ty T)]=> ∃n b,a.tyName=some n∧v3 n T=some b∧Q (.val (.bl b))
  | _=> False
theorem VR.tyX {K:PySem.W.Frag} {H:Hp}:∀{a:Vw} {v:V} {n:String},VR K H a v→a.tyName=some n→(∀ws,a≠ .wv (.tup ws))→TyX K H v (.type n)
  | .bad,_,_,_,e,_=> by cases e
  | .cv (.seq ws),_,_,r,e,_=> by cases e;obtain ⟨p,rfl,vs,l,_⟩:=r;exact .base (.lst l)
  | .cv (.map _),_,_,_,e,_=> by cases e
  | .wv .non,_,_,r,e,_=> by cases e;cases r.non;exact .base .non
  | .wv (.bl _),_,_,r,e,_=> by cases e;cases r.bl;exact .base (.bl _)
  | .wv (.int _),_,_,r,e,_=> by cases e;cases r.int;exact .base (.int _)
  | .wv (.str _),_,_,r,e,_=> by cases e;cases r.str;exact .base (.str _)
  | .wv (.tup ws),_,_,_,_,h=> absurd rfl (h ws)
  | .wv (.lst ws),_,_,r,e,_=> by cases e;obtain ⟨p,vs,rfl,⟨o,l⟩,_⟩:=Rep.of_lst (K:=K) (H:=H) r;exact .base (.frz l)
  | .wv (.dct _ _),_,_,_,e,_=> by cases e
  | .wv (.ref _),_,_,_,e,_=> by cases e
  | .wv (.ty _),_,_,_,e,_=> by cases e
end Ab
namespace Ab
open PySem PySem.Spec PyProof.Rows L2
theorem C3w {K:PySem.W.Frag} {n T:String} {b:Bool} (h:v3 n T=some b):PySem.W.kitOne K (.type n) (.type T)=some b:=by
  unfold v3 at h
  split at h
  all_goals first
    | (cases h;exact kit_ty (by decide+kernel))
    | cases h
theorem C4u {K:PySem.W.Frag} {H:Hp} {a:Addr} {vs:List V} (h:SqT K H a vs):TyX K H (.ref a) (.type "tuple"):=by
  rcases h with (h | ⟨o,h⟩) | ⟨o,its,n,e,c,_⟩
  · exact .base (.tup h)
  · exact .fTuple h
  · exact .kTuple e c
theorem VR.ty {K:PySem.W.Frag} {H:Hp} {a:Vw} {v:V} {n:String} (r:VR K H a v) (e:a.tyName=some n):TyX K H v (.type n):=by
  by_cases h:∃ws,a= .wv (.tup ws)
  · obtain ⟨ws,rfl⟩:=h
    cases e
    obtain ⟨p,vs,rfl,s,_⟩:=Rep.of_tup (K:=K) (H:=H) r
    exact C4u s
  · exact r.tyX e fun ws z=> h ⟨ws,z⟩
theorem y8 {K:PySem.W.Frag}:CallA K (rIsi K) F6:=
  ⟨fun as Q Q' k q=> by
    unfold F6 at q ⊢
    split at q
    · obtain ⟨n,b,e,f,q⟩:=q;exact ⟨n,b,e,f,k _ q⟩
    · exact q,fun as vs H Q0 Q r q k=> by
    unfold F6 at q
    split at q
    · rename_i a T
      obtain ⟨v,u,rfl,r1,r2⟩:=r.two
      cases Rep.of_ty (K:=K) (H:=H) r2
      obtain ⟨n,b,e,f,q⟩:=q
      exact ⟨v,.ty T,.type n,.type T,b,rfl,ClsV.ty T,r1.ty e,C3w f,k _ _ (.val q .bl)⟩
    · exact q.elim⟩
end Ab
namespace Ab
open PySem PySem.Spec PyProof.Rows L2
structure HS (G:Gx) (h:AH) (H:Hp):Prop where
  hp:∀a o,h a=some o→ORep G.K H a o
  fr:∀p o,G.H0 p=some o→G.h0 p=none→NT o→H p=some o
  ext:∀a o,h a=some o→G.h0 a=none→G.H0 a=none
  tr:∀p o,G.H0 p=some o→∃u,H p=some u
  tabs:TabsK G.K H
theorem BS.hs {G:Gx} {env:A0} {h:AH} {σ:L2.St} {H:Hp} (S:BS G env h σ H):HS G h H:=⟨S.hp,S.fr,S.ext,S.tr,S.tabs⟩
def XRep (K:PySem.W.Frag) (H:Hp) (x:AExc) (cls:Value) (d:Option Addr):Prop:=cls= .ref (He.ga K x.n)∧∃dd vs,d=some dd∧H dd=some (.xd vs)∧FRep K H x.fs vs
inductive RR where
  | val (w:W) | own (c:Cont)
def A3E (G:Gx) (h:AH) (H:Hp):RR→V→Prop
  | .val w,v=> Rep G.K H w v
  | .own c,v=> ∃p,v= .ref p∧CRep G.K H p c∧h p=none∧G.H0 p=none
abbrev G1:=List W→AH→(RR→AH→Prop)→(AExc→AH→Prop)→Prop
def P8 (K:PySem.W.Frag) (n:Nat) (sp:G1):Sp:=fun vs H Q E=> ∃ws h Qa Ea,ws.length=n∧(∀a o,h a=some o→ORep K H a o)∧TabsK K H∧RepL K H ws vs∧sp ws h Qa Ea∧
  (∀r h' v H',Qa r h'→HS ⟨K,h,H⟩ h' H'→A3E ⟨K,h,H⟩ h' H' r v→Q v H')∧
  (∀x h' cls d H',Ea x h'→HS ⟨K,h,H⟩ h' H'→XRep K H' x cls d→E cls d H')
section
variable {G:Gx} {env:A0} {h1 h2:AH} {σ:L2.St} {H1 H2:Hp}
theorem BS.after (S:BS G env h1 σ H1) (c:HS ⟨G.K,h1,H1⟩ h2 H2):BS G env h2 σ H2∧Xt env h1 σ H1 env h2 H2:=by
  have kp:Keeps H1 H2:=fun p o e i=> c.fr p o e (S.imm e i).1 i.nt
  have x:Xt env h1 σ H1 env h2 H2:=by
    refine ⟨fun p o e n _ t=> c.fr p o e n t,fun p o e n=> c.ext p o e n,c.tr,fun i d e=> ⟨d,e⟩⟩
  refine ⟨⟨S.len,fun i w e=> ?_,fun i a e=> ?_,S.uni,c.hp,fun p o e n t=> ?_,fun a o e n=> ?_,fun p o e=> ?_,c.tabs⟩,x⟩
  · obtain ⟨v,a,b⟩:=S.val i w e;exact ⟨v,a,Rep.mono kp w v b⟩
  · obtain ⟨p,q,r,n,n0⟩:=S.own i a e
    obtain ⟨o,eo,_⟩:=r.there
    refine ⟨p,q,r.mono kp ((c.fr p o eo n (r.mu_at eo).nt).trans eo.symm),?_,n0⟩
    cases z:h2 p with
    | none=> rfl
    | some u=> have y:H1 p=none:=c.ext p u z n;rw [y] at eo;cases eo
  · have n1:h1 p=none:=by
      cases z:h1 p with
      | none=> rfl
      | some u=> have y:=S.ext p u z n;rw [y] at e;cases e
    exact c.fr p o (S.fr p o e n t) n1 t
  · cases z:h1 a with
    | some u=> exact S.ext a u z n
    | none=>
      have y:H1 a=none:=c.ext a o e z
      cases w:G.H0 a with
      | none=> rfl
      | some u=> obtain ⟨t,q⟩:=S.tr a u w;rw [y] at q;cases q
  · obtain ⟨u,q⟩:=S.tr p o e;exact c.tr p u q
end
def aCall (E:AExc→A0→AH→Prop) (sp:G1) (t:G2):AT:=fun env h Q=> t env h fun ws env1 h1=> sp ws h1 (fun r h2=> match r with
  | .val w=> Q (.val w) env1 h2
  | .own c=> Q (.own c) env1 h2) fun x h2=> E x env1 h2
def Q7 (sp:G1):Prop:=∀ws h Q Q' E E',(∀r k,Q r k→Q' r k)→(∀x k,E x k→E' x k)→sp ws h Q E→sp ws h Q' E'
theorem aCall.mono {E:AExc→A0→AH→Prop} {sp:G1} {t:G2} (m:Q7 sp) (n:B3 t):B3 (aCall E sp t):=fun env h Q Q' k q=> n env h _ _ (fun ws e g z=> m _ _ _ _ _ _ (fun r f y=> by
  cases r with
  | val w=> exact k _ _ _ y
  | own c=> exact k _ _ _ y) (fun x f y=> y) z) q
def cW (G:Gx) (E:AExc→A0→AH→Prop):WX:=fun cls d σ H=> ∃x env h,BS G env h σ H∧XRep G.K H x cls d∧E x env h
theorem A1A {X:Cx} {G:Gx}:Takes X (cW G fun _ _ _=> False):=takes0.imp fun _ _ _ _ ⟨_,_,_,_,_,z⟩=> z
section
variable {X:Cx} {G:Gx} {sp:G1} {k n:Nat} {f:Addr} {fd:FuncData} {ps:List Str} {x:Str} {p pos:Pos} {e:Expr} {es:List Expr} {t:G2} {E:AExc→A0→AH→Prop}
theorem C1Q {σ:L2.St} {H:Hp} {Q:VK} (m:B3 t) (sm:Q7 sp) (hn:∀env h (R:List W→A0→AH→Prop),t env h R→t env h fun ws e g=> ws.length=n∧R ws e g) (q:cE G (aCall E sp t) σ H Q):
    tCallS (P8 G.K n sp) (WE (cW G E)) (cA G t) σ H Q:=by
  obtain ⟨env,h,S,q⟩:=q
  refine ⟨env,h,S,m env h _ _ (fun ws env1 h1 ⟨hl,z⟩ vs H1 S1 x1 r1=> ?_) (hn _ _ _ q)⟩
  refine ⟨ws,h1,_,_,hl,S1.hp,S1.tabs,r1,z,fun r h' v H' y c rr=> ?_,fun x h' cls d H' y c xr=> ?_⟩
  · obtain ⟨S2,x2⟩:=S1.after c
    cases r with
    | val w=> exact y v H' S2 (x1.trans x2) rr trivial
    | own c0=>
      obtain ⟨p,e,cr,a,b⟩:=rr
      have nw:H1 p=none:=b
      obtain ⟨_,g0,no⟩:=S1.noAt nw
      exact y v H' S2 (x1.trans x2) ⟨p,e,cr,a,g0,no⟩ fun p' e'=> by
        rw [e] at e';cases e';exact x1.fresh nw
  · obtain ⟨S2,x2⟩:=S1.after c
    exact ⟨x,env1,h',S2,xr,y⟩
theorem C3V (F:FnOk X.prog X.w X.K X.mg X.base (L2.CX X.prog X.w) k f fd ps (P8 G.K n sp)) (sm:Q7 sp) (hr:Room k X.A) (hg:Gl X x) (hm:X.mg x=some (.ref f)) (hk:PySem.W.keepIn X.K (.ref f)=true) (hb:Binds X.K fd ps []) (tk:Takes X (cW G E))
    (ha:AA X G (e::es) t) (hn:∀env h (R:List W→A0→AH→Prop),t env h R→t env h fun ws e g=> ws.length=n∧R ws e g)
    (hdb:(x==("__debug__":Str))=false:=by decide) (he:starEach (e::es) X.env=(false,eval e X.env)::starEach es X.env:=by rfl) (hpl:(backTo pos (starEach es X.env)).any (·.1)=false:=by rfl):
    AE X G (.Call (.Name x p) (e::es) [] pos) (aCall E sp t):=
  ⟨aCall.mono sm ha.mono,PE.imp (pe_callS F hr hg hm hk hb (fun σ=> passAt tk σ) ha.pa hdb he hpl) fun _ _ _ q=> C1Q ha.mono sm hn q⟩
end
theorem B53:∀env h (R:List W→A0→AH→Prop),aNil env h R→aNil env h fun ws e g=> ws.length=0∧R ws e g:=fun _ _ _ q=> ⟨rfl,q⟩
theorem C1p {t:D3} {u:G2} {n:Nat} (mt:B3 t) (hu:∀env h (R:List W→A0→AH→Prop),u env h R→u env h fun ws e g=> ws.length=n∧R ws e g) (mu:B3 u):
    ∀env h (R:List W→A0→AH→Prop),aCons t u env h R→aCons t u env h fun ws e g=> ws.length=n+1∧R ws e g:=fun env h R q=>
  mt env h _ _ (fun w e g z=> mu e g _ _ (fun ws e2 g2 ⟨y1,y2⟩=> ⟨by rw [List.length_cons,y1],y2⟩) (hu e g _ z)) q
structure AEnds where
  nx:A0→AH→Prop
  rt:RV→A0→AH→Prop
  bk:A0→AH→Prop:=fun _ _=> False
  ct:A0→AH→Prop:=fun _ _=> False
structure AEnds.Le (D D':AEnds):Prop where
  nx:∀e h,D.nx e h→D'.nx e h
  rt:∀r e h,D.rt r e h→D'.rt r e h
  bk:∀e h,D.bk e h→D'.bk e h
  ct:∀e h,D.ct e h→D'.ct e h
theorem AEnds.Le.refl (D:AEnds):D.Le D:=⟨fun _ _ q=> q,fun _ _ _ q=> q,fun _ _ q=> q,fun _ _ q=> q⟩
abbrev C0:=AEnds→A0→AH→Prop
def u5 (t:C0):Prop:=∀D D' env h,D.Le D'→t D env h→t D' env h
structure Link (G:Gx) (H0:Hp) (Da:AEnds) (D:Ends):Prop where
  nx:∀env h σ H,BS G env h σ H→Keeps H0 H→Da.nx env h→D.nx σ H
  rt:∀r env h σ H v,BS G env h σ H→Keeps H0 H→RvRep G env h σ H r v→Da.rt r env h→D.rt v H
  bk:∀env h σ H,BS G env h σ H→Keeps H0 H→Da.bk env h→D.bk σ H
  ct:∀env h σ H,BS G env h σ H→Keeps H0 H→Da.ct env h→D.ct σ H
theorem Link.from {G:Gx} {H H1:Hp} {Da:AEnds} {D:Ends} (l:Link G H Da D) (k:Keeps H H1):Link G H1 Da D:=
  ⟨fun e h σ H' S q=> l.nx e h σ H' S (k.trans q),fun r e h σ H' v S q=> l.rt r e h σ H' v S (k.trans q),fun e h σ H' S q=> l.bk e h σ H' S (k.trans q),fun e h σ H' S q=> l.ct e h σ H' S (k.trans q)⟩
def cS (G:Gx) (t:C0):TS:=fun D σ H=> ∃env h Da,BS G env h σ H∧t Da env h∧Link G H Da D
structure AS (X:Cx) (G:Gx) (st:Stmt) (t:C0):Prop where
  mono:u5 t
  ps:PS X st (cS G t)
structure ASs (X:Cx) (G:Gx) (st:List Stmt) (t:C0):Prop where
  mono:u5 t
  ps:PSs X st (cS G t)
def M4:C0:=fun D env h=> D.nx env h
def aSeq (t u:C0):C0:=fun D env h=> t { D with nx:=u D } env h
theorem aSeq.mono {t u:C0} (m:u5 t) (n:u5 u):u5 (aSeq t u):=fun D D' env h l q=> m { D with nx:=u D } { D' with nx:=u D' } env h ⟨fun e g z=> n D D' e g l z,l.rt,l.bk,l.ct⟩ q
section
variable {X:Cx} {G:Gx} {st:Stmt} {rest:List Stmt} {t u:C0} {e:Expr} {te:AT} {tv:D3} {pos:Pos}
theorem M9:ASs X G [] M4:=⟨fun D D' env h l q=> l.nx _ _ q,PSs.imp pss_nil fun D σ H ⟨env,h,Da,S,q,l⟩=> l.nx _ _ _ _ S (.refl _) q⟩
theorem C6 (a:AS X G st t) (b:ASs X G rest u):ASs X G (st::rest) (aSeq t u):=
  ⟨aSeq.mono a.mono b.mono,PSs.imp (pss_cons a.ps b.ps) fun D σ H ⟨env,h,Da,S,q,l⟩=> ⟨env,h,{ Da with nx:=u Da },S,q,⟨fun e g σ' H' S' y z=> ⟨e,g,Da,S',z,l.from y⟩,l.rt,l.bk,l.ct⟩⟩⟩
theorem C5 (a:AS X G st t):ASs X G [st] t:=⟨a.mono,pss_one a.ps⟩
def B2O:C0:=fun D env h=> D.ct env h
theorem B94:AS X G (.Continue pos) B2O:=⟨fun D D' env h l q=> l.ct _ _ q,PS.imp ps_continue fun D σ H ⟨env,h,Da,S,q,l⟩=> l.ct _ _ _ _ S (.refl _) q⟩
def T6 (t:AT):C0:=fun D env h=> t env h fun _ env1 h1=> D.nx env1 h1
theorem i5 (a:AE X G e te) (hs:swapsWith e none pos.line X.env=pure false:=by rfl):AS X G (.Expr e pos) (T6 te):=
  ⟨fun D D' env h l q=> a.mono env h _ _ (fun _ e g z=> l.nx _ _ z) q,PS.imp (ps_expr a.pe hs) fun D σ H ⟨env,h,Da,S,q,l⟩=> ⟨env,h,S,a.mono env h _ _ (fun r e g z v H1 S1 x1 _ _=> l.nx _ _ _ _ S1 (x1.keeps S) z) q⟩⟩
def G6 (t:AT):C0:=fun D env h=> t env h D.rt
theorem H7 (a:AE X G e te):AS X G (.Return (some e) pos) (G6 te):=
  ⟨fun D D' env h l q=> a.mono env h _ _ l.rt q,PS.imp (ps_ret a.pe) fun D σ H ⟨env,h,Da,S,q,l⟩=> ⟨env,h,S,a.mono env h _ _ (fun r e g z v H1 S1 x1 r1 _=> l.rt _ _ _ _ _ _ S1 (x1.keeps S) r1 z) q⟩⟩
def L5 (c:K9) (t u:C0):C0:=fun D env h=> c env h fun b env1 h1=> if b=true then t D env1 h1 else u D env1 h1
theorem L9 {c:Expr} {a b:List Stmt} {tc:K9} (hc:AP X G c tc) (ha:ASs X G a t) (hb:ASs X G b u):AS X G (.If c a b pos) (L5 tc t u):=by
  refine ⟨fun D D' env h l q=> hc.mono env h _ _ (fun d e g z=> ?_) q,PS.imp (ps_if hc.pt ha.ps hb.ps) fun D σ H ⟨env,h,Da,S,q,l⟩=> ⟨env,h,S,hc.mono env h _ _ (fun d e g z H1 S1 x1=> ?_) q⟩⟩
  · cases d with
    | true=> rw [if_pos rfl] at z ⊢;exact ha.mono _ _ _ _ l z
    | false=> rw [if_neg Bool.false_ne_true] at z ⊢;exact hb.mono _ _ _ _ l z
  · cases d with
    | true=> rw [if_pos rfl] at z ⊢;exact ⟨e,g,Da,S1,z,l.from (x1.keeps S)⟩
    | false=> rw [if_neg Bool.false_ne_true] at z ⊢;exact ⟨e,g,Da,S1,z,l.from (x1.keeps S)⟩
def aNs (t:AT):AT:=fun env h Q=> t env h fun r env' h'=> match r with
  | .slot i=> match env'[i]? with
    | some (some (.val w))=> Q (.val w) env' h'
    | some (some (.own c))=> Q (.val c.fz) (env'.set i (some (.val c.fz))) h'
    | _=> False
  | r=> Q r env' h'
def A23:RV→Prop
  | .slot _=> False
  | _=> True
theorem aNs.mono (m:B3 te):B3 (aNs te):=fun env h Q Q' k q=> by
  refine m env h _ _ (fun r e g z=> ?_) q
  cases r with
  | val w=> exact k _ _ _ z
  | own c=> exact k _ _ _ z
  | slot i=>
    show match e[i]? with
      | some (some (.val w))=> Q' (.val w) e g
      | some (some (.own c))=> Q' (.val c.fz) (e.set i (some (.val c.fz))) g
      | _=> False
    have z:match e[i]? with
      | some (some (.val w))=> Q (.val w) e g
      | some (some (.own c))=> Q (.val c.fz) (e.set i (some (.val c.fz))) g
      | _=> False:=z
    split at z
    · exact k _ _ _ z
    · exact k _ _ _ z
    · exact z
def cN (G:Gx) (t:AT):TE:=fun σ H Q=> ∃env h,BS G env h σ H∧t env h fun r env' h'=> ∀v H',BS G env' h' σ H'→Xt env h σ H env' h' H'→RvRep G env' h' σ H' r v→R0 H r v→A23 r→Q v H'
theorem C6O (a:AE X G e te):PE X e (cN G (aNs te)):=by
  refine ⟨fun pins s σ H Q I ⟨env,h,S,q⟩=> ?_⟩
  refine thn (a.pe.run pins s σ H (fun v H1=> ∃r env' h',BS G env' h' σ H1∧Xt env h σ H env' h' H1∧RvRep G env' h' σ H1 r v∧R0 H r v∧match r with
    | .slot i=> match env'[i]? with
      | some (some (.val w))=> ∀v H',BS G env' h' σ H'→Xt env h σ H env' h' H'→RvRep G env' h' σ H' (.val w) v→R0 H (.val w) v→A23 (.val w)→Q v H'
      | some (some (.own c))=> ∀v H',BS G (env'.set i (some (.val c.fz))) h' σ H'→Xt env h σ H (env'.set i (some (.val c.fz))) h' H'→RvRep G (env'.set i (some (.val c.fz))) h' σ H' (.val c.fz) v→R0 H (.val c.fz) v→A23 (.val c.fz)→Q v H'
      | _=> False
    | r=> ∀v H',BS G env' h' σ H'→Xt env h σ H env' h' H'→RvRep G env' h' σ H' r v→R0 H r v→A23 r→Q v H') I ⟨env,h,S,a.mono env h _ _ (fun r env' h' z v H1 S1 x1 r1 f1=> ⟨r,env',h',S1,x1,r1,f1,z⟩) q⟩) fun v s1 ⟨x,H1,I1,r1,r,env',h',S1,x1,rr,f1,z⟩=> ?_
  cases r with
  | val w=> exact ⟨x,H1,I1,r1,z x H1 S1 x1 rr f1 trivial⟩
  | own c=> exact ⟨x,H1,I1,r1,z x H1 S1 x1 rr f1 trivial⟩
  | slot i=>
    have es:σ[i]? =some (some x):=rr
    have z:match env'[i]? with
      | some (some (.val w))=> ∀v H',BS G env' h' σ H'→Xt env h σ H env' h' H'→RvRep G env' h' σ H' (.val w) v→R0 H (.val w) v→A23 (.val w)→Q v H'
      | some (some (.own c))=> ∀v H',BS G (env'.set i (some (.val c.fz))) h' σ H'→Xt env h σ H (env'.set i (some (.val c.fz))) h' H'→RvRep G (env'.set i (some (.val c.fz))) h' σ H' (.val c.fz) v→R0 H (.val c.fz) v→A23 (.val c.fz)→Q v H'
      | _=> False:=z
    split at z
    · rename_i w e
      obtain ⟨u,e3,r⟩:=S1.val i w e
      rw [es] at e3;cases e3
      exact ⟨x,H1,I1,r1,z x H1 S1 x1 r trivial trivial⟩
    · rename_i c e
      obtain ⟨p,H2,ep,I2,S2,x2,r2⟩:=A9i S1 x1 I1 e
      rw [es] at ep;cases ep
      exact ⟨_,H2,I2,r1,z _ H2 S2 x2 r2 trivial trivial⟩
    · exact z.elim
def RV.sv:RV→SV
  | .val w=> .val w
  | .own c=> .own c
  | .slot _=> .val .non
theorem BS.set {env:A0} {h:AH} {σ:L2.St} {H:Hp} (S:BS G env h σ H) {r:RV} {v:V} (i:Nat) (rr:RvRep G env h σ H r v) (ns:A23 r):BS G (env.set i (some r.sv)) h (σ.set i (some v)) H:=by
  have at_:∀(j:Nat) (sv:SV),(env.set i (some r.sv))[j]? =some (some sv)→(j=i∧sv=r.sv∧(σ.set i (some v))[j]? =some (some v))∨(j≠i∧env[j]? =some (some sv)∧(σ.set i (some v))[j]? =σ[j]?):=fun j sv e=> by
    by_cases hj:j=i
    · subst hj
      have hl:j < env.length:=by
        cases Nat.lt_or_ge j env.length with
        | inl z=> exact z
        | inr z=> rw [List.getElem?_eq_none (by rw [List.length_set];exact z)] at e;cases e
      rw [List.getElem?_set_self hl] at e
      exact .inl ⟨rfl,by injection e with e;injection e with e;exact e.symm,List.getElem?_set_self (by rw [←S.len];exact hl)⟩
    · rw [List.getElem?_set_ne (Ne.symm hj)] at e
      exact .inr ⟨hj,e,List.getElem?_set_ne (Ne.symm hj)⟩
  refine ⟨by rw [List.length_set,List.length_set];exact S.len,fun j w e=> ?_,fun j c e=> ?_,fun j k c c' p e1 e2 f1 f2=> ?_,S.hp,S.fr,S.ext,S.tr,S.tabs⟩
  · rcases at_ j _ e with ⟨rfl,z,y⟩ | ⟨_,z,y⟩
    · cases r with
      | val w'=> cases z;exact ⟨v,y,rr⟩
      | own c=> cases z
      | slot _=> exact ns.elim
    · obtain ⟨u,a,b⟩:=S.val j w z;exact ⟨u,y.trans a,b⟩
  · rcases at_ j _ e with ⟨rfl,z,y⟩ | ⟨_,z,y⟩
    · cases r with
      | val w'=> cases z
      | own c'=> cases z;obtain ⟨p,rfl,a,b,d,_⟩:=rr;exact ⟨p,y,a,b,d⟩
      | slot _=> exact ns.elim
    · obtain ⟨p,a,b⟩:=S.own j c z;exact ⟨p,y.trans a,b⟩
  · have other:∀(m:Nat) (d:Cont),env[m]? =some (some (SV.own d))→σ[m]? =some (some (V.ref p))→r.sv= .own c∨r.sv= .own c'→v= .ref p→False:=fun m d a b z y=> by
      cases r with
      | val w=> rcases z with z | z <;> cases z
      | slot _=> exact ns
      | own c0=> obtain ⟨q,e,_,_,_,no⟩:=rr;rw [e] at y;cases y;exact no ⟨m,d,a,b⟩
    rcases at_ j _ e1 with ⟨j1,z1,y1⟩ | ⟨j1,z1,y1⟩
    · rcases at_ k _ e2 with ⟨k1,z2,y2⟩ | ⟨k1,z2,y2⟩
      · rw [j1,k1]
      · rw [y1] at f1;injection f1 with f1;injection f1 with f1
        rw [y2] at f2
        exact (other k c' z2 f2 (.inl z1.symm) f1).elim
    · rcases at_ k _ e2 with ⟨k1,z2,y2⟩ | ⟨k1,z2,y2⟩
      · rw [y2] at f2;injection f2 with f2;injection f2 with f2
        rw [y1] at f1
        exact (other j c z1 f1 (.inr z2.symm) f2).elim
      · rw [y1] at f1;rw [y2] at f2
        exact S.uni j k c c' p z1 z2 f1 f2
def A3G (i:Nat) (t:AT):C0:=fun D env h=> aNs t env h fun r env1 h1=> D.nx (env1.set i (some r.sv)) h1
theorem A53 {i:Nat} {x:Str} {pos':Pos} (hN:X.N.Nodup) (hi:X.N[i]? =some x) (hx:Loc X.env.scope x) (a:AE X G e te) (hs:swapsWith e (some (.Name x pos')) pos.line X.env=pure false:=by rfl) (hf:X.fn x=true∨X.env.scope.names.lookup x=some .local:=by first | exact .inl rfl | exact .inr rfl | assumption):
    AS X G (.Assign [.Name x pos'] e pos) (A3G i te):=by
  refine ⟨fun D D' env h l q=> aNs.mono a.mono env h _ _ (fun _ e g z=> l.nx _ _ z) q,PS.imp (ps_set hN hi hx (C6O a) hs hf) fun D σ H ⟨env,h,Da,S,q,l⟩=> ?_⟩
  exact ⟨env,h,S,aNs.mono a.mono env h _ _ (fun r e g z v H1 S1 x1 r1 _ ns=> l.nx _ _ _ _ (S1.set i r1 ns) (x1.keeps S) z) q⟩
end
end Ab
namespace Ab
open PySem PySem.Spec PyProof.Rows L2
abbrev H9:=W→A0→AH→(A0→AH→Prop)→Prop
abbrev A1b:=List W→A0→AH→(A0→AH→Prop)→Prop
def o0 {α:Type} (g:α→A0→AH→(A0→AH→Prop)→Prop):Prop:=∀w env h Q Q',(∀e k,Q e k→Q' e k)→g w env h Q→g w env h Q'
def But (sl:List Nat) (σ σ':L2.St):Prop:=σ'.length=σ.length∧∀i:Nat,i∉sl→σ'[i]? =σ[i]?
theorem But.refl {sl:List Nat} (σ:L2.St):But sl σ σ:=⟨rfl,fun _ _=> rfl⟩
theorem But.trans {sl sl':List Nat} {σ σ1 σ2:L2.St} (a:But sl σ σ1) (b:But sl' σ1 σ2):But (sl++sl') σ σ2:=
  ⟨b.1.trans a.1,fun i hi=> (b.2 i fun z=> hi (List.mem_append_right _ z)).trans (a.2 i fun z=> hi (List.mem_append_left _ z))⟩
structure Xg (sl:List Nat) (env:A0) (h:AH) (σ:L2.St) (H:Hp) (env':A0) (h':AH) (σ':L2.St) (H':Hp):Prop where
  fr:∀p o,H p=some o→h p=none→¬OwnAt env σ p→NT o→H' p=some o
  hn:∀p o,h' p=some o→h p=none→H p=none
  th:∀p o,H p=some o→∃o',H' p=some o'
  ow:∀p,OwnAt env' σ' p→OwnAt env σ p
  so:∀(i:Nat) (c':Cont),env'[i]? =some (some (SV.own c'))→∃c,env[i]? =some (some (SV.own c))
  bt:But sl σ σ'
theorem Xg.keeps {sl:List Nat} {G:Gx} {env env':A0} {h h':AH} {σ σ':L2.St} {H H':Hp} (x:Xg sl env h σ H env' h' σ' H') (S:BS G env h σ H):Keeps H H':=fun p o e i=> x.fr p o e (S.imm e i).1 (S.imm e i).2 i.nt
theorem Xg.refl {sl:List Nat} {env:A0} {h:AH} {σ:L2.St} {H:Hp}:Xg sl env h σ H env h σ H:=⟨fun _ _ e _ _ _=> e,fun p o e n=> (by rw [n] at e;cases e),fun _ o e=> ⟨o,e⟩,fun _ q=> q,fun i c e=> ⟨c,e⟩,.refl σ⟩
theorem Xg.trans {sl sl':List Nat} {env env1 env2:A0} {h h1 h2:AH} {σ σ1 σ2:L2.St} {H H1 H2:Hp} (a:Xg sl env h σ H env1 h1 σ1 H1) (b:Xg sl' env1 h1 σ1 H1 env2 h2 σ2 H2):Xg (sl++sl') env h σ H env2 h2 σ2 H2:=by
  refine ⟨fun p o e n w t=> ?_,fun p o e n=> ?_,fun p o e=> ?_,fun p q=> a.ow p (b.ow p q),fun i c e=> ?_,a.bt.trans b.bt⟩
  · refine b.fr p o (a.fr p o e n w t) ?_ (fun q=> w (a.ow p q)) t
    cases q:h1 p with
    | none=> rfl
    | some u=> rw [a.hn p u q n] at e;cases e
  · cases q:h1 p with
    | some u=> exact a.hn p u q n
    | none=>
      have z:=b.hn p o e q
      cases q2:H p with
      | none=> rfl
      | some u=> obtain ⟨o',e'⟩:=a.th p u q2;rw [z] at e';cases e'
  · obtain ⟨o',e'⟩:=a.th p o e;exact b.th p o' e'
  · obtain ⟨c1,z⟩:=b.so i c e
    exact a.so i c1 z
theorem Xt.xg {env env':A0} {h h':AH} {σ:L2.St} {H H':Hp} (x:Xt env h σ H env' h' H'):Xg [] env h σ H env' h' σ H':=
  ⟨x.fr,x.hn,x.th,fun _ q=> x.own q,x.sl,.refl σ⟩
def cG (G:Gx) (sl:List Nat) (g:H9):TG:=fun v σ H Q=> ∃w env h,Rep G.K H w v∧BS G env h σ H∧g w env h fun env' h'=> ∀σ' H',BS G env' h' σ' H'→Xg sl env h σ H env' h' σ' H'→Q σ' H'
def cGs (G:Gx) (sl:List Nat) (g:A1b):TGs:=fun vs σ H Q=> ∃ws env h,RepL G.K H ws vs∧BS G env h σ H∧g ws env h fun env' h'=> ∀σ' H',BS G env' h' σ' H'→Xg sl env h σ H env' h' σ' H'→Q σ' H'
structure AG (X:Cx) (G:Gx) (tg:Expr) (sl:List Nat) (g:H9):Prop where
  mono:o0 g
  pg:PG X tg (cG G sl g)
structure AGs (X:Cx) (G:Gx) (tg:List Expr) (sl:List Nat) (g:A1b):Prop where
  mono:o0 g
  pg:PGs X tg (cGs G sl g)
theorem PG.imp {X:Cx} {e:Expr} {t t':TG} (h:PG X e t) (i:∀v σ H Q,t' v σ H Q→t v σ H Q):PG X e t':=⟨fun pins s σ H v u Q I r q=> h.run pins s σ H v u Q I r (i _ _ _ _ q)⟩
theorem PGs.imp {X:Cx} {e:List Expr} {t t':TGs} (h:PGs X e t) (i:∀v σ H Q,t' v σ H Q→t v σ H Q):PGs X e t':=⟨fun pins s σ H v u Q I r q=> h.run pins s σ H v u Q I r (i _ _ _ _ q)⟩
section
variable {X:Cx} {G:Gx} {pos:Pos} {x:Str}
def G7 (i:Nat):H9:=fun w env h Q=> Q (env.set i (some (.val w))) h
theorem G9 {i:Nat} (hN:X.N.Nodup) (hi:X.N[i]? =some x) (hx:Loc X.env.scope x) (hf:X.fn x=true∨X.env.scope.names.lookup x=some .local:=by first | exact .inl rfl | exact .inr rfl | assumption):AG X G (.Name x pos) [i] (G7 i):=by
  refine ⟨fun w env h Q Q' k q=> k _ _ q,PG.imp (pg_name hN hi hx hf) fun v σ H Q ⟨w,env,h,r,S,q⟩=> ?_⟩
  have ne:∀{j:Nat},j∉[i]→i≠j:=fun hj z=> hj (by simp [z])
  refine q _ H (S.set (r:= .val w) i r trivial) ⟨fun _ _ e _ _ _=> e,fun p o e n=> (by rw [n] at e;cases e),fun _ o e=> ⟨o,e⟩,fun p ⟨j,c,e1,e2⟩=> ?_,fun j c e1=> ?_,List.length_set,fun j hj=> List.getElem?_set_ne (ne hj)⟩
  · by_cases hj:i=j
    · subst hj
      have hl:i < env.length:=by
        have:=(List.getElem?_eq_some_iff.mp e1).1
        rwa [List.length_set] at this
      rw [List.getElem?_set_self hl] at e1
      cases e1
    · rw [List.getElem?_set_ne hj] at e1 e2
      exact ⟨j,c,e1,e2⟩
  · by_cases hj:i=j
    · subst hj
      have hl:i < env.length:=by
        have:=(List.getElem?_eq_some_iff.mp e1).1
        rwa [List.length_set] at this
      rw [List.getElem?_set_self hl] at e1
      cases e1
    · rw [List.getElem?_set_ne hj] at e1
      exact ⟨c,e1⟩
def A0A:A1b:=fun ws env h Q=> ws=[]∧Q env h
def R5 (t:H9) (u:A1b):A1b:=fun ws env h Q=> ∃w r,ws=w::r∧t w env h fun env' h'=> u r env' h' Q
theorem A5W:AGs X G [] [] A0A:=⟨fun w env h Q Q' k q=> ⟨q.1,k _ _ q.2⟩,PGs.imp pgs_nil fun v σ H Q ⟨ws,env,h,r,S,e,q⟩=> by
  subst e
  exact ⟨r.of_nil,q σ H S .refl⟩⟩
theorem r9 {e:Expr} {es:List Expr} {t:H9} {u:A1b} {sl sl':List Nat} (a:AG X G e sl t) (b:AGs X G es sl' u) (hs:(assignEach (e::es) X.env).map (·.2)=assign e X.env::(assignEach es X.env).map (·.2):=by rfl):AGs X G (e::es) (sl++sl') (R5 t u):=by
  refine ⟨fun w env h Q Q' k ⟨x,r,e,q⟩=> ⟨x,r,e,a.mono _ _ _ _ _ (fun e g z=> b.mono _ _ _ _ _ k z) q⟩,PGs.imp (pgs_cons a.pg b.pg hs) fun v σ H Q ⟨ws,env,h,r,S,w,rs,e,q⟩=> ?_⟩
  subst e
  obtain ⟨v0,vr,rfl,r0,rr⟩:=r.of_cons
  refine ⟨v0,vr,rfl,w,env,h,r0,S,a.mono _ _ _ _ _ (fun env1 h1 z σ1 H1 S1 x1=> ?_) q⟩
  exact ⟨rs,env1,h1,RepL.mono (x1.keeps S) _ _ rr,S1,b.mono _ _ _ _ _ (fun env2 h2 z2 σ2 H2 S2 x2=> z2 σ2 H2 S2 (x1.trans x2)) z⟩
def gTp (n:Nat) (u:A1b):H9:=fun w env h Q=> match w with
  | .tup ws=> ws.length=n∧u ws env h Q
  | _=> False
theorem A5v {es:List Expr} {k n:Nat} {u:A1b} {sl:List Nat} (gk:G.K=X.K) (hc:X.calm=true) (b:AGs X G es sl u)
    (hn:(assignEach es X.env).length=n:=by rfl) (hst:(assignEach es X.env).findIdx? (·.1)=none:=by rfl):AG X G (.Tuple es k pos) sl (gTp n u):=by
  refine ⟨fun w env h Q Q' k q=> ?_,PG.imp (pg_tup hc b.pg hn hst) fun v σ H Q ⟨w,env,h,r,S,q⟩=> ?_⟩
  · unfold gTp at q ⊢
    split at q
    · exact ⟨q.1,b.mono _ _ _ _ _ k q.2⟩
    · exact q
  · unfold gTp at q
    split at q
    · obtain ⟨a,vs,rfl,s,r⟩:=Rep.of_tup r
      exact ⟨a,vs,rfl,gk▸s,r.length.symm.trans q.1,_,env,h,r,S,q.2⟩
    · exact q.elim
end
abbrev U5:=A0→AH→(List W→A0→AH→Prop)→Prop
def A1R (K:PySem.W.Frag) (J:It) (H1:Hp) (ws:List W):Prop:=∀H,Keeps H1 H→∀i:Nat,(ws.length≤i→J.stop i H)∧∀w,ws[i]? =some w→J.go i H∧∀x H',J.yld i H x H'→New H H'∧Rep K H' w x
def cI (G:Gx) (t:U5):TI:=fun σ H R=> ∃env h,BS G env h σ H∧t env h fun ws env' h'=> ∀J H',BS G env' h' σ H'→Xt env h σ H env' h' H'→A1R G.K J H' ws→R J H'
structure AI (X:Cx) (G:Gx) (tg iter:Expr) (t:U5):Prop where
  mono:B3 t
  pi:PI X tg iter (cI G t)
theorem PI.imp {X:Cx} {tg e:Expr} {t t':TI} (h:PI X tg e t) (i:∀σ H R,t' σ H R→t σ H R):PI X tg e t':=⟨fun pins s σ H R I q=> h.run pins s σ H R I (i _ _ _ q)⟩
section
variable {X:Cx} {G:Gx} {tg e:Expr} {pos:Pos} {x:Str}
def iLst (t:D3):U5:=fun env h Q=> t env h fun w env' h'=> match w with
  | .lst ws=> Q ws env' h'
  | _=> False
def iTpl (t:D3):U5:=fun env h Q=> t env h fun w env' h'=> match w with
  | .tup ws=> Q ws env' h'
  | _=> False
theorem iLst.mono {t:D3} (m:B3 t):B3 (iLst t):=fun env h Q Q' k q=> m env h _ _ (fun w e g z=> by
  cases w <;> first | exact k _ _ _ z | exact z) q
theorem iTpl.mono {t:D3} (m:B3 t):B3 (iTpl t):=fun env h Q Q' k q=> m env h _ _ (fun w e g z=> by
  cases w <;> first | exact k _ _ _ z | exact z) q
theorem B3y {K:PySem.W.Frag} {H:Hp} {a:Addr} {ws:List W} {vs:List V} (l:LsF H a vs) (r:RepL K H ws vs):A1R K (Itl K a) H ws:=fun H' k i=> by
  have l':=(k.lsF l).sq (K:=K)
  have r':=RepL.mono k _ _ r
  refine ⟨fun h=> ⟨vs,l',by rw [←r'.length];exact h⟩,fun w e=> ?_⟩
  obtain ⟨v,ev,rv⟩:=r'.get e
  exact ⟨⟨vs,v,l',ev⟩,fun x H2 ⟨e1,q⟩=> by
    subst e1
    have z:=q vs l'
    rw [ev] at z;cases z
    exact ⟨.refl _,rv⟩⟩
theorem B4S {K:PySem.W.Frag} {H:Hp} {a:Addr} {ws:List W} {vs:List V} (l:SqT K H a vs) (r:RepL K H ws vs):A1R K (Itt K a) H ws:=fun H' k i=> by
  have l':=k.sqT l
  have r':=RepL.mono k _ _ r
  refine ⟨fun h=> ⟨vs,l',by rw [←r'.length];exact h⟩,fun w e=> ?_⟩
  obtain ⟨v,ev,rv⟩:=r'.get e
  exact ⟨⟨vs,v,l',ev⟩,fun x H2 ⟨e1,q⟩=> by
    subst e1
    have z:=q vs l'
    rw [ev] at z;cases z
    exact ⟨.refl _,rv⟩⟩
theorem PI.or {t u:TI} (a:PI X tg e t) (b:PI X tg e u):PI X tg e (fun σ H R=> t σ H R∨u σ H R):=⟨fun pins s σ H R I q=> q.elim (fun z=> a.run pins s σ H R I z) fun z=> b.run pins s σ H R I z⟩
def T1 (lo:Int) (n:Nat):List W:=(List.range n).map fun (i:Nat)=> W.int (lo+i)
theorem C0U {K:PySem.W.Frag} {H:Hp} {lo:Int} {n:Nat}:A1R K (Itr lo n) H (T1 lo n):=fun H' k i=> by
  have hl:(T1 lo n).length=n:=by simp [T1]
  refine ⟨fun h=> (show n≤i by omega),fun w e=> ?_⟩
  unfold T1 at e
  rw [List.getElem?_map] at e
  cases q:(List.range n)[i]? with
  | none=> rw [q] at e;cases e
  | some j=>
    rw [q] at e
    obtain ⟨hi,ej⟩:=List.getElem?_eq_some_iff.mp q
    rw [List.getElem_range] at ej
    subst ej
    cases e
    rw [List.length_range] at hi
    exact ⟨hi,fun x H2 ⟨e1,e2⟩=> by subst e1;subst e2;exact ⟨.refl _,.int⟩⟩
def A2N (t:V4):U5:=fun env h Q=> t env h fun rs env' h'=> match rs.map (view env' h') with
  | [.wv (.int j)]=> -(2 ^ 62)≤j∧j < 2 ^ 62∧Q (T1 0 j.toNat) env' h'
  | _=> False
theorem A3P {a:Expr} {ta:V4} {p:Pos} (hg:Gl X "range") (hm:X.mg "range"=none) (ha:AR X G [a] ta) (hs:starEach [a] X.env=[(false,eval a X.env)]:=by rfl):AI X G tg (.Call (.Name "range" p) [a] [] pos) (A2N ta):=by
  refine ⟨fun env h Q Q' k q=> ha.mono env h _ _ (fun rs e g z=> ?_) q,PI.imp (pi_range1 hg hm ha.pa hs) fun σ H R ⟨env,h,S,q⟩=> ?_⟩
  · split at z
    · exact ⟨z.1,z.2.1,k _ _ _ z.2.2⟩
    · exact z
  · refine ⟨env,h,S,ha.mono env h _ _ (fun rs env1 h1 z vs H1 S1 x1 r1=> ?_) q⟩
    have rr:=r1.vrl S1
    split at z
    · rename_i j e
      rw [e] at rr
      obtain ⟨v,rfl,rv⟩:=rr.one
      cases rv.int
      exact ⟨j,rfl,z.1,z.2.1,z.2.2 _ H1 S1 x1 C0U⟩
    · exact z.elim
end
def aLoop (g:H9) (tb:C0) (D:AEnds):List W→A0→AH→Prop
  | []=> D.nx
  | w::ws=> fun env h=> g w env h fun env1 h1=> tb { D with nx:=aLoop g tb D ws,ct:=aLoop g tb D ws,bk:=D.nx } env1 h1
def A3H (ti:U5) (g:H9) (tb:C0):C0:=fun D env h=> ti env h fun ws env1 h1=> aLoop g tb D ws env1 h1
theorem aLoop.mono {g:H9} {tb:C0} (mg:o0 g) (mt:u5 tb) {D D':AEnds} (l:D.Le D'):∀(ws:List W) env h,aLoop g tb D ws env h→aLoop g tb D' ws env h
  | [],env,h,q=> l.nx _ _ q
  | w::ws,env,h,q=> mg w env h _ _ (fun e k z=> mt { D with nx:=aLoop g tb D ws,ct:=aLoop g tb D ws,bk:=D.nx } { D' with nx:=aLoop g tb D' ws,ct:=aLoop g tb D' ws,bk:=D'.nx } e k ⟨aLoop.mono mg mt l ws,l.rt,l.nx,aLoop.mono mg mt l ws⟩ z) q
section
variable {X:Cx} {G:Gx} {tg iter:Expr} {body:List Stmt} {pos:Pos}
theorem A5z {ti:U5} {g:H9} {tb:C0} {sl:List Nat} (hp:PassesOwn (model X.prog X.w) X.A X.env X.xe) (hc:X.calm=true) (hi:AI X G tg iter ti) (hg:AG X G tg sl g) (hb:ASs X G body tb)
    (hs:∀x,foldedSetIterable iter X.env x=pure x:=by intro _;rfl):AS X G (.For tg iter body [] pos) (A3H ti g tb):=by
  refine ⟨fun D D' env h l q=> hi.mono env h _ _ (fun ws e k z=> aLoop.mono hg.mono hb.mono l ws e k z) q,PS.imp (ps_for hp hc hi.pi hg.pg hb.ps hs) fun D σ H ⟨env,h,Da,S,q,l⟩=> ?_⟩
  refine ⟨env,h,S,hi.mono env h _ _ (fun ws env1 h1 z J H1 S1 x1 gv=> ?_) q⟩
  have kp:=x1.keeps S
  refine ⟨fun i m σ' H'=> ws.length≤i+m∧Keeps H1 H'∧∃e k,BS G e k σ' H'∧aLoop g tb Da (ws.drop i) e k,⟨ws.length,by omega,.refl H1,env1,h1,S1,by simpa using z⟩,?_⟩
  rintro i m σ2 H2 ⟨hm,k2,e2,g2,S2,z2⟩
  have gi:=gv H2 k2 i
  cases e:ws[i]? with
  | none=>
    have hl:=List.getElem?_eq_none_iff.mp e
    rw [List.drop_eq_nil_of_le hl] at z2
    exact .inl ⟨gi.1 hl,l.nx _ _ _ _ S2 (kp.trans k2) z2⟩
  | some w=>
    obtain ⟨hl,ew⟩:=List.getElem?_eq_some_iff.mp e
    have ed:ws.drop i=w::ws.drop (i+1):=by rw [List.drop_eq_getElem_cons hl,ew]
    rw [ed] at z2
    obtain ⟨go,yl⟩:=gi.2 w e
    refine .inr ⟨go,fun σ' H'=> Keeps H1 H'∧∃e k,BS G e k σ' H'∧aLoop g tb Da (ws.drop (i+1)) e k,fun σ' H' n=> ⟨m - 1,by omega,by omega,n.1,n.2⟩,fun x H3 y=> ?_⟩
    obtain ⟨nw,rx⟩:=yl x H3 y
    have k3:=k2.trans nw.keeps
    refine ⟨w,e2,g2,rx,nw.bs S2,hg.mono w e2 g2 _ _ (fun e4 g4 z4 σ4 H4 S4 x4=> ?_) z2⟩
    have k4:=x4.keeps (nw.bs S2)
    refine ⟨e4,g4,_,S4,z4,⟨fun e k σ H S' kk y=> ⟨(k3.trans k4).trans kk,e,k,S',y⟩,fun r e k σ H v S' kk=> l.rt r e k σ H v S' (kp.trans ((k3.trans k4).trans kk)),fun e k σ H S' kk=> l.nx e k σ H S' (kp.trans ((k3.trans k4).trans kk)),fun e k σ H S' kk y=> ⟨(k3.trans k4).trans kk,e,k,S',y⟩⟩⟩
end
end Ab
namespace Ab
open PySem PySem.Spec PyProof.Rows L2
def T5 (env:A0):List Nat→A0
  | []=> env
  | v::vs=> (T5 env vs).set v none
def C6c:Option (Option SV)→Option SV
  | some (some (.val w))=> some (.val w)
  | _=> none
def mend (env e2:A0):List Nat→A0
  | []=> e2
  | v::vs=> (mend env e2 vs).set v (C6c env[v]?)
theorem B4I (env:A0):∀vs,(T5 env vs).length=env.length
  | []=> rfl
  | v::vs=> by rw [T5,List.length_set,B4I env vs]
theorem B4l (env e2:A0):∀vs,(mend env e2 vs).length=e2.length
  | []=> rfl
  | v::vs=> by rw [mend,List.length_set,B4l env e2 vs]
theorem A1v {env:A0} {i:Nat} {x:SV}:∀{vs:List Nat},(T5 env vs)[i]? =some (some x)→env[i]? =some (some x)∧i∉vs
  | [],h=> ⟨h,by simp⟩
  | v::vs,h=> by
    rw [T5] at h
    by_cases hi:v=i
    · subst hi
      by_cases hl:v < (T5 env vs).length
      · rw [List.getElem?_set_self hl] at h;cases h
      · rw [List.getElem?_eq_none (by rw [List.length_set];omega)] at h;cases h
    · rw [List.getElem?_set_ne hi] at h
      obtain ⟨a,b⟩:=A1v h
      exact ⟨a,by simp only [List.mem_cons,not_or];exact ⟨fun z=> hi z.symm,b⟩⟩
theorem A06 {env e2:A0} {i:Nat}:∀{vs:List Nat},i∉vs→(mend env e2 vs)[i]? =e2[i]?
  | [],_=> rfl
  | v::vs,h=> by
    rw [mend,List.getElem?_set_ne (fun z=> h (by simp [z])),A06 fun z=> h (List.mem_cons_of_mem _ z)]
theorem A1B {env e2:A0} {i:Nat} {x:SV}:∀{vs:List Nat},i∈vs→(mend env e2 vs)[i]? =some (some x)→∃w,x= .val w∧env[i]? =some (some (.val w))
  | v::vs,hi,h=> by
    rw [mend] at h
    by_cases e:v=i
    · subst e
      by_cases hl:v < (mend env e2 vs).length
      · rw [List.getElem?_set_self hl] at h
        cases q:env[v]? with
        | none=> rw [q] at h;cases h
        | some o=>
          cases o with
          | none=> rw [q] at h;cases h
          | some sv=>
            cases sv with
            | val w=> rw [q] at h;cases h;exact ⟨w,rfl,rfl⟩
            | own c=> rw [q] at h;cases h
      · rw [List.getElem?_eq_none (by rw [List.length_set];omega)] at h;cases h
    · rw [List.getElem?_set_ne e] at h
      rcases List.mem_cons.mp hi with z | z
      · exact absurd z.symm e
      · exact A1B z h
theorem A5S (σ:L2.St) (vs:List Nat):(wipe σ vs).length=σ.length:=wipe_length σ vs
theorem A0h {σ:L2.St} {i:Nat}:∀{vs:List Nat},i∉vs→(wipe σ vs)[i]? =σ[i]?
  | [],_=> rfl
  | v::vs,h=> by
    rw [wipe,List.getElem?_set_ne (fun z=> h (by simp [z])),A0h fun z=> h (List.mem_cons_of_mem _ z)]
theorem B0R {σ:L2.St} {i:Nat}:∀{vs:List Nat},i∈vs→(wipe σ vs)[i]? =if i < σ.length then some none else none
  | v::vs,h=> by
    rw [wipe]
    by_cases e:v=i
    · subst e
      by_cases hl:v < σ.length
      · rw [if_pos hl,List.getElem?_set_self (by rw [A5S];exact hl)]
      · rw [if_neg hl,List.getElem?_eq_none (by rw [List.length_set,A5S];omega)]
    · rw [List.getElem?_set_ne e]
      rcases List.mem_cons.mp h with z | z
      · exact absurd z.symm e
      · exact B0R z
theorem B48 {σ σ2:L2.St} {vs sl:List Nat} (b:But sl (wipe σ vs) σ2) (h:∀i∈sl,i∈vs):wipe σ2 vs=wipe σ vs:=by
  have hl:σ2.length=σ.length:=b.1.trans (A5S _ _)
  apply List.ext_getElem?
  intro i
  by_cases hi:i∈vs
  · rw [B0R hi,B0R hi,hl]
  · rw [A0h hi,b.2 i fun z=> hi (h i z)]
section
variable {G:Gx} {env e2:A0} {h h2:AH} {σ σ2:L2.St} {H H2:Hp} {vs sl:List Nat}
theorem OwnAt.wiped {p:Addr} (o:OwnAt (T5 env vs) (wipe σ vs) p):OwnAt env σ p:=by
  obtain ⟨i,c,a,b⟩:=o
  obtain ⟨a1,hi⟩:=A1v a
  rw [A0h hi] at b
  exact ⟨i,c,a1,b⟩
theorem BS.wipe (S:BS G env h σ H):BS G (T5 env vs) h (L2.wipe σ vs) H:=by
  refine ⟨by rw [B4I,A5S];exact S.len,fun i w e=> ?_,fun i c e=> ?_,fun i j c c' p e1 e2 f1 f2=> ?_,S.hp,S.fr,S.ext,S.tr,S.tabs⟩
  · obtain ⟨a,hi⟩:=A1v e
    rw [A0h hi];exact S.val i w a
  · obtain ⟨a,hi⟩:=A1v e
    rw [A0h hi];exact S.own i c a
  · obtain ⟨a,hi⟩:=A1v e1
    obtain ⟨b,hj⟩:=A1v e2
    rw [A0h hi] at f1;rw [A0h hj] at f2
    exact S.uni i j c c' p a b f1 f2
theorem BS.mend (S:BS G env h σ H) (S2:BS G e2 h2 σ2 H2) (k:Keeps H H2) (b:But sl (L2.wipe σ vs) σ2) (hs:∀i∈sl,i∈vs):BS G (mend env e2 vs) h2 σ H2:=by
  have at_:∀{i:Nat},i∉vs→σ2[i]? =σ[i]? :=fun {i} hi=> (b.2 i fun z=> hi (hs i z)).trans (A0h hi)
  refine ⟨by rw [B4l,S2.len,b.1,A5S],fun i w e=> ?_,fun i c e=> ?_,fun i j c c' p e1 e2 f1 f2=> ?_,S2.hp,S2.fr,S2.ext,S2.tr,S2.tabs⟩
  · by_cases hi:i∈vs
    · obtain ⟨w',e0,a⟩:=A1B hi e
      cases e0
      obtain ⟨v,x,y⟩:=S.val i w a
      exact ⟨v,x,Rep.mono k w v y⟩
    · rw [A06 hi] at e
      obtain ⟨v,x,y⟩:=S2.val i w e
      exact ⟨v,(at_ hi).symm.trans x,y⟩
  · by_cases hi:i∈vs
    · obtain ⟨w',e0,_⟩:=A1B hi e;cases e0
    · rw [A06 hi] at e
      obtain ⟨p,x,y⟩:=S2.own i c e
      exact ⟨p,(at_ hi).symm.trans x,y⟩
  · by_cases hi:i∈vs
    · obtain ⟨w',e0,_⟩:=A1B hi e1;cases e0
    · by_cases hj:j∈vs
      · obtain ⟨w',e0,_⟩:=A1B hj e2;cases e0
      · rw [A06 hi] at e1;rw [A06 hj] at e2
        exact S2.uni i j c c' p e1 e2 ((at_ hi).trans f1) ((at_ hj).trans f2)
theorem BS.unseen (S:BS G env h σ H) {D:Addr} {o o':HO} (e:H D=some o) (m:Mu o) (n:h D=none) (n0:G.H0 D=none) (no:¬OwnAt env σ D):Keeps H (upd H D o')∧BS G env h σ (upd H D o'):=by
  have k:Keeps H (upd H D o'):=fun p u q i=> by
    have ne:p≠D:=fun z=> by subst z;rw [e] at q;cases q;exact m.imm i
    rw [upd_ne ne];exact q
  refine ⟨k,S.len,fun i w z=> ?_,fun i c z=> ?_,S.uni,fun a u z=> ?_,fun p u z y t=> ?_,S.ext,fun p u z=> ?_,S.tabs.upd fun u z=> (by rw [e] at z;cases z;exact m)⟩
  · obtain ⟨v,x,y⟩:=S.val i w z;exact ⟨v,x,Rep.mono k w v y⟩
  · obtain ⟨p,x,y,a,b⟩:=S.own i c z
    have ne:p≠D:=fun q=> no ⟨i,c,z,q▸x⟩
    exact ⟨p,x,y.mono k (upd_ne ne),a,b⟩
  · have ne:a≠D:=fun q=> by rw [q,n] at z;cases z
    exact (S.hp a u z).mono k (upd_ne ne)
  · have ne:p≠D:=fun q=> by rw [q,n0] at z;cases z
    rw [upd_ne ne];exact S.fr p u z y t
  · by_cases q:p=D
    · subst q;exact ⟨_,upd_same⟩
    · obtain ⟨u',y⟩:=S.tr p u z;exact ⟨u',by rw [upd_ne q];exact y⟩
end
def lcLoop (vs:List Nat) (g:H9) (tt:K9) (te:D3) (Q:List W→A0→AH→Prop):List W→List W→A0→AH→Prop
  | [],acc=> fun env h=> Q acc env h
  | w::ws,acc=> fun env h=> g w (T5 env vs) h fun e1 h1=> tt e1 h1 fun b e2 h2=> if b=true then te e2 h2 fun y e3 h3=> acc.length < sizeLine∧lcLoop vs g tt te Q ws (acc++[y]) (mend env e3 vs) h3 else lcLoop vs g tt te Q ws acc (mend env e2 vs) h2
def W8 (vs:List Nat) (ti:U5) (g:H9) (tt:K9) (te:D3):AT:=fun env h Q=> ti env h fun ws e1 h1=> lcLoop vs g tt te (fun acc e h=> Q (.own (.seq acc)) e h) ws [] e1 h1
theorem lcLoop.mono {vs:List Nat} {g:H9} {tt:K9} {te:D3} (mg:o0 g) (mt:B3 tt) (me:B3 te) {Q Q':List W→A0→AH→Prop} (k:∀a e h,Q a e h→Q' a e h):∀(ws acc:List W) env h,lcLoop vs g tt te Q ws acc env h→lcLoop vs g tt te Q' ws acc env h
  | [],acc,env,h,q=> k _ _ _ q
  | w::ws,acc,env,h,q=> mg _ _ _ _ _ (fun e1 h1 z=> mt _ _ _ _ (fun b e2 h2 z=> by
    cases b with
    | true=> rw [if_pos rfl] at z ⊢;exact me _ _ _ _ (fun y e3 h3 z=> ⟨z.1,lcLoop.mono mg mt me k ws _ _ _ z.2⟩) z
    | false=> rw [if_neg Bool.false_ne_true] at z ⊢;exact lcLoop.mono mg mt me k ws _ _ _ z) z) q
structure APs (X:Cx) (G:Gx) (ifs:List Expr) (t:K9):Prop where
  mono:B3 t
  pts:PTs X ifs (cT G t)
def o9:K9:=fun env h Q=> Q true env h
theorem A0j {X:Cx} {G:Gx}:APs X G [] o9:=⟨fun env h Q Q' k q=> k _ _ _ q,⟨fun pins s σ H Q I ⟨env,h,S,q⟩=> pts_nil.run pins s σ H Q I (q H S .refl)⟩⟩
theorem A7t {X:Cx} {G:Gx} {c:Expr} {t:K9} (h:AP X G c t):APs X G [c] t:=⟨h.mono,pts_one h.pt⟩
section
variable {X:Cx} {G:Gx} {elt tg iter:Expr} {ifs:List Expr} {scope:Scope} {own:List (Str×Nat)} {pos:Pos} {ti:U5} {g:H9} {tt:K9} {te:D3} {sl:List Nat}
theorem B5h {σ:L2.St} {H:Hp} {Q:VK} (hi:AI X G tg iter ti) (hsl:∀i∈sl,i∈own.map (·.2)) (mg:o0 g) (mt:B3 tt) (me:B3 te) (q:cE G (W8 (own.map (·.2)) ti g tt te) σ H Q):
    tLc (cI G ti) (cG G sl g) (cT G tt) (cV G te) (own.map (·.2)) σ H Q:=by
  obtain ⟨env,h,S,q⟩:=q
  refine ⟨env,h,S,hi.mono env h _ _ (fun ws env1 h1 z J H1 S1 x1 gv=> ?_) q⟩
  intro D nD
  have hD:H D=none:=x1.fresh nD
  obtain ⟨hd1,hd0,hdo⟩:=S1.noAt nD
  have nw0:New H1 (upd H1 D (.lst [])):=New.upd nD
  refine ⟨fun i m H'=> ws.length≤i+m∧Keeps H1 H'∧∃acc vacc e k,H' D=some (.lst vacc)∧RepL G.K H' acc vacc∧BS G e k σ H'∧Xt env h σ H e k H'∧k D=none∧¬OwnAt e σ D∧
    lcLoop (own.map (·.2)) g tt te (fun acc e h'=> ∀v H',BS G e h' σ H'→Xt env h σ H e h' H'→RvRep G e h' σ H' (.own (.seq acc)) v→R0 H (.own (.seq acc)) v→Q v H') (ws.drop i) acc e k,
    ⟨ws.length,by omega,nw0.keeps,[],[],env1,h1,upd_same,.nil,nw0.bs S1,x1.trans nw0.xt,hd1,hdo,by simpa using z⟩,?_⟩
  rintro i m H2 ⟨hm,k2,acc,vacc,e2,g2,d2,r2,S2,x2,n2,no2,z2⟩
  have gi:=gv H2 k2 i
  cases e:ws[i]? with
  | none=>
    have hl:=List.getElem?_eq_none_iff.mp e
    rw [List.drop_eq_nil_of_le hl] at z2
    exact .inl ⟨gi.1 hl,z2 _ H2 S2 x2 ⟨D,rfl,⟨vacc,d2,r2⟩,n2,hd0,no2⟩ fun p ep=> by cases ep;exact hD⟩
  | some w=>
    obtain ⟨hl,ew⟩:=List.getElem?_eq_some_iff.mp e
    have ed:ws.drop i=w::ws.drop (i+1):=by rw [List.drop_eq_getElem_cons hl,ew]
    rw [ed] at z2
    simp only [lcLoop] at z2
    obtain ⟨go,yl⟩:=gi.2 w e
    refine .inr ⟨go,fun H'=> Keeps H1 H'∧∃acc vacc e k,H' D=some (.lst vacc)∧RepL G.K H' acc vacc∧BS G e k σ H'∧Xt env h σ H e k H'∧k D=none∧¬OwnAt e σ D∧
      lcLoop (own.map (·.2)) g tt te (fun acc e h'=> ∀v H',BS G e h' σ H'→Xt env h σ H e h' H'→RvRep G e h' σ H' (.own (.seq acc)) v→R0 H (.own (.seq acc)) v→Q v H') (ws.drop (i+1)) acc e k,fun H' n=> ⟨m - 1,by omega,by omega,n.1,n.2⟩,fun x H3 y=> ?_⟩
    obtain ⟨nw,rx⟩:=yl x H3 y
    have S3:=nw.bs S2
    refine ⟨w,T5 e2 (own.map (·.2)),g2,rx,S3.wipe,mg _ _ _ _ _ (fun e4 g4 z4 σ4 H4 S4 x4=> ?_) z2⟩
    refine ⟨B48 x4.bt hsl,e4,g4,S4,mt _ _ _ _ (fun b e5 g5 z5 H5 S5 x5=> ?_) z4⟩
    have fin:∀{e6:A0} {g6:AH} {H6:Hp},BS G e6 g6 σ4 H6→Xt e4 g4 σ4 H4 e6 g6 H6→H6 D=some (.lst vacc)∧Keeps H2 H6∧BS G (mend e2 e6 (own.map (·.2))) g6 σ H6∧g6 D=none∧¬OwnAt (mend e2 e6 (own.map (·.2))) σ D∧
        ∀ys,Xt env h σ H (mend e2 e6 (own.map (·.2))) g6 (upd H6 D (.lst ys)):=fun {e6 g6 H6} S6 x6=> by
      have xx:=x4.trans x6.xg
      have noW:¬OwnAt (T5 e2 (own.map (·.2))) (wipe σ (own.map (·.2))) D:=fun q=> no2 q.wiped
      have f6:∀p o,H2 p=some o→g2 p=none→¬OwnAt e2 σ p→NT o→H6 p=some o:=fun p o e n q t=> xx.fr p o (nw p o e) n (fun q'=> q q'.wiped) t
      have kk:Keeps H2 H6:=fun p o e i=> f6 p o e (S2.imm e i).1 (S2.imm e i).2 i.nt
      have Sm:=BS.mend (sl:=sl++[]) S2 S6 kk xx.bt fun i hi=> hsl i (by simpa using hi)
      have g6D:g6 D=none:=by
        cases q:g6 D with
        | none=> rfl
        | some u=> have y:=xx.hn D u q n2;rw [nw D _ d2] at y;cases y
      have sameOut:∀{j:Nat},j∉own.map (·.2)→σ4[j]? =σ[j]? :=fun {j} hj=> (x4.bt.2 j fun q=> hj (hsl j q)).trans (A0h hj)
      have oM:∀p,OwnAt (mend e2 e6 (own.map (·.2))) σ p→OwnAt e2 σ p:=fun p ⟨j,c,a,b⟩=> by
        by_cases hj:j∈own.map (·.2)
        · obtain ⟨w',e0,_⟩:=A1B hj a;cases e0
        · rw [A06 hj] at a
          exact (xx.ow p ⟨j,c,a,(sameOut hj).trans b⟩).wiped
      refine ⟨f6 D _ d2 n2 no2 (Mu.nt (o:= .lst vacc) trivial),kk,Sm,g6D,fun q=> no2 (oM D q),fun ys=> ⟨fun p o e n q t=> ?_,fun p o e n=> ?_,fun p o e=> ?_,fun j c e=> ?_⟩⟩
      · have np:p≠D:=fun z=> by rw [z,hD] at e;cases e
        rw [upd_ne np]
        refine f6 p o (x2.fr p o e n q t) ?_ (fun y=> q (x2.own y)) t
        cases y:g2 p with
        | none=> rfl
        | some u=> rw [x2.hn p u y n] at e;cases e
      · cases y:g2 p with
        | some u=> exact x2.hn p u y n
        | none=>
          have y3:=xx.hn p o e y
          cases y4:H p with
          | none=> rfl
          | some u=>
            obtain ⟨u',y5⟩:=x2.th p u y4
            rw [nw p u' y5] at y3;cases y3
      · by_cases hp:p=D
        · subst hp;exact ⟨_,upd_same⟩
        · obtain ⟨u,y⟩:=x2.th p o e
          obtain ⟨u',y'⟩:=xx.th p u (nw p u y)
          exact ⟨u',by rw [upd_ne hp];exact y'⟩
      · by_cases hj:j∈own.map (·.2)
        · obtain ⟨w',e0,_⟩:=A1B hj e;cases e0
        · rw [A06 hj] at e
          obtain ⟨c1,y⟩:=xx.so j _ e
          obtain ⟨y1,_⟩:=A1v y
          exact x2.sl j c1 y1
    cases b with
    | true=>
      rw [if_pos rfl] at z5
      refine iteT ⟨e5,g5,S5,me _ _ _ _ (fun y e6 g6 ⟨hz,z6⟩ v H6 S6 x6 r6=> ?_) z5⟩
      obtain ⟨d6,k6,Sm,n6,no6,xm⟩:=fin S6 (x5.trans x6)
      obtain ⟨k7,S7⟩:=Sm.unseen (o':= .lst (vacc++[v])) d6 trivial n6 hd0 no6
      exact ⟨vacc,d6,by rw [←r2.length];exact hz,(k2.trans k6).trans k7,acc++[y],vacc++[v],_,g6,upd_same,(RepL.mono (k6.trans k7) _ _ r2).append (.cons (Rep.mono k7 _ _ r6) .nil),S7,xm _,n6,no6,z6⟩
    | false=>
      rw [if_neg Bool.false_ne_true] at z5
      refine iteF ?_
      obtain ⟨d6,k6,Sm,n6,no6,xm⟩:=fin S5 x5
      have eu:upd H5 D (.lst vacc)=H5:=by
        funext p
        by_cases hp:p=D
        · subst hp;rw [upd_same,d6]
        · rw [upd_ne hp]
      have xm':=xm vacc
      rw [eu] at xm'
      exact ⟨k2.trans k6,acc,vacc,_,g5,d6,RepL.mono k6 _ _ r2,Sm,xm',n6,no6,z5⟩
theorem C6K (hc:X.calm=true) (hN:X.N.Nodup) (hi:AI X G tg iter ti) (ok:BlkOk X.N X.env.scope scope own) (hsl:∀i∈sl,i∈own.map (·.2))
    (hg:∀(s:Shared) (H:Hp) (C:Addr) (cl:List (Str×Addr)) (fp:List Addr),AG (X.blk s H scope (compEnvC scope cl C X.env) fp) G tg sl g) (ht:∀(s:Shared) (H:Hp) (C:Addr) (cl:List (Str×Addr)) (fp:List Addr),APs (X.blk s H scope (compEnvC scope cl C X.env) fp) G ifs tt)
    (he:∀(s:Shared) (H:Hp) (C:Addr) (cl:List (Str×Addr)) (fp:List Addr),AV (X.blk s H scope (compEnvC scope cl C X.env) fp) G elt te) (mg:o0 g) (mt:B3 tt) (me:B3 te) (hs:∀x,foldedSetIterable iter X.env x=pure x:=by intro _;rfl):
    AE X G (.ListComp elt [⟨tg,iter,ifs,0⟩] scope pos) (W8 (own.map (·.2)) ti g tt te):=by
  exact ⟨fun env h Q Q' k q=> hi.mono env h _ _ (fun ws e1 h1 z=> lcLoop.mono mg mt me (fun a e h q=> k _ _ _ q) ws [] e1 h1 z) q,PE.imp (pe_lc hc hN hi.pi ok (fun s H C cl fp=> (hg s H C cl fp).pg) (fun s H C cl fp=> (ht s H C cl fp).pts) (fun s H C cl fp=> (he s H C cl fp).pe) hs) fun σ H Q q=> B5h hi hsl mg mt me q⟩
end
end Ab
namespace Ab
open PySem PySem.Spec PyProof.Rows L2
def B9 (h:AH) (a:Addr) (o:AO):AH:=fun b=> if b=a then some o else h b
theorem M6 {h:AH} {a:Addr} {o:AO}:B9 h a o a=some o:=by unfold B9;rw [if_pos rfl]
theorem C1 {h:AH} {a b:Addr} {o:AO} (n:b≠a):B9 h a o b=h b:=by unfold B9;rw [if_neg n]
def O3 (env:A0) (h:AH):RV→Option Cont
  | .slot i=> match env[i]? with
    | some (some (.own c))=> some c
    | _=> none
  | .val (.ref a)=> match h a with
    | some (.cont c)=> some c
    | _=> none
  | _=> none
def v4 (env:A0) (r:RV) (c:Cont):A0:=match r with
  | .slot i=> env.set i (some (.own c))
  | _=> env
def v7 (h:AH) (r:RV) (c:Cont):AH:=match r with
  | .val (.ref a)=> B9 h a (.cont c)
  | _=> h
section
variable {G:Gx} {env:A0} {h:AH} {σ:L2.St} {H:Hp}
theorem A0m (S:BS G env h σ H) {r:RV} {v:V} {c:Cont} (rr:RvRep G env h σ H r v) (e:O3 env h r=some c):∃p,v= .ref p∧CRep G.K H p c∧
    ∀o' c',(Keeps H (upd H p o')→CRep G.K (upd H p o') p c')→BS G (v4 env r c') (v7 h r c') σ (upd H p o')∧Xt env h σ H (v4 env r c') (v7 h r c') (upd H p o'):=by
  have com:∀(p:Addr) (o':HO),(∃u,H p=some u∧Mu u)→Keeps H (upd H p o')∧(∀q o,H q=some o→∃u,upd H p o' q=some u):=fun p o' ⟨u,eu,mu⟩=> by
    refine ⟨fun q o eq i=> ?_,fun q o eq=> ?_⟩
    · have ne:q≠p:=fun z=> by subst z;rw [eu] at eq;cases eq;exact mu.imm i
      rw [upd_ne ne];exact eq
    · by_cases z:q=p
      · subst z;exact ⟨_,upd_same⟩
      · exact ⟨o,by rw [upd_ne z];exact eq⟩
  cases r with
  | own c0=> cases e
  | slot i=>
    have e:(match env[i]? with
      | some (some (.own c))=> some c
      | _=> none)=some c:=e
    split at e
    · rename_i c0 hs
      cases e
      obtain ⟨p,es,cr,n,n0⟩:=S.own i c hs
      have es':σ[i]? =some (some v):=rr
      rw [es] at es';cases es'
      refine ⟨p,rfl,cr,fun o' c' hc=> ?_⟩
      obtain ⟨kp,th⟩:=com p o' cr.there
      have hc:=hc kp
      have at_:∀(j:Nat) (sv:SV),(env.set i (some (SV.own c')))[j]? =some (some sv)→(j=i∧sv= .own c')∨(j≠i∧env[j]? =some (some sv)):=fun j sv z=> by
        rw [A5P hs] at z
        by_cases hj:j=i
        · rw [if_pos hj] at z;cases z;exact .inl ⟨hj,rfl⟩
        · rw [if_neg hj] at z;exact .inr ⟨hj,z⟩
      show BS G (env.set i (some (.own c'))) h σ _∧Xt env h σ H (env.set i (some (.own c'))) h _
      refine ⟨⟨by rw [List.length_set];exact S.len,fun j w z=> ?_,fun j d z=> ?_,fun j k d d' q z1 z2 f1 f2=> ?_,fun a o z=> ?_,fun q o z y t=> ?_,S.ext,fun q o z=> ?_,S.tabs.upd fun o z=> cr.mu_at z⟩,fun q o z y w t=> ?_,fun q o z y=> (by rw [y] at z;cases z),th,fun j d z=> ?_⟩
      · rcases at_ j _ z with ⟨_,z⟩ | ⟨_,z⟩
        · cases z
        · obtain ⟨u,a,b⟩:=S.val j w z;exact ⟨u,a,Rep.mono kp w u b⟩
      · rcases at_ j _ z with ⟨hj,z⟩ | ⟨hj,z⟩
        · cases z;exact ⟨p,hj▸es,hc,n,n0⟩
        · obtain ⟨q,a,b,x,y⟩:=S.own j d z
          have nq:q≠p:=fun z2=> hj (S.uni j i d c p z hs (z2▸a) es)
          exact ⟨q,a,b.mono kp (upd_ne nq),x,y⟩
      · rcases at_ j _ z1 with ⟨hj,y1⟩ | ⟨hj,y1⟩
        · rcases at_ k _ z2 with ⟨hk,y2⟩ | ⟨hk,y2⟩
          · rw [hj,hk]
          · rw [hj] at f1 ⊢;exact S.uni i k c d' q hs y2 f1 f2
        · rcases at_ k _ z2 with ⟨hk,y2⟩ | ⟨hk,y2⟩
          · rw [hk] at f2 ⊢;exact S.uni j i d c q y1 hs f1 f2
          · exact S.uni j k d d' q y1 y2 f1 f2
      · have na:a≠p:=fun y=> by rw [y,n] at z;cases z
        exact (S.hp a o z).mono kp (upd_ne na)
      · have nq:q≠p:=fun x=> by rw [x,n0] at z;cases z
        rw [upd_ne nq];exact S.fr q o z y t
      · obtain ⟨u,y⟩:=S.tr q o z;exact th q u y
      · have nq:q≠p:=fun x=> w ⟨i,c,hs,x▸es⟩
        rw [upd_ne nq];exact z
      · rcases at_ j _ z with ⟨hj,z⟩ | ⟨hj,z⟩
        · exact ⟨c,hj▸hs⟩
        · exact ⟨d,z⟩
    · cases e
  | val w0=>
    cases w0 with
    | ref a=>
      have e:(match h a with
        | some (.cont c)=> some c
        | _=> none)=some c:=e
      split at e
      · rename_i c0 ha
        cases e
        have ev:v= .ref a:=Rep.of_ref (K:=G.K) (H:=H) rr
        have cr:CRep G.K H a c:=S.hp a _ ha
        refine ⟨a,ev,cr,fun o' c' hc=> ?_⟩
        obtain ⟨kp,th⟩:=com a o' cr.there
        have hc:=hc kp
        show BS G env (B9 h a (.cont c')) σ _∧Xt env h σ H env (B9 h a (.cont c')) _
        have neo:∀{j:Nat} {d:Cont} {q:Addr},env[j]? =some (some (SV.own d))→σ[j]? =some (some (V.ref q))→q≠a:=fun z y x=> by
          obtain ⟨q',a',_,n,_⟩:=S.own _ _ z
          rw [y] at a';cases a'
          rw [x,ha] at n;cases n
        refine ⟨⟨S.len,fun j w z=> ?_,fun j d z=> ?_,S.uni,fun b o z=> ?_,fun q o z y t=> ?_,fun b o z y=> ?_,fun q o z=> ?_,S.tabs.upd fun o z=> cr.mu_at z⟩,fun q o z y w t=> ?_,fun q o z y=> ?_,th,fun j d z=> ⟨d,z⟩⟩
        · obtain ⟨u,x,y⟩:=S.val j w z;exact ⟨u,x,Rep.mono kp w u y⟩
        · obtain ⟨q,x,y,n,n0⟩:=S.own j d z
          have nq:=neo z x
          exact ⟨q,x,y.mono kp (upd_ne nq),by rw [C1 nq];exact n,n0⟩
        · by_cases hb:b=a
          · subst hb;rw [M6] at z;cases z;exact hc
          · rw [C1 hb] at z;exact (S.hp b o z).mono kp (upd_ne hb)
        · have nq:q≠a:=fun x=> by
            subst x
            have:=S.ext q _ ha y
            rw [this] at z;cases z
          rw [upd_ne nq];exact S.fr q o z y t
        · by_cases hb:b=a
          · subst hb;exact S.ext b _ ha y
          · rw [C1 hb] at z;exact S.ext b o z y
        · obtain ⟨u,y⟩:=S.tr q o z;exact th q u y
        · have nq:q≠a:=fun x=> by rw [x,ha] at y;cases y
          rw [upd_ne nq];exact z
        · have nq:q≠a:=fun x=> by rw [x,ha] at y;cases y
          rw [C1 nq,y] at z;cases z
      · cases e
    | _=> cases e
end
abbrev R1:=List W→List W→(List W→W→Prop)→Prop
structure LmOk (K:PySem.W.Frag) (r:V→List V→Hp→VK→Prop) (f:R1):Prop where
  mono:∀xs ws Q Q',(∀a b,Q a b→Q' a b)→f xs ws Q→f xs ws Q'
  ok:∀H p xs vs ws us Qf Q,H p=some (.lst vs)→RepL K H xs vs→RepL K H ws us→f xs ws Qf→(∀xs' vs' w v,Qf xs' w→RepL K H xs' vs'→Rep K H w v→Q v (upd H p (.lst vs')))→r (.ref p) us H Q
def A8i:Option Cont→Prop
  | some (.seq _)=> True
  | _=> False
def aLm (f:R1) (to:AT) (t:G2):AT:=fun env h Q=> to env h fun ro env1 h1=> A8i (O3 env1 h1 ro)∧t env1 h1 fun ws env2 h2=> match O3 env2 h2 ro with
  | some (.seq xs)=> f xs ws fun xs' w=> Q (.val w) (v4 env2 ro (.seq xs')) (v7 h2 ro (.seq xs'))
  | _=> False
theorem aLm.mono {K:PySem.W.Frag} {r:V→List V→Hp→VK→Prop} {f:R1} {to:AT} {t:G2} (lm:LmOk K r f) (a:B3 to) (b:B3 t):B3 (aLm f to t):=fun env h Q Q' k q=> a env h _ _ (fun ro e g z=> ⟨z.1,b e g _ _ (fun ws e2 g2 z=> by
  split at z
  · exact lm.mono _ _ _ _ (fun _ _ q=> k _ _ _ q) z
  · exact z) z.2⟩) q
section
variable {X:Cx} {G:Gx} {o e:Expr} {es:List Expr} {to:AT} {t:G2} {name:Str} {apos cpos:Pos} {id:String} {r:V→List V→Hp→VK→Prop} {f:R1}
theorem C3d {σ:L2.St} {H:Hp} {Q:VK} (gk:G.K=X.K) (lm:LmOk G.K r f) (mo:B3 to) (mt:B3 t) (q:cE G (aLm f to t) σ H Q):tBM X.K "list" r (cE G to) (cA G t) σ H Q:=by
  obtain ⟨env,h,S,q⟩:=q
  refine ⟨env,h,S,mo env h _ _ (fun ro env1 h1 ⟨hs,z⟩ x H1 S1 x1 r1 f1=> ?_) q⟩
  have ty:tyV X.K "list" x H1:=by
    cases e:O3 env1 h1 ro with
    | none=> rw [e] at hs;exact hs.elim
    | some c=>
      cases c with
      | map _=> rw [e] at hs;exact hs.elim
      | seq xs=>
        obtain ⟨p,rfl,⟨vs,l,_⟩,_⟩:=A0m S1 r1 e
        exact .inl ⟨rfl,_,.inl (.inl l)⟩
  refine ⟨ty,env1,h1,S1,mt env1 h1 _ _ (fun ws env2 h2 z vs H2 S2 x2 r2=> ?_) z⟩
  split at z
  · rename_i xs e
    obtain ⟨p,rfl,⟨us,l,rl⟩,put⟩:=A0m S2 (r1.xt S1 x2) e
    refine lm.ok H2 p xs us ws vs _ Q l rl r2 z fun xs' vs' w v q0 ra rw0=> ?_
    have kp:Keeps H2 (upd H2 p (.lst vs')):=fun q o e i=> by
      have ne:q≠p:=fun z=> by subst z;rw [l] at e;cases e;exact i
      rw [upd_ne ne];exact e
    obtain ⟨S3,x3⟩:=put (.lst vs') (.seq xs') fun k=> ⟨vs',upd_same,RepL.mono k _ _ ra⟩
    exact q0 v _ S3 (x1.trans (x2.trans x3)) (show Rep G.K _ w v from Rep.mono kp w v rw0) trivial
  · exact z.elim
theorem A6A (gk:G.K=X.K) (lm:LmOk G.K r f) (pa:PlainAttrs "list") (slot:Slot "list" name id) (hty:typeOf (.builtin id)=pure (.type "method_descriptor")) (hm:MtR X id r) (ho:AE X G o to) (ha:AA X G (e::es) t)
    (hbase:attributeBase o name X.env (eval o X.env)=eval o X.env:=by rfl)
    (hfew:((backTo cpos (starEach (e::es) X.env)).all (fun x=> !x.1) && (backToKw cpos (keywordEach [] X.env)).all (fun x=> x.1.isSome)
      && decide ((e::es).length+([]:List Keyword).length+(if ([]:List Keyword).isEmpty then 0 else 1) < 30))=true:=by rfl)
    (hline:(apos.endLine==cpos.line)=true:=by rfl) (hs:starEach (e::es) X.env=(false,eval e X.env)::starEach es X.env:=by rfl) (hplain:(backTo cpos (starEach es X.env)).any (·.1)=false:=by rfl):
    AE X G (.Call (.Attribute o name apos) (e::es) [] cpos) (aLm f to t):=
  ⟨aLm.mono lm ho.mono ha.mono,PE.imp (pe_bm pa slot hty hm ho.pe ha.pa hbase hfew hline hs hplain) fun _ _ _ q=> C3d gk lm ho.mono ha.mono q⟩
end
section
variable {K:PySem.W.Frag}
def i6:R1:=fun xs ws Q=> match ws with
  | [y]=> xs.length < sizeLine∧Q (xs++[y]) .non
  | _=> False
theorem A9z:LmOk K rAppend i6:=
  ⟨fun xs ws Q Q' k q=> by
    unfold i6 at q ⊢
    split at q
    · exact ⟨q.1,k _ _ q.2⟩
    · exact q,fun H p xs vs ws us Qf Q l rl rw0 q k=> by
    unfold i6 at q
    split at q
    · obtain ⟨v,t,rfl,rv,rt⟩:=rw0.of_cons
      rw [rt.of_nil]
      exact ⟨p,vs,v,rfl,rfl,l,by rw [←rl.length];exact q.1,k _ _ _ _ q.2 (rl.append (.cons rv .nil)) .non⟩
    · exact q.elim⟩
def A13:R1:=fun xs ws Q=> match ws with
  | [.int i]=> -(2 ^ 63)≤i∧i < 2 ^ 63∧∃k y,seqIndex? i xs.length=some k∧xs[k]? =some y∧Q (xs.eraseIdx k) y
  | _=> False
theorem C2t:LmOk K rPopAt A13:=
  ⟨fun xs ws Q Q' k q=> by
    unfold A13 at q ⊢
    split at q
    · obtain ⟨a,b,j,y,e,f,q⟩:=q;exact ⟨a,b,j,y,e,f,k _ _ q⟩
    · exact q,fun H p xs vs ws us Qf Q l rl rw0 q k=> by
    unfold A13 at q
    split at q
    · obtain ⟨v,t,rfl,rv,rt⟩:=rw0.of_cons
      rw [rt.of_nil,Rep.of_int (K:=K) (H:=H) rv]
      obtain ⟨a,b,j,y,e,f,q⟩:=q
      obtain ⟨v,ev,rv⟩:=rl.get f
      exact ⟨p,vs,_,j,v,rfl,rfl,l,a,b,by rw [←rl.length];exact e,ev,k _ _ _ _ q (rl.eraseIdx j) rv⟩
    · exact q.elim⟩
end
def A1U (to ti:AT):H9:=fun w env h Q=> to env h fun ro env1 h1=> ti env1 h1 fun ri env2 h2=> match view env2 h2 ri with
  | .wv (.int k)=> match O3 env2 h2 ro with
    | some (.seq xs)=> ∃j,ixN xs.length k=some j∧Q (v4 env2 ro (.seq (xs.set j w))) (v7 h2 ro (.seq (xs.set j w)))
    | _=> False
  | _=> False
section
variable {X:Cx} {G:Gx} {o i:Expr} {to ti:AT} {pos:Pos}
theorem A2w (ho:AE X G o to) (hi:AE X G i ti)
    (ha:PG X (.Subscript o i pos) (gSub (cE G to) (cE G ti) rSetL)):AG X G (.Subscript o i pos) [] (A1U to ti):=by
  refine ⟨fun w env h Q Q' k q=> ho.mono env h _ _ (fun ro e g z=> hi.mono e g _ _ (fun ri e g z=> ?_) z) q,PG.imp ha fun v σ H Q ⟨w,env,h,rv,S,q⟩=> ?_⟩
  · split at z
    · split at z
      · obtain ⟨j,e,z⟩:=z;exact ⟨j,e,k _ _ z⟩
      · exact z
    · exact z
  · refine ⟨env,h,S,ho.mono env h _ _ (fun ro env1 h1 z x H1 S1 x1 r1 f1=> ?_) q⟩
    refine ⟨env1,h1,S1,hi.mono env1 h1 _ _ (fun ri env2 h2 z y H2 S2 x2 r2 f2=> ?_) z⟩
    have ry:=r2.vr S2
    split at z
    · rename_i k ek
      rw [ek] at ry
      split at z
      · rename_i xs e
        obtain ⟨j,ej,z⟩:=z
        obtain ⟨p,rfl,⟨us,l,rl⟩,put⟩:=A0m S2 (r1.xt S1 x2) e
        have rv2:Rep G.K H2 w v:=Rep.mono ((x1.keeps S).trans (x2.keeps S1)) w v rv
        refine ⟨p,us,k,j,rfl,ry.int,l,by rw [←rl.length];exact ej,?_⟩
        obtain ⟨S3,x3⟩:=put (.lst (us.set j v)) (.seq (xs.set j w)) fun kk=> ⟨_,upd_same,RepL.mono kk _ _ (rl.set j rv2)⟩
        exact z σ _ S3 (x1.trans (x2.trans x3)).xg
      · exact z.elim
    · exact z.elim
end
section
variable {X:Cx} {G:Gx} {tg e:Expr} {tv:D3} {g:H9} {sl:List Nat} {pos:Pos} {st:Stmt} {t:C0}
def L1 (tv:D3) (g:H9):C0:=fun D env h=> tv env h fun w env1 h1=> g w env1 h1 D.nx
theorem N1 (he:AV X G e tv) (hg:AG X G tg sl g) (hs:swapsWithSole [tg] e pos.line X.env=pure false:=by rfl) (hw:swappedStores [tg] e X.env=pure none:=by rfl) (h1:(assignEach [tg] X.env).map (·.2)=[assign tg X.env]:=by rfl):AS X G (.Assign [tg] e pos) (L1 tv g):=by
  refine ⟨fun D D' env h l q=> he.mono env h _ _ (fun w e g z=> hg.mono _ _ _ _ _ l.nx z) q,PS.imp (ps_asg he.pe hg.pg hs hw h1) fun D σ H ⟨env,h,Da,S,q,l⟩=> ?_⟩
  refine ⟨env,h,S,he.mono env h _ _ (fun w env1 h1 z v H1 S1 x1 r1=> ?_) q⟩
  exact ⟨w,env1,h1,r1,S1,hg.mono _ _ _ _ _ (fun env2 h2 z σ2 H2 S2 x2=> l.nx _ _ _ _ S2 ((x1.keeps S).trans (x2.keeps S1)) z) z⟩
def A32 (i:Nat) (t:C0):C0:=fun D env h=> match env[i]? with
  | some (some (.own c))=> ∀p,h p=none→t D (env.set i (some (.val (.ref p)))) (B9 h p (.cont c))
  | _=> False
theorem C3K (i:Nat) (a:AS X G st t):AS X G st (A32 i t):=by
  refine ⟨fun D D' env h l q=> ?_,PS.imp a.ps fun D σ H ⟨env,h,Da,S,q,l⟩=> ?_⟩
  · unfold A32 at q ⊢
    split at q
    · exact fun p n=> a.mono _ _ _ _ l (q p n)
    · exact q
  · unfold A32 at q
    split at q
    · rename_i c e
      obtain ⟨p,es,cr,n,n0⟩:=S.own i c e
      refine ⟨_,_,Da,?_,q p n,l⟩
      have at_:∀(j:Nat) (sv:SV),(env.set i (some (SV.val (.ref p))))[j]? =some (some sv)→(j=i∧sv= .val (.ref p))∨(j≠i∧env[j]? =some (some sv)):=fun j sv z=> by
        rw [A5P e] at z
        by_cases hj:j=i
        · rw [if_pos hj] at z;cases z;exact .inl ⟨hj,rfl⟩
        · rw [if_neg hj] at z;exact .inr ⟨hj,z⟩
      refine ⟨by rw [List.length_set];exact S.len,fun j w z=> ?_,fun j d z=> ?_,fun j k d d' q z1 z2 f1 f2=> ?_,fun a o z=> ?_,S.fr,fun a o z y=> ?_,S.tr,S.tabs⟩
      · rcases at_ j _ z with ⟨hj,z⟩ | ⟨_,z⟩
        · cases z;exact ⟨_,hj▸es,.ref⟩
        · exact S.val j w z
      · rcases at_ j _ z with ⟨_,z⟩ | ⟨hj,z⟩
        · cases z
        · obtain ⟨q,a,b,x,y⟩:=S.own j d z
          have nq:q≠p:=fun z2=> hj (S.uni j i d c p z e (z2▸a) es)
          exact ⟨q,a,b,by rw [C1 nq];exact x,y⟩
      · rcases at_ j _ z1 with ⟨_,y⟩ | ⟨_,y1⟩
        · cases y
        · rcases at_ k _ z2 with ⟨_,y⟩ | ⟨_,y2⟩
          · cases y
          · exact S.uni j k d d' q y1 y2 f1 f2
      · by_cases ha:a=p
        · subst ha;rw [M6] at z;cases z;exact cr
        · rw [C1 ha] at z;exact S.hp a o z
      · by_cases ha:a=p
        · subst ha;exact n0
        · rw [C1 ha] at z;exact S.ext a o z y
    · exact q.elim
end
def G8 (n:Nat) (ws:List W):A0:=ws.map (fun w=> some (.val w))++List.replicate (n - ws.length) none
def AH.Le (h h':AH):Prop:=∀a o,h a=some o→h' a=some o
def B6 (Qa:RR→AH→Prop):AEnds where
  nx:=fun _ h=> ∃h',AH.Le h' h∧Qa (.val .non) h'
  rt:=fun r env h=> ∃h',AH.Le h' h∧match r with
    | .val w=> Qa (.val w) h'
    | .own c=> Qa (.own c) h'
    | .slot i=> match env[i]? with
      | some (some (.val w))=> Qa (.val w) h'
      | some (some (.own c))=> Qa (.own c) h'
      | _=> False
def C4 (Ea:AExc→AH→Prop):AExc→A0→AH→Prop:=fun x _ h=> ∃h',AH.Le h' h∧Ea x h'
theorem BS.begin {K:PySem.W.Frag} {h:AH} {H:Hp} {ws:List W} {vs:List V} {N:List Str} (hp:∀a o,h a=some o→ORep K H a o) (tb:TabsK K H) (r:RepL K H ws vs) (hl:ws.length≤N.length):BS ⟨K,h,H⟩ (G8 N.length ws) h (L2.start N vs) H:=by
  have e1:(G8 N.length ws).length=N.length:=by simp [G8];omega
  have e2:(L2.start N vs).length=N.length:=by simp [L2.start,←r.length];omega
  have at_:∀(i:Nat) (sv:SV),(G8 N.length ws)[i]? =some (some sv)→∃w,sv= .val w∧ws[i]? =some w:=fun i sv e=> by
    unfold G8 at e
    by_cases hi:i < ws.length
    · rw [List.getElem?_append_left (by simpa using hi),List.getElem?_map] at e
      cases q:ws[i]? with
      | none=> rw [q] at e;cases e
      | some w=> rw [q] at e;cases e;exact ⟨w,rfl,rfl⟩
    · rw [List.getElem?_append_right (by simpa using hi),List.getElem?_replicate] at e
      split at e <;> cases e
  refine ⟨by rw [e1,e2],fun i w e=> ?_,fun i c e=> ?_,fun i j c c' p e=> ?_,hp,fun p o e _ _=> e,fun a o e n=> (by have n:h a=none:=n;rw [n] at e;cases e),fun p o e=> ⟨o,e⟩,tb⟩
  · obtain ⟨w',z,y⟩:=at_ i _ e
    cases z
    obtain ⟨v,ev,rv⟩:=r.get y
    refine ⟨v,?_,rv⟩
    have hi:i < vs.length:=(List.getElem?_eq_some_iff.mp ev).1
    unfold L2.start
    rw [List.getElem?_append_left (by simpa using hi),List.getElem?_map,ev]
    rfl
  · obtain ⟨w',z,_⟩:=at_ i _ e;cases z
  · obtain ⟨w',z,_⟩:=at_ i _ e;cases z
section
variable {P:Program} {w:World} {K:PySem.W.Frag} {mg:Str→Option Value} {base:Heap} {x qual:Str} {params:Arguments} {body:List Stmt} {scope:Scope} {f:Addr} {fd:FuncData} {N ps:List Str} {k n:Nat} {sp:G1}
abbrev bx (P:Program) (w:World) (K:PySem.W.Frag) (mg:Str→Option Value) (base:Heap) (N:List Str) (qual:Str) (scope:Scope) (f:Addr) (cdv:Value) (A:Around) (outer:List Env) (s:Shared) (H:Hp) (E:XK):Cx:=
  cxOf (L2.CX P w) P w K mg base N qual scope f cdv A outer s H E
theorem HS.le {G:Gx} {h h':AH} {H:Hp} (a:HS G h H) (l:AH.Le h' h):HS G h' H:=⟨fun p o e=> a.hp p o (l p o e),a.fr,fun p o e=> a.ext p o (l p o e),a.tr,a.tabs⟩
theorem B1O {t:(AExc→A0→AH→Prop)→C0} (dvs:List V) (kws:List (Str×V)) (F:FunD K x qual params body scope dvs kws f fd) (S:FnScope N ps scope) (hn:ps.length=n)
    (hb:∀(cdv:Value) (A:Around) (outer:List Env) (s:Shared) (H:Hp) (E:XK) (G:Gx) (E':AExc→A0→AH→Prop),Room k (A.deeper (envOfC qual scope s.heap.objs.size f cdv))→G.K=K→Takes (bx P w K mg base N qual scope f cdv A outer s H E) (cW G E')→
      ASs (bx P w K mg base N qual scope f cdv A outer s H E) G body (t E'))
    (hq:∀ws h Qa Ea,ws.length=n→sp ws h Qa Ea→t (C4 Ea) (B6 Qa) (G8 N.length ws) h):
    FnOk P w K mg base (L2.CX P w) (k+1) f fd ps (P8 K n sp):=by
  refine F.ok S (fun vs H Q E ⟨ws,h,Qa,Ea,hl,_,_,r,_⟩=> by rw [←r.length,hl,hn]) (fun cdv A outer s H vs Q E hr ⟨ws,h,Qa,Ea,hl,hp,tb,r,q,kq,ke⟩=> ?_)
  have hwN:ws.length≤N.length:=by
    have z:=congrArg List.length S.pre
    rw [List.length_take] at z
    omega
  have tk:Takes (bx P w K mg base N qual scope f cdv A outer s H E) (cW ⟨K,h,H⟩ (C4 Ea)):=Takes.imp (W:=fun cls d _ H'=> E cls d H') (takes_of rfl rfl rfl rfl) fun cls d σ H' ⟨x,env,h',SB,xr,h'',le,e⟩=>
    ke x h'' cls d H' e (HS.le (G:=⟨K,h,H⟩) ⟨SB.hp,SB.fr,SB.ext,SB.tr,SB.tabs⟩ le) xr
  refine ⟨_,(hb cdv A outer s H E ⟨K,h,H⟩ (C4 Ea) hr rfl tk).ps,G8 N.length ws,h,B6 Qa,BS.begin hp tb r hwN,hq ws h Qa Ea hl q,?_⟩
  have hs:∀{env h' σ' H'},BS ⟨K,h,H⟩ env h' σ' H'→HS ⟨K,h,H⟩ h' H':=fun SB=> ⟨SB.hp,SB.fr,SB.ext,SB.tr,SB.tabs⟩
  refine ⟨fun env h' σ' H' SB _ ⟨h'',le,e⟩=> kq (.val .non) h'' .non H' e ((hs SB).le le) (show Rep K H' .non .non from .non),fun r0 env h' σ' H' v SB _ rr ⟨h'',le,e⟩=> ?_,fun _ _ _ _ _ _ z=> z.elim,fun _ _ _ _ _ _ z=> z.elim⟩
  have own_end:∀{p:Addr} {c:Cont},v= .ref p→CRep K H' p c→h' p=none→H p=none→A3E ⟨K,h,H⟩ h'' H' (.own c) v:=fun {p c} e1 e2 e3 e4=> by
    have e5:h'' p=none:=by
      cases z:h'' p with
      | none=> rfl
      | some u=> rw [le p u z] at e3;cases e3
    exact ⟨p,e1,e2,e5,e4⟩
  cases r0 with
  | val w0=> exact kq (.val w0) h'' v H' e ((hs SB).le le) rr
  | own c=>
    obtain ⟨p,e1,cr,a,b,_⟩:=rr
    exact kq (.own c) h'' v H' e ((hs SB).le le) (own_end e1 cr a b)
  | slot i=>
    have es:σ'[i]? =some (some v):=rr
    have e:match env[i]? with
      | some (some (.val w))=> Qa (.val w) h''
      | some (some (.own c))=> Qa (.own c) h''
      | _=> False:=e
    split at e
    · rename_i w0 ei
      obtain ⟨u,e3,rv⟩:=SB.val i w0 ei
      rw [es] at e3;cases e3
      exact kq (.val w0) h'' v H' e ((hs SB).le le) rv
    · rename_i c ei
      obtain ⟨p,e3,cr,a,b⟩:=SB.own i c ei
      rw [es] at e3;cases e3
      exact kq (.own c) h'' _ H' e ((hs SB).le le) (own_end rfl cr a b)
    · exact e.elim
end
end Ab
namespace Ab
open PySem PySem.Spec PyProof.Rows L2 RZ
def A1Q (ta tb:AT):AT:=fun env h Q=> ta env h fun r env1 h1=> match view env1 h1 r with
  | .wv (.bl c)=> if c=true then tb env1 h1 Q else Q (.val (.bl false)) env1 h1
  | _=> False
def B1W (ta:AT):AT:=fun env h Q=> ta env h fun r env1 h1=> match view env1 h1 r with
  | .wv (.bl c)=> Q (.val (.bl (!c))) env1 h1
  | _=> False
section
variable {X:Cx} {G:Gx} {a b:Expr} {ta tb:AT} {pos:Pos} {rest:List Expr}
theorem C2D {env env1:A0} {h h1:AH} {σ:L2.St} {H H1:Hp} (x1:Xt env h σ H env1 h1 H1) {r:RV} {v:V} (f:R0 H1 r v):R0 H r v:=by
  cases r with
  | own c=> exact fun p e=> x1.fresh (f p e)
  | _=> trivial
theorem C4K {t:AT} {env env1:A0} {h h1:AH} {σ:L2.St} {H H1:Hp} {Q:VK} (m:B3 t) (S1:BS G env1 h1 σ H1) (x1:Xt env h σ H env1 h1 H1)
    (z:t env1 h1 fun r env' h'=> ∀v H',BS G env' h' σ H'→Xt env h σ H env' h' H'→RvRep G env' h' σ H' r v→R0 H r v→Q v H'):cE G t σ H1 Q:=
  ⟨env1,h1,S1,m env1 h1 _ _ (fun r env2 h2 z2 v H2 S2 x2 r2 f2=> z2 v H2 S2 (x1.trans x2) r2 (C2D x1 f2)) z⟩
theorem A3b (ha:AE X G a ta):AE X G (.BoolOp .And [a] pos) ta:=⟨ha.mono,pe_one ha.pe⟩
theorem A20 (ha:AE X G a ta) (hb:AE X G (.BoolOp .And (b::rest) pos) tb):AE X G (.BoolOp .And (a::b::rest) pos) (A1Q ta tb):=by
  refine ⟨fun env h Q Q' k q=> ha.mono env h _ _ (fun r e g z=> ?_) q,PE.imp (pe_and ha.pe hb.pe) fun σ H Q ⟨env,h,S,q⟩=> ⟨env,h,S,ha.mono env h _ _ (fun r e g z v H1 S1 x1 r1 f1=> ?_) q⟩⟩
  · split at z
    · rename_i c _
      cases c with
      | true=> exact iteT (hb.mono e g _ _ k (by simpa using z))
      | false=> exact iteF (k _ _ _ (by simpa using z))
    · exact z
  · have rv:=r1.vr S1
    split at z
    · rename_i c ec
      rw [ec] at rv
      refine ⟨c,rv.bl,?_⟩
      cases c with
      | true=> rw [if_pos rfl] at z;exact iteT (C4K hb.mono S1 x1 z)
      | false=> rw [if_neg Bool.false_ne_true] at z;exact iteF (z (.bl false) H1 S1 x1 (show Rep G.K H1 (.bl false) (.bl false) from .bl) trivial)
    · exact z.elim
theorem C5N (ha:AE X G a ta):AE X G (.UnaryOp .Not a pos) (B1W ta):=by
  refine ⟨fun env h Q Q' k q=> ha.mono env h _ _ (fun r e g z=> ?_) q,PE.imp (pe_not ha.pe) fun σ H Q ⟨env,h,S,q⟩=> ⟨env,h,S,ha.mono env h _ _ (fun r e g z v H1 S1 x1 r1 f1=> ?_) q⟩⟩
  · split at z
    · exact k _ _ _ z
    · exact z
  · have rv:=r1.vr S1
    split at z
    · rename_i c ec
      rw [ec] at rv
      exact ⟨c,rv.bl,z (.bl (!c)) H1 S1 x1 (show Rep G.K H1 (.bl (!c)) (.bl (!c)) from .bl) trivial⟩
    · exact z.elim
theorem B1L (ha:AE X G a ta) (hb:AE X G b tb):AE X G (.BinOp a .Pow b pos) (aOp2 (oII CPow fun i j=> .int (i ^ j.toNat)) ta tb):=A3D op_pow (B0O fun _ _ _=> .int) ha hb
end
structure AK (X:Cx) (G:Gx) (kws:List Keyword) (t:G2):Prop where
  mono:B3 t
  pk:PK X kws (cA G t)
theorem PK.imp {X:Cx} {e:List Keyword} {t t':TA} (h:PK X e t) (i:∀σ H Q,t' σ H Q→t σ H Q):PK X e t':=⟨fun pos pins s σ H Q I q=> h.run pos pins s σ H Q I (i σ H Q q)⟩
section
variable {X:Cx} {G:Gx} {k n:Nat} {f:Addr} {fd:FuncData} {ps ks:List Str} {sp:G1} {x:Str} {p pos kpos:Pos} {e:Expr} {es:List Expr} {kws:List Keyword} {nm:Option Str} {t tk:G2} {tv:D3} {E:AExc→A0→AH→Prop}
theorem B6K:AK X G [] aNil:=⟨aNil.mono,PK.imp pk_nil fun σ H Q ⟨env,h,S,q⟩=> q [] H S .refl .nil⟩
theorem B0o (a:AV X G e tv) (b:AK X G kws tk):AK X G (⟨nm,e,kpos⟩::kws) (aCons tv tk):=by
  refine ⟨aCons.mono a.mono b.mono,PK.imp (pk_cons a.pe b.pk) fun σ H Q ⟨env,h,S,q⟩=> ?_⟩
  refine ⟨env,h,S,a.mono env h _ _ (fun w env1 h1 z v H1 S1 x1 r1=> ?_) q⟩
  refine ⟨env1,h1,S1,b.mono env1 h1 _ _ (fun ws env2 h2 z vs H2 S2 x2 r2=> ?_) z⟩
  exact z (v::vs) H2 S2 (x1.trans x2) (.cons (Rep.mono (x2.keeps S1) w v r1) r2)
structure AKB (K:PySem.W.Frag) (fd:FuncData) (ps ks:List Str) (n:Nat) (gW:List W→List W→List W) where
  g:List Value→List Value→List Value
  gV:List V→List V→List V
  kb:KBinds K fd ps ks g gV
  rep:∀(H:Hp) (ws zs:List W) (vs us:List V),(gW ws zs).length=n→RepL K H ws vs→RepL K H zs us→RepL K H (gW ws zs) (gV vs us)
def aCallK (E:AExc→A0→AH→Prop) (sp:G1) (n:Nat) (gW:List W→List W→List W) (t tk:G2):AT:=fun env h Q=> t env h fun ws env1 h1=> tk env1 h1 fun zs env2 h2=> (gW ws zs).length=n∧sp (gW ws zs) h2 (fun r h3=> match r with
  | .val w=> Q (.val w) env2 h3
  | .own c=> Q (.own c) env2 h3) fun x h3=> E x env2 h3
theorem aCallK.mono {gW:List W→List W→List W} (m:Q7 sp) (a:B3 t) (b:B3 tk):B3 (aCallK E sp n gW t tk):=fun env h Q Q' k q=> a env h _ _ (fun ws e g z=> b e g _ _ (fun zs e g z=> ⟨z.1,m _ _ _ _ _ _ (fun r f y=> by
  cases r with
  | val w=> exact k _ _ _ y
  | own c=> exact k _ _ _ y) (fun x f y=> y) z.2⟩) z) q
end
end Ab
namespace Ab
open PySem PySem.Spec PyProof.Rows L2 RZ
section
variable {X:Cx} {G:Gx} {a b c:Expr} {ta tb tc:AT} {t:K9} {pos p:Pos}
theorem j3 (h:AE X G a ta) (he:∀whole,isTrue a X.env whole=(do let v ←whole;standAt a.pos;holding [v] (truthy v)):=by intro _;rfl):AP X G a (aTst ta):=C4h h fun t k=> pt_val k he
theorem B1l (ha:AE X G a ta) (hb:AE X G b tb):AP X G (.Compare a [.Lt] [b] pos) (aTst (aOp2 (oII (fun _ _=> True) fun i j=> .bl (decide (i < j))) ta tb)):=A1F op_lt (A3U fun _ _ _=> .bl) ha hb (nomark _)
theorem B7A (ha:AE X G a ta) (hb:AE X G b tb):AP X G (.Compare a [.Gt] [b] pos) (aTst (aOp2 (oII (fun _ _=> True) fun i j=> .bl (decide (j < i))) ta tb)):=A1F op_gt (A3U fun _ _ _=> .bl) ha hb (nomark _)
theorem B1Y (ha:AE X G a ta) (hb:AE X G b tb):AP X G (.Compare a [.GtE] [b] pos) (aTst (aOp2 (oII (fun _ _=> True) fun i j=> .bl (decide (j≤i))) ta tb)):=A1F op_ge (A3U fun _ _ _=> .bl) ha hb (nomark _)
theorem y9 (gk:G.K=X.K) (hu:X.A.units+64 < cLine) (ha:AE X G a ta) (hb:AE X G b tb):AP X G (.Compare a [.Eq] [b] pos) (aTst (aOp2 (D6 false) ta tb)):=A1F (B6e hu) (gk▸B0y) ha hb (nomark _)
theorem A1K (gk:G.K=X.K) (hu:X.A.units+64 < cLine) (ha:AE X G a ta) (hb:AE X G b tb):AP X G (.Compare a [.NotEq] [b] pos) (aTst (aOp2 (D6 true) ta tb)):=A1F (C4p hu) (gk▸B0y) ha hb (nomark _)
theorem C5l (ha:AE X G a ta) (hb:AE X G b tb):AE X G (.Compare a [.Is] [b] pos) (aOp2 (N5 false) ta tb):=A5p op_isN B51 ha hb (nomark _)
theorem C4t (ha:AE X G a ta) (hb:AE X G b tb):AP X G (.Compare a [.Is] [b] pos) (aTst (aOp2 (N5 false) ta tb)):=A1F op_isN B51 ha hb (nomark _)
theorem B0k (ha:AE X G a ta) (hb:AE X G b tb):AP X G (.Compare a [.IsNot] [b] pos) (aTst (aOp2 (N5 true) ta tb)):=A1F op_notN C2g ha hb (nomark _)
theorem C6h (gk:G.K=X.K) (hu:X.A.units+64 < cLine) (ha:AE X G a ta) (hb:AE X G b tb) (hm:behindInMarks .In b=false:=by rfl):AE X G (.Compare a [.In] [b] pos) (aOp2 (O7 false) ta tb):=A5p (B6W hu) (gk▸B0S) ha hb hm
theorem A8t (gk:G.K=X.K) (hu:X.A.units+64 < cLine) (ha:AE X G a ta) (hb:AE X G b tb) (hm:behindInMarks .In b=false:=by rfl):AP X G (.Compare a [.In] [b] pos) (aTst (aOp2 (O7 false) ta tb)):=A1F (B6W hu) (gk▸B0S) ha hb hm
theorem C5T (gk:G.K=X.K) (hu:X.A.units+64 < cLine) (ha:AE X G a ta) (hb:AE X G b tb) (hm:behindInMarks .NotIn b=false:=by rfl):AP X G (.Compare a [.NotIn] [b] pos) (aTst (aOp2 (O7 true) ta tb)):=A1F (C1H hu) (gk▸B0S) ha hb hm
def A6N (ta:AT):AT:=fun env h Q=> ta env h fun r env1 h1=> match view env1 h1 r with
  | .wv (.int i)=> Q (.val (.int (-i))) env1 h1
  | _=> False
theorem B1G (ha:AE X G a ta):AE X G (.UnaryOp .USub a pos) (A6N ta):=by
  refine ⟨fun env h Q Q' k q=> ha.mono env h _ _ (fun r e g z=> ?_) q,PE.imp (pe_un un_neg ha.pe) fun σ H Q ⟨env,h,S,q⟩=> ⟨env,h,S,ha.mono env h _ _ (fun r e g z v H1 S1 x1 r1 f1=> ?_) q⟩⟩
  · split at z
    · exact k _ _ _ z
    · exact z
  · have rv:=r1.vr S1
    split at z
    · rename_i i ei
      rw [ei] at rv
      exact ⟨i,rv.int,z _ H1 S1 x1 (show Rep G.K H1 _ _ from .int) trivial⟩
    · exact z.elim
def aChn (P P':Int→Int→Bool) (ta tb tc:AT):AT:=fun env h Q=> ta env h fun ra env1 h1=> tb env1 h1 fun rb env2 h2=> match view env2 h2 ra,view env2 h2 rb with
  | .wv (.int i),.wv (.int j)=> if P i j=true then tc env2 h2 fun rc env3 h3=> (match view env3 h3 rc with
      | .wv (.int k)=> Q (.val (.bl (P' j k))) env3 h3
      | _=> False) else Q (.val (.bl false)) env2 h2
  | _,_=> False
theorem aChn.mono {P P':Int→Int→Bool} (ma:B3 ta) (mb:B3 tb) (mc:B3 tc):B3 (aChn P P' ta tb tc):=fun env h Q Q' k q=> ma env h _ _ (fun ra e g z=> mb e g _ _ (fun rb e g z=> by
  split at z
  · refine ite2 (fun y=> ?_) fun y=> k _ _ _ (by rw [if_neg y] at z;exact z)
    rw [if_pos y] at z
    refine mc _ _ _ _ (fun rc e g z=> ?_) z
    split at z
    · exact k _ _ _ z
    · exact z
  · exact z) z) q
theorem B44 {P P':Int→Int→Bool} {σ:L2.St} {H:Hp} {Q:VK} (ma:B3 ta) (mb:B3 tb) (mc:B3 tc) (q:cE G (aChn P P' ta tb tc) σ H Q):
    tChain (rI0 fun i j=> .bl (P i j)) (rI0 fun i j=> .bl (P' i j)) (cE G ta) (cE G tb) (cE G tc) σ H Q:=by
  obtain ⟨env,h,S,q⟩:=q
  refine ⟨env,h,S,ma env h _ _ (fun ra env1 h1 z v H1 S1 x1 r1 f1=> ?_) q⟩
  refine ⟨env1,h1,S1,mb env1 h1 _ _ (fun rb env2 h2 z u H2 S2 x2 r2 f2=> ?_) z⟩
  have va:=(r1.xt S1 x2).vr S2
  have vb:=r2.vr S2
  split at z
  · rename_i i j ei ej
    rw [ei] at va
    rw [ej] at vb
    refine ⟨i,j,va.int,vb.int,P i j,rfl,ite2 (fun y=> ?_) fun y=> ?_⟩
    · rw [if_pos y] at z
      refine ⟨env2,h2,S2,mc env2 h2 _ _ (fun rc env3 h3 z w H3 S3 x3 r3 f3=> ?_) z⟩
      have vc:=r3.vr S3
      split at z
      · rename_i k ek
        rw [ek] at vc
        exact ⟨j,k,vb.int,vc.int,z _ H3 S3 (x1.trans (x2.trans x3)) (show Rep G.K H3 _ _ from .bl) trivial⟩
      · exact z.elim
    · rw [if_neg y] at z
      exact z _ H2 S2 (x1.trans x2) (show Rep G.K H2 _ _ from .bl) trivial
  · exact z.elim
theorem B57 {op op':CmpOp} {P P':Int→Int→Bool} (ho:OpR X (compareOp op) (rI0 fun i j=> .bl (P i j))) (ho':OpR X (compareOp op') (rI0 fun i j=> .bl (P' i j))) (ha:AE X G a ta) (hb:AE X G b tb) (hc:AE X G c tc)
    (hm:lastMarks [op,op'] [b,c]=false:=by with_unfolding_all rfl):AE X G (.Compare a [op,op'] [b,c] pos) (aChn P P' ta tb tc):=
  ⟨aChn.mono ha.mono hb.mono hc.mono,PE.imp (pe_chain ho ho' ha.pe hb.pe hc.pe hm) fun _ _ _ q=> B44 ha.mono hb.mono hc.mono q⟩
theorem A50 {op op':CmpOp} {P P':Int→Int→Bool} (ho:OpR X (compareOp op) (rI0 fun i j=> .bl (P i j))) (ho':OpR X (compareOp op') (rI0 fun i j=> .bl (P' i j))) (ha:AE X G a ta) (hb:AE X G b tb) (hc:AE X G c tc)
    (hm:lastMarks [op,op'] [b,c]=false:=by with_unfolding_all rfl):AP X G (.Compare a [op,op'] [b,c] pos) (aTst (aChn P P' ta tb tc)):=by
  refine ⟨aTst.mono (aChn.mono ha.mono hb.mono hc.mono),PT.imp (pt_chain ho ho' ha.pe hb.pe hc.pe hm) fun σ H Q ⟨env,k,S,q⟩=> ?_⟩
  refine B44 ha.mono hb.mono hc.mono ⟨env,k,S,aChn.mono ha.mono hb.mono hc.mono env k _ _ (fun r env1 h1 z v H1 S1 x1 r1 f1=> ?_) q⟩
  have r2:=r1.vr S1
  split at z
  · rename_i b e
    rw [e] at r2
    exact ⟨b,r2.bl,z H1 S1 x1⟩
  · exact z.elim
end
structure Ok (P:Program) (w:World) (K:PySem.W.Frag) (mg:Str→Option Value) (base:Heap) (x:Str) (st:Stmt) (k n:Nat) (ps:List Str) (sp:G1):Prop where
  m:Q7 sp
  ex:∃f fd,mg x=some (.ref f)∧FunD K x x (defArgs st) (defBody st) (defScope st) [] [] f fd∧FnOk P w K mg base (L2.CX P w) k f fd ps (P8 K n sp)
def O8 (x:Str) (st:Stmt) (ps:List Str):Prop:=∀(kV doc pm:Value) (an:Option Addr) (cdv ct:Value) (us:List Value),us.length=ps.length→bindArgs (PySem.W.fnOf x x (defArgs st) (defBody st) (defScope st) .none kV doc pm an cdv ct) ⟨us,[]⟩=pure (ps.zip us)
section
variable {X:Cx} {G:Gx} {sp:G1} {st:Stmt} {k j n:Nat} {ps:List Str} {x:Str} {p pos:Pos} {e:Expr} {es:List Expr} {t:G2} {E:AExc→A0→AH→Prop}
theorem C1I (gk:G.K=X.K) (O:Ok X.prog X.w X.K X.mg X.base x st k n ps sp) (bd:O8 x st ps) (hr:Room j X.A) (kj:k≤j) (hg:Gl X x) (tk:Takes X (cW G E))
    (ha:AA X G (e::es) t) (hn:∀env h (R:List W→A0→AH→Prop),t env h R→t env h fun ws e g=> ws.length=n∧R ws e g)
    (hdb:(x==("__debug__":Str))=false:=by decide) (he:starEach (e::es) X.env=(false,eval e X.env)::starEach es X.env:=by rfl) (hpl:(backTo pos (starEach es X.env)).any (·.1)=false:=by rfl):
    AE X G (.Call (.Name x p) (e::es) [] pos) (aCall E sp t):=by
  obtain ⟨f,fd,hm,FD,F⟩:=O.ex
  exact C3V (G:=G) (gk▸F) O.m (hr.mono kj) hg hm FD.kp (FD.bindsN bd) tk ha hn hdb he hpl
structure AN (X:Cx) (G:Gx) (es:List Expr) (n:Nat) (t:G2):Prop where
  aa:AA X G es t
  ln:∀env h (R:List W→A0→AH→Prop),t env h R→t env h fun ws e g=> ws.length=n∧R ws e g
theorem E7:AN X G [] 0 aNil:=⟨N4,B53⟩
theorem B7 {tv:D3} (a:AV X G e tv) (b:AN X G es n t) (hs:starEach (e::es) X.env=(false,eval e X.env)::starEach es X.env:=by rfl):AN X G (e::es) (n+1) (aCons tv t):=
  ⟨E9 a b.aa hs,C1p a.mono b.ln b.aa.mono⟩
theorem K2 (gk:G.K=X.K) (O:Ok X.prog X.w X.K X.mg X.base x st k n ps sp) (bd:O8 x st ps) (hr:Room j X.A) (kj:k≤j) (hg:Gl X x) (tk:Takes X (cW G E))
    (ha:AN X G (e::es) n t) (hdb:(x==("__debug__":Str))=false:=by decide) (he:starEach (e::es) X.env=(false,eval e X.env)::starEach es X.env:=by rfl) (hpl:(backTo pos (starEach es X.env)).any (·.1)=false:=by rfl):
    AE X G (.Call (.Name x p) (e::es) [] pos) (aCall E sp t):=C1I gk O bd hr kj hg tk ha.aa ha.ln hdb he hpl
end
abbrev E0:AExc→A0→AH→Prop:=fun _ _ _=> False
theorem C26 {P:Program} {w:World} {K:PySem.W.Frag} {mg:Str→Option Value} {base:Heap} {x:Str} {st:Stmt} {f:Addr} {fd:FuncData} {ps:List Str} {n:Nat} (hm:mg x=some (.ref f)) (F:FunD K x x (defArgs st) (defBody st) (defScope st) [] [] f fd):Ok P w K mg base x st 0 n ps (fun _ _ _ _=> False):=
  ⟨fun _ _ _ _ _ _ _ _ z=> z,f,fd,hm,F,⟨fun _ _ _ _ ⟨_,_,_,_,_,_,_,_,z,_⟩=> z.elim,fun _ _ _ _ _ _ _ _ _ _ _ _ _ ⟨_,_,_,_,_,_,_,_,z,_⟩=> z.elim⟩⟩
section
variable {P:Program} {w:World} {K:PySem.W.Frag} {mg:Str→Option Value} {base:Heap} {x:Str} {st:Stmt} {f:Addr} {fd:FuncData} {N ps:List Str} {k n:Nat} {sp:G1}
theorem Ok.mk' {t:(AExc→A0→AH→Prop)→C0} (sm:Q7 sp) (hm:mg x=some (.ref f)) (F:FunD K x x (defArgs st) (defBody st) (defScope st) [] [] f fd) (S:FnScope N ps (defScope st)) (hn:ps.length=n)
    (hb:∀(cdv:Value) (A:Around) (outer:List Env) (s:Shared) (H:Hp) (E:XK) (G:Gx) (E':AExc→A0→AH→Prop),Room k (A.deeper (envOfC x (defScope st) s.heap.objs.size f cdv))→G.K=K→Takes (bx P w K mg base N x (defScope st) f cdv A outer s H E) (cW G E')→
      ASs (bx P w K mg base N x (defScope st) f cdv A outer s H E) G (defBody st) (t E'))
    (hq:∀ws h Qa Ea,ws.length=n→sp ws h Qa Ea→t (C4 Ea) (B6 Qa) (G8 N.length ws) h):Ok P w K mg base x st (k+1) n ps sp:=
  ⟨sm,f,fd,hm,F,B1O [] [] F S hn hb hq⟩
end
end Ab
namespace Ab
open PySem PySem.Spec PyProof.Rows L2 RZ
theorem O1:bootBuiltins "len"=some (.builtin "len"):=by decide+kernel
theorem C4c:bootBuiltins "sum"=some (.builtin "sum"):=by decide+kernel
theorem B6h:bootBuiltins "any"=some (.builtin "any"):=by decide+kernel
theorem B6i:bootBuiltins "all"=some (.builtin "all"):=by decide+kernel
theorem v9:bootBuiltins "isinstance"=some (.builtin "isinstance"):=by decide+kernel
theorem A5O:bootBuiltins "tuple"=some (.type "tuple"):=by decide+kernel
theorem A2n:bootBuiltins "list"=some (.type "list"):=by decide+kernel
theorem B0L:bootBuiltins "bool"=some (.type "bool"):=by decide+kernel
theorem B6C:bootBuiltins "int"=some (.type "int"):=by decide+kernel
theorem B1E:bootBuiltins "str"=some (.type "str"):=by decide+kernel
section
variable {X:Cx} {G:Gx}
theorem z9 {x:Str} {T:String} {pos:Pos} (hg:Gl X x) (hm:X.mg x=none) (hv:bootBuiltins x=some (.type T)) (hn:x≠"__name__":=by decide) (hd:(x==("__debug__":Str))=false:=by decide):AE X G (.Name x pos) (aC (.ty T)):=
  A2O (v:=V.ty T) (pe_bltn (v:=V.ty T) hg hm hv (show _=_ from rfl) hn hd) fun _=> .ty
variable {elt tg iter:Expr} {ifs:List Expr} {scope:Scope} {own:List (Str×Nat)} {pos:Pos} {ti:U5} {g:H9} {tt:K9} {te:D3} {sl:List Nat}
theorem A1G (hc:X.calm=true) (hN:X.N.Nodup) (hi:AI X G tg iter ti) (ok:BlkOk X.N X.env.scope scope own) (hsl:∀i∈sl,i∈own.map (·.2))
    (hg:∀(s:Shared) (H:Hp) (C:Addr) (cl:List (Str×Addr)) (fp:List Addr),AG (X.blk s H scope (compEnvC scope cl C X.env) fp) G tg sl g) (ht:∀(s:Shared) (H:Hp) (C:Addr) (cl:List (Str×Addr)) (fp:List Addr),APs (X.blk s H scope (compEnvC scope cl C X.env) fp) G ifs tt)
    (he:∀(s:Shared) (H:Hp) (C:Addr) (cl:List (Str×Addr)) (fp:List Addr),AV (X.blk s H scope (compEnvC scope cl C X.env) fp) G elt te) (hs:∀x,foldedSetIterable iter X.env x=pure x:=by intro _;rfl):
    AE X G (.ListComp elt [⟨tg,iter,ifs,0⟩] scope pos) (W8 (own.map (·.2)) ti g tt te):=
  C6K hc hN hi ok hsl hg ht he (hg X.s_0 X.H_0 0 [] []).mono (ht X.s_0 X.H_0 0 [] []).mono (he X.s_0 X.H_0 0 [] []).mono hs
end
def A0w {α:Type} (d:α) (perm:List Nat) (us ws:List α):List α:=if us.isEmpty && ws.length==perm.length then perm.map fun i=> ws.getD i d else []
abbrev gKw (perm:List Nat):List W→List W→List W:=A0w W.non perm
def C6e (x:Str) (st:Stmt) (ps ks:List Str) (perm:List Nat):Prop:=∀(kV doc pm:Value) (an:Option Addr) (cdv ct:Value) (ws:List Value),ws.length=perm.length→
  bindArgs (PySem.W.fnOf x x (defArgs st) (defBody st) (defScope st) .none kV doc pm an cdv ct) ⟨[],ks.zip ws⟩=pure (ps.zip (perm.map fun i=> ws.getD i .none))
theorem RepL.getD' {K:PySem.W.Frag} {H:Hp}:∀{ws:List W} {vs:List V} (i:Nat),RepL K H ws vs→Rep K H (ws.getD i .non) (vs.getD i .non)
  | [],vs,i,r=> by rw [r.of_nil];simpa using Rep.non
  | w::ws,vs,i,r=> by
    obtain ⟨v,t,rfl,a,b⟩:=r.of_cons
    cases i with
    | zero=> simpa using a
    | succ i=> simpa using b.getD' i
theorem Vals.getD':∀{vs:List V} {us:List Value} (i:Nat),Vals vs us→RelV (vs.getD i .non) (us.getD i .none)
  | _,_,i,.nil=> by cases i <;> rfl
  | _,_,0,.cons a b=> by simpa using a
  | _,_,i+1,.cons a b=> by simpa using Vals.getD' i b
theorem C10 {K:PySem.W.Frag} {H:Hp} {perm:List Nat} {ws zs:List W} {vs us:List V} (r:RepL K H ws vs) (q:RepL K H zs us):RepL K H (A0w .non perm ws zs) (A0w .non perm vs us):=by
  unfold A0w
  have e1:ws.isEmpty=vs.isEmpty:=by
    have:=r.length
    cases ws <;> cases vs <;> simp_all
  rw [e1,q.length]
  split
  · clear e1
    induction perm with
    | nil=> exact .nil
    | cons i t ih=>
      rename_i hh
      refine .cons (q.getD' i) ?_
      have:∀t:List Nat,RepL K H (t.map fun i=> zs.getD i .non) (t.map fun i=> us.getD i .non):=fun t=> by
        induction t with
        | nil=> exact .nil
        | cons i t ih=> exact .cons (q.getD' i) ih
      exact this t
  · exact .nil
theorem C06 {perm:List Nat} {vs:List V} {us:List Value} {zs:List V} {ws:List Value} (r:Vals vs us) (q:Vals zs ws):Vals (A0w .non perm vs zs) (A0w .none perm us ws):=by
  unfold A0w
  have e1:vs.isEmpty=us.isEmpty:=by cases r <;> rfl
  rw [e1,q.length]
  split
  · have:∀t:List Nat,Vals (t.map fun i=> zs.getD i .non) (t.map fun i=> ws.getD i .none):=fun t=> by
      induction t with
      | nil=> exact .nil
      | cons i t ih=> exact .cons (Vals.getD' i q) ih
    exact this perm
  · exact .nil
theorem AKB.all {K:PySem.W.Frag} {x:Str} {st:Stmt} {f:Addr} {fd:FuncData} {ps ks:List Str} {perm:List Nat} (F:FunD K x x (defArgs st) (defBody st) (defScope st) [] [] f fd) (hp:ps.length=perm.length) (h0:0 < perm.length) (h:C6e x st ps ks perm):Nonempty (AKB K fd ps ks perm.length (gKw perm)):=by
  refine ⟨⟨A0w .none perm,A0w .non perm,⟨fun s us ws X hl=> ?_,fun r q=> C06 r q⟩,fun H ws zs vs us _ r q=> C10 r q⟩⟩
  obtain ⟨oc,od,dV,kV,doc,pm,an,cdv,ct,osl,rfl,lk,hcd,hD,hK⟩:=F.ex
  rcases hD with ⟨_,rfl⟩ | ⟨e,_⟩
  · unfold A0w at hl ⊢
    split at hl
    · rename_i hc
      rw [if_pos hc]
      simp only [Bool.and_eq_true,List.isEmpty_iff,beq_iff_eq] at hc
      rw [hc.1]
      exact .of_eq (h kV doc pm an cdv ct ws hc.2)
    · rw [hp] at hl
      exact absurd hl (by simp;omega)
  · exact absurd rfl e
section
variable {X:Cx} {G:Gx} {sp:G1} {st:Stmt} {k j:Nat} {ps ks:List Str} {x:Str} {p pos:Pos} {kws:List Keyword} {tk:G2} {E:AExc→A0→AH→Prop} {perm:List Nat}
end
theorem Ok.up {P:Program} {w:World} {K:PySem.W.Frag} {mg:Str→Option Value} {base:Heap} {x:Str} {st:Stmt} {ps:List Str} {k k' n:Nat} {sp sp':G1} (O:Ok P w K mg base x st k n ps sp) (h:k≤k') (m:Q7 sp') (i:∀ws h Q E,sp' ws h Q E→sp ws h Q E):Ok P w K mg base x st k' n ps sp':=by
  obtain ⟨f,fd,hm,FD,F⟩:=O.ex
  exact ⟨m,f,fd,hm,FD,(F.imp fun vs H Q E ⟨ws,h,Qa,Ea,hl,hp,tb,r,q,z⟩=> ⟨ws,h,Qa,Ea,hl,hp,tb,r,i _ _ _ _ q,z⟩).mono h⟩
end Ab
namespace Ab
open PySem PySem.Spec PyProof.Rows L2 RZ
def pureSp (P:List W→RR→Prop):G1:=fun ws h Q _=> ∃r,P ws r∧Q r h
theorem pureSp.m {P:List W→RR→Prop}:Q7 (pureSp P):=fun _ _ _ _ _ _ k _ ⟨r,p,q⟩=> ⟨r,p,k _ _ q⟩
def Bt (p:Addr) (h h':AH):Prop:=∀q,q≠p→h' q=h q
theorem Bt.refl {p:Addr} {h:AH}:Bt p h h:=fun _ _=> rfl
theorem Bt.trans {p:Addr} {h h1 h2:AH} (a:Bt p h h1) (b:Bt p h1 h2):Bt p h h2:=fun q n=> (b q n).trans (a q n)
theorem Bt.upd {p:Addr} {h:AH} {o:AO}:Bt p h (B9 h p o):=fun q n=> by unfold B9;rw [if_neg n]
section
variable {vs:List Nat} {g:H9} {tt:K9} {te:D3} {env:A0} {h:AH} {Q:List W→A0→AH→Prop}
inductive All2 {α β:Type} (P:α→β→Prop):List α→List β→Prop where
  | nil:All2 P [] []
  | cons {a:α} {b:β} {as:List α} {bs:List β}:P a b→All2 P as bs→All2 P (a::as) (b::bs)
theorem All2.length {α β:Type} {P:α→β→Prop} {as:List α} {bs:List β} (r:All2 P as bs):as.length=bs.length:=by
  induction r with
  | nil=> rfl
  | cons _ _ ih=> rw [List.length_cons,List.length_cons,ih]
end
section
variable {g:H9} {tb:C0} {D:AEnds}
end
end Ab
namespace Ab
open PySem PySem.Spec PyProof.Rows L2 RZ
section
variable {xs ys:List W} {i j:Int} {Q:RV→Prop} {v:Vw} {a b c d e w:W} {n:String}
def ixK (v:Vw) (i:Int) (Q:RV→Prop):Prop:=match v.items.bind fun xs=> atI xs i with
  | some w=> Q (.val w)
  | none=> False
theorem B1A {v:Vw}:(∃xs w,v.items=some xs∧atI xs i=some w∧Q (.val w))=ixK v i Q:=by
  unfold ixK
  refine propext ⟨fun ⟨xs,w,e,f,q⟩=> ?_,fun q=> ?_⟩
  · rw [e]
    show match atI xs i with
      | some w=> Q (.val w)
      | none=> False
    rw [f];exact q
  · split at q
    · rename_i w e
      obtain ⟨xs,e1,e2⟩:=Option.bind_eq_some_iff.mp e
      exact ⟨xs,w,e1,e2,q⟩
    · exact q.elim
theorem C6t {v b:Vw}:oIx v b Q=(match b with
  | .wv (.int i)=> match v with
    | .wv (.str x)=> x.length≤sizeLine∧∃c,L2.atI x.cps.toList i=some c∧Q (.val (.str ⟨#[c]⟩))
    | v=> ixK v i Q
  | _=> False):=by
  cases b with
  | wv w=> cases w with
    | int i=> cases v with
      | wv u=> cases u <;> first | rfl | exact B1A
      | cv c=> exact B1A
      | bad=> exact B1A
    | _=> rfl
  | _=> rfl
theorem A8v:D2 [v] Q=(match v with
  | .wv (.str x)=> x.length≤sizeLine∧Q (.val (.int x.length))
  | v=> match v.items with
    | some xs=> Q (.val (.int xs.length))
    | none=> False):=by
  cases v with
  | wv w=> cases w <;> simp [D2,Vw.items]
  | cv c=> cases c <;> simp [D2,Vw.items]
  | bad=> simp [D2,Vw.items]
theorem B0w:U4 [v] Q=(match v.items with
    | some xs=> Q (.val (.tup xs))
    | none=> False):=by
  unfold U4
  cases e:v.items <;> simp [e]
theorem A8Q:Q4 [v] Q=(match v.items with
    | some xs=> Q (.own (.seq xs))
    | none=> False):=by
  unfold Q4
  cases e:v.items <;> simp [e]
theorem B6z {v:Vw} {neg:Bool}:N5 neg v (.wv .non) Q=(v≠ .bad∧Q (.val (.bl (if neg then !v.isNon else v.isNon)))):=by
  simp only [N5,true_and]
theorem C3t:N3 (.int i) (.int j)=decide (i=j):=rfl
end
theorem A2E {i j:Int} (h0:0≤i) (h1:i < 2 ^ 200) (g0:0≤j) (g1:j < 2 ^ 200):CMulW i j:=
  wide_mul (a:=200) (b:=200) (by omega) (by omega) (by decide) (by decide) (by decide)
theorem A8G {xs:List W} {k:Nat}:o8 xs none (some (k:Int))=xs.take k:=by
  unfold o8
  rw [HT.sIx_none,HT.sIx_nat]
  simp only [List.drop_zero,Nat.sub_zero]
  rcases Nat.le_total k xs.length with h | h
  · rw [Nat.min_eq_left h]
  · rw [Nat.min_eq_right h,List.take_of_length_le (Nat.le_refl _),List.take_of_length_le h]
theorem B64 {v:Vw} {T:String} {Q:RV→Prop}:F6 [v,.wv (.ty T)] Q=(match v.tyName with
  | some n=> match v3 n T with
    | some b=> Q (.val (.bl b))
    | none=> False
  | none=> False):=by
  refine propext ⟨fun q=> ?_,fun q=> ?_⟩
  · obtain ⟨n,b,e,f,q⟩:∃n b,v.tyName=some n∧v3 n T=some b∧Q (.val (.bl b)):=q
    simp only [e,f]
    exact q
  · show ∃n b,v.tyName=some n∧v3 n T=some b∧Q (.val (.bl b))
    split at q
    · rename_i n e
      split at q
      · rename_i b f
        exact ⟨n,b,e,f,q⟩
      · exact q.elim
    · exact q.elim
mutual
def W.fit:Nat→W→Bool
  | _,.non=> true
  | _,.bl _=> true
  | _,.int _=> true
  | _,.str _=> true
  | n+1,.tup xs=> decide (xs.length≤100000) && W.fitL n xs
  | n+1,.lst xs=> decide (xs.length≤100000) && W.fitL n xs
  | _,_=> false
def W.fitL:Nat→List W→Bool
  | _,[]=> true
  | n,x::xs=> W.fit n x && W.fitL n xs
end
theorem A05 {lo:Int} {n:Nat}:(T1 lo n).length=n:=by simp [T1]
end Ab
namespace Ab
open PySem PySem.Spec PyProof.Rows L2 RZ
section
variable {P:Program} {w:World} {A:Around} {E:Value→Shared→Prop}
theorem C0g {I:Addr} {fp:List Addr} {n k:Nat} {Pv:Nat→Value→Prop} {St:Nat→Heap→Prop} (W:Walks P w A I fp [I] n Pv St) (hk:k≤n) (tp:Nat):
    WalksS P w A I fp [I] (fun x y=> x=y) (n - k) (fun i v=> Pv (k+i) v) (fun i s=> St (k+i) s.heap∧tp≤s.toks) where
  sub:=W.sub
  grefl:=fun _=> rfl
  gtrans:=fun _ _ _ x y=> x.trans y
  frame:=fun i s h' tk ⟨x,t⟩ y z=> ⟨W.frame _ _ _ x z,Nat.le_trans t y⟩
  item:=fun i s Q E hi ⟨x,t⟩ hQ=> wpAny_with_toks (n:=s.toks) (Nat.le_refl _) (W.item (k+i) s _ _ (by omega) x fun v h' tk pv x' same ht=> hQ v _ pv ⟨x',Nat.le_trans t ht⟩ ⟨same,rfl,rfl,rfl,ht⟩)
  done:=fun s Q E ⟨x,t⟩ hQ=> wpAny_with_toks (n:=s.toks) (Nat.le_refl _) (W.done s _ _ (by rwa [show k+(n - k)=n by omega] at x) fun h' tk same ht=> hQ _ ⟨same,rfl,rfl,rfl,ht⟩)
  self:=fun i s Q E ⟨x,_⟩ q=> W.self _ s Q E x q
theorem C1u {xs:Array Value} {acc:Array Value} {k:Nat} (h:ItemsOf (fun i v=> xs[k+i]? =some v) acc (xs.size - k)):acc.toList=xs.toList.drop k:=by
  obtain ⟨l,g⟩:=h
  refine List.ext_getElem? fun i=> ?_
  rw [List.getElem?_drop]
  by_cases hi:i < acc.size
  · have e:acc[i]? =some acc[i]:=by simp [hi]
    have e2:=g i _ e
    simpa using e.trans e2.symm
  · rw [List.getElem?_eq_none (by simpa using hi),List.getElem?_eq_none (by simp;omega)]
theorem B30 {s:Shared} {a:Addr} {xs:Array Value} {T:String} {St:Nat→Heap→Prop} {h1:Heap} {x:Value} {Q:List Value→Shared→Prop}
    (hT:T="str_ascii_iterator"∨T="str_iterator"∨T="list_iterator"∨T="tuple_iterator")
    (hN:∀(Q:Bool→Shared→Prop),Q false s→wpAny (model P w) A (notIterableAtAll (.ref a)) Q E s)
    (hI:∀(Q:Value→Shared→Prop),Q (.ref s.heap.objs.size) { s with heap:=h1 }→wpAny (model P w) A (pyIter (.ref a)) Q E s)
    (W:∀B:Around,B.handled=none→Walks P w B s.heap.objs.size [s.heap.objs.size,a] [s.heap.objs.size] xs.size (fun i v=> xs[i]? =some v) St)
    (ty:∀i h (t:Shared),t.heap=h→St i h→t.TypeIs (.ref s.heap.objs.size) T) (h0:St 0 h1) (hh:A.handled=none) (hh1:A.in1.handled=none) (big:xs.size≤sizeLine) (old:∀b o,s.heap.get? b=some o→h1.get? b=some o) (ha:a < s.heap.objs.size)
    (hx:xs[0]? =some x) (sz:s.heap.objs.size < h1.objs.size)
    (hQ:∀(hp:Heap) (tk:Nat),(∀b o,s.heap.get? b=some o→hp.get? b=some o)→s.toks≤tk→Q [x,.ref hp.objs.size] { s with heap:=hp.push { cls:= .type "list",data:= .seq (xs.toList.drop 1).toArray },toks:=tk }):
    wpAny (model P w) A (unpackItems (.ref a) 2 (some 1)) Q E s:=by
  have h0':0 < xs.size:=(Array.getElem?_eq_some_iff.mp hx).1
  unfold unpackItems
  refine wpAny_bind (hN _ ?_)
  rw [if_neg Bool.false_ne_true]
  refine wpAny_bind (wpAny_holding (hI _ ?_))
  show wpAny _ _ (holding [Value.ref s.heap.objs.size] (draw (.ref s.heap.objs.size) 1) >>=_) _ _ _
  refine wpAny_bind (wpAny_holding ?_)
  show wpAny _ _ (pyNext (.ref s.heap.objs.size) >>=_) _ _ _
  refine wpAny_bind (wpAny_with_toks (n:=s.toks) (Nat.le_refl _) ((W A hh).item 0 _ _ _ h0' h0 fun v h2 tk pv st2 same ht=> ?_))
  have ev:v=x:=Option.some.inj (pv.symm.trans hx)
  subst ev
  show wpAny _ _ (holding [v] (draw (.ref s.heap.objs.size) 0) >>=_) _ _ _
  refine wpAny_bind (wpAny_holding (show wpAny _ _ (pure []) _ _ _ from wpAny_pure (wpAny_pure ?_)))
  rw [if_neg (by simp)]
  have old2:∀b o,s.heap.get? b=some o→h2.get? b=some o:=fun b o e=> same b o (fun z=> by
    have lt:=Heap.lt_size e
    have e3:b=s.heap.objs.size:=by simpa using z
    rw [e3] at lt
    exact Nat.lt_irrefl _ lt) (old b o e)
  have g0:s.heap.objs.size < h2.objs.size:=by
    obtain ⟨o,e,_⟩:=ty (0+1) h2 { s with heap:=h2 } rfl st2
    exact Heap.lt_size e
  refine wpAny_bind (wpAny_holding (wpAny_collect_iter hT (C0g (W A.in1 hh1) h0' tk) (fun i t ⟨y,_⟩=> ty _ _ t rfl y) ⟨st2,Nat.le_refl _⟩ (fun b hb=> ?_) (by simp) (fun s' acc mv it=> ?_) (Nat.le_trans (Nat.sub_le _ _) big)))
  · have e:b=s.heap.objs.size∨b=a:=by simpa using hb
    rcases e with e | e
    · rw [e];exact g0
    · rw [e];exact Nat.lt_trans ha g0
  · have e:acc.toList=xs.toList.drop 1:=C1u it
    rw [e]
    rw [if_neg (by omega)]
    show wpAny _ _ (newList (List.take ((List.drop 1 xs.toList).length - 0) (List.drop 1 xs.toList)) >>=fun l=> pure ([v]++[l]++List.drop ((List.drop 1 xs.toList).length - 0) (List.drop 1 xs.toList))) Q E s'
    rw [Nat.sub_zero,List.take_length,List.drop_length]
    obtain ⟨hp,ge,dr,tk2,os⟩:=s'
    obtain ⟨m1,m2,m3,m4,m5⟩:=mv
    cases m2
    cases m3
    cases m4
    refine wpAny_bind (wpAny_newObj_type (wpAny_pure ?_) (by show (List.drop 1 xs.toList).toArray.size≤sizeLine;simp;omega))
    have old3:∀b o,s.heap.get? b=some o→hp.get? b=some o:=fun b o e=> m1 b o (fun z=> by
      have lt:=Heap.lt_size e
      have e3:b=s.heap.objs.size:=by simpa using z
      rw [e3] at lt
      exact Nat.lt_irrefl _ lt) (old2 b o e)
    exact hQ hp tk2 old3 (Nat.le_trans ht m5)
theorem C0l {s:Shared} {a:Addr} {xs:Array Value} {x:Value} {Q:List Value→Shared→Prop} (hs:s.heap.IsTuple a xs) (hh:A.handled=none) (hh1:A.in1.handled=none) (big:xs.size≤sizeLine) (hx:xs[0]? =some x)
    (hQ:∀(hp:Heap) (tk:Nat),(∀b o,s.heap.get? b=some o→hp.get? b=some o)→s.toks≤tk→Q [x,.ref hp.objs.size] { s with heap:=hp.push { cls:= .type "list",data:= .seq (xs.toList.drop 1).toArray },toks:=tk }):
    wpAny (model P w) A (unpackItems (.ref a) 2 (some 1)) Q E s:=by
  have la:a < s.heap.objs.size:=by obtain ⟨o,e,_⟩:=hs;exact Heap.lt_size e
  refine B30 (T:="tuple_iterator") (St:=fun i h=> h.IsTupleIter s.heap.objs.size a i∧h.IsTuple a xs) (h1:=s.heap.push { cls:= .type "tuple_iterator",data:= .fields #[.ref a,.int 0 0] }) (.inr (.inr (.inr rfl))) (fun Q q=> ?_) (fun Q q=> wpAny_pyIter_tuple hs q)
    (fun B hB=> Walks.tuple hB _ a (Nat.ne_of_lt la) xs) (fun i h t e y=> by subst e;exact y.1.typeIs) ⟨⟨_,Heap.get?_push_size _ rfl,rfl,rfl⟩,hs.push _⟩ hh hh1 big (fun b o e=> Heap.get?_push_of_some _ e) la hx (by rw [Heap.size_push];exact Nat.lt_succ_self _) hQ
  unfold notIterableAtAll
  refine wpAny_bind (wpAny_specialOf hs.typeIs F.slot_tuple_iter.lookup ?_)
  exact wpAny_pure q
theorem C1O {s:Shared} {a:Addr} {xs:Array Value} {x:Value} {Q:List Value→Shared→Prop} (hs:s.heap.IsList a xs) (hh:A.handled=none) (hh1:A.in1.handled=none) (big:xs.size≤sizeLine) (hx:xs[0]? =some x)
    (hQ:∀(hp:Heap) (tk:Nat),(∀b o,s.heap.get? b=some o→hp.get? b=some o)→s.toks≤tk→Q [x,.ref hp.objs.size] { s with heap:=hp.push { cls:= .type "list",data:= .seq (xs.toList.drop 1).toArray },toks:=tk }):
    wpAny (model P w) A (unpackItems (.ref a) 2 (some 1)) Q E s:=by
  have la:a < s.heap.objs.size:=by obtain ⟨o,e,_⟩:=hs;exact Heap.lt_size e
  refine B30 (T:="list_iterator") (St:=fun i h=> h.IsListIter s.heap.objs.size a i∧h.IsList a xs) (h1:=s.heap.push { cls:= .type "list_iterator",data:= .fields #[.ref a,.int 0 0] }) (.inr (.inr (.inl rfl))) (fun Q q=> ?_) (fun Q q=> wpAny_pyIter_list hs q)
    (fun B hB=> Walks.list hB _ a (Nat.ne_of_lt la) xs) (fun i h t e y=> by subst e;exact y.1.typeIs) ⟨⟨_,Heap.get?_push_size _ rfl,rfl,rfl⟩,hs.push _⟩ hh hh1 big (fun b o e=> Heap.get?_push_of_some _ e) la hx (by rw [Heap.size_push];exact Nat.lt_succ_self _) hQ
  unfold notIterableAtAll
  refine wpAny_bind (wpAny_specialOf hs.typeIs F.slot_list_iter.lookup ?_)
  exact wpAny_pure q
end
section
variable {X:Cx} {G:Gx} {e t1 t2:Expr} {sp pos tpos:Pos} {kk:Nat}
def B6Z (K:PySem.W.Frag) (g1 g2:TG):TG:=fun v σ H Q=> ∃a x r,v= .ref a∧(SqT K H a (x::r)∨SqL K H a (x::r))∧∀l,H l=none→g1 x σ (upd H l (.lst r)) fun σ1 H1=> g2 (.ref l) σ1 H1 Q
theorem C4W {g1 g2:TG} (hc:X.calm=true) (h1:PG X t1 g1) (h2:PG X t2 g2) (hs:(assignEach [t1,.Starred t2 sp] X.env)=[(false,assign t1 X.env),(true,assign t2 X.env)]:=by rfl):PG X (.Tuple [t1,.Starred t2 sp] kk tpos) (B6Z X.K g1 g2):=by
  refine ⟨fun pins s σ H v u Q I rv h=> ?_⟩
  obtain ⟨a,x,r,rfl,hq,h⟩:=h
  obtain rfl:u= .ref a:=rv
  rw [assign_Tuple]
  refine wpAny_bind (wpAny_standAt ?_)
  unfold unpack
  rw [hs]
  have hh:=I.ok.hd hc
  have go:∀(vv:Value) (us:List Value),RelV x vv→Vals r us→us.length≤sizeLine→∀(hp:Heap) (tk:Nat),(∀b o,s.heap.get? b=some o→hp.get? b=some o)→s.toks≤tk→
      wpAny (model X.prog X.w) X.A (assignInOrder [assign t1 X.env,assign t2 X.env] [vv,.ref hp.objs.size]) (fun _ s'=> ∃σ' H',Inv X pins σ' H' s'∧Q σ' H') X.xe { s with heap:=hp.push { cls:= .type "list",data:= .seq us.toArray },toks:=tk }:=fun vv us rx rr hz hp tk old ht=> by
    have I1:Inv X pins σ H { s with heap:=hp,toks:=tk }:=I.kept old
    have I2:Inv X pins σ (upd H hp.objs.size (.lst r)) { s with heap:=hp.push { cls:= .type "list",data:= .seq us.toArray },toks:=tk }:=
      I1.laid (fun b o e=> Heap.get?_push_of_some _ e) (Nat.le_refl _) (show ObjOk X.prog X.w _ _ _ (.lst r) from ⟨by rw [rr.length];exact hz,us,0,rr,Heap.get?_push_size _ rfl⟩)
    refine assignInOrder_cons (thn (h1.run pins _ σ _ _ _ _ I2 rx (h _ I1.fresh)) fun _ s2 ⟨σ2,H2,I3,q3⟩=> ?_)
    refine assignInOrder_cons (thn (h2.run pins _ σ2 _ _ _ _ I3 (show RelV (.ref hp.objs.size) (.ref hp.objs.size) from rfl) q3) fun _ s3 ⟨σ3,H3,I4,q4⟩=> ?_)
    exact assignInOrder_nil ⟨σ3,H3,I4,q4⟩
  rcases hq with hq | hq
  · obtain ⟨its,rr,pl,hz⟩:=I.tuple hq
    cases rr with
    | cons rx rr=>
      rename_i vv us
      refine wpAny_bind (wpAny_holding (C0l pl hh hh (by have:=rr.length;simp at hz ⊢;omega) (x:=vv) (by simp) fun hp tk old ht=> ?_))
      exact go vv us rx rr (by have:=rr.length;simp at hz;omega) hp tk old ht
  · obtain ⟨its,rr,pl,hz⟩:=I.list hq
    cases rr with
    | cons rx rr=>
      rename_i vv us
      refine wpAny_bind (wpAny_holding (C1O pl.isList hh hh (by have:=rr.length;simp at hz ⊢;omega) (x:=vv) (by simp) fun hp tk old ht=> ?_))
      exact go vv us rx rr (by have:=rr.length;simp at hz;omega) hp tk old ht
end
end Ab
namespace Ab
open PySem PySem.Spec PyProof.Rows L2 RZ
def aStar (i j:Nat) (tv:D3):C0:=fun D env h=> tv env h fun w env1 h1=> match w with
  | .tup (x::r)=> D.nx ((env1.set i (some (.val x))).set j (some (.own (.seq r)))) h1
  | .lst (x::r)=> D.nx ((env1.set i (some (.val x))).set j (some (.own (.seq r)))) h1
  | _=> False
section
variable {X:Cx} {G:Gx} {e:Expr} {tv:D3} {px py sp pos tpos:Pos} {kk i j:Nat} {x y:Str}
theorem aStar.mono (m:B3 tv):u5 (aStar i j tv):=fun D D' env h l q=> m env h _ _ (fun w env1 h1 z=> by
  split at z
  · exact l.nx _ _ z
  · exact l.nx _ _ z
  · exact z) q
theorem B5k (gk:G.K=X.K) (hc:X.calm=true) (hN:X.N.Nodup) (hi:X.N[i]? =some x) (hj:X.N[j]? =some y) (hx:Loc X.env.scope x) (hy:Loc X.env.scope y) (he:AV X G e tv)
    (fx:X.fn x=true∨X.env.scope.names.lookup x=some .local:=by first | exact .inl rfl | exact .inr rfl) (fy:X.fn y=true∨X.env.scope.names.lookup y=some .local:=by first | exact .inl rfl | exact .inr rfl)
    (hs:swapsWithSole [.Tuple [.Name x px,.Starred (.Name y py) sp] kk tpos] e pos.line X.env=pure false:=by rfl) (hw:swappedStores [.Tuple [.Name x px,.Starred (.Name y py) sp] kk tpos] e X.env=pure none:=by rfl)
    (h1:(assignEach [.Tuple [.Name x px,.Starred (.Name y py) sp] kk tpos] X.env).map (·.2)=[assign (.Tuple [.Name x px,.Starred (.Name y py) sp] kk tpos) X.env]:=by rfl)
    (h2:(assignEach [.Name x px,.Starred (.Name y py) sp] X.env)=[(false,assign (.Name x px) X.env),(true,assign (.Name y py) X.env)]:=by rfl):
    AS X G (.Assign [.Tuple [.Name x px,.Starred (.Name y py) sp] kk tpos] e pos) (aStar i j tv):=by
  refine ⟨aStar.mono he.mono,PS.imp (ps_asg he.pe (C4W hc (pg_name hN hi hx fx) (pg_name hN hj hy fy) h2) hs hw h1) fun D σ H ⟨env,h,Da,S,q,l⟩=> ?_⟩
  refine ⟨env,h,S,he.mono env h _ _ (fun w env1 h1 z v H1 S1 x1 r1=> ?_) q⟩
  have kp:=x1.keeps S
  have go:∀(a:Addr) (x0:W) (r:List W) (vs:List V),v= .ref a→(SqT X.K H1 a vs∨SqL X.K H1 a vs)→RepL G.K H1 (x0::r) vs→Da.nx ((env1.set i (some (.val x0))).set j (some (.own (.seq r)))) h1→B6Z X.K (gName i) (gName j) v σ H1 D.nx:=fun a x0 r vs ev hq rl z=> by
    obtain ⟨u,us,rfl,ru,rr⟩:=rl.of_cons
    refine ⟨a,u,us,ev,hq,fun p hp=> ?_⟩
    have nw:New H1 (upd H1 p (.lst us)):=New.upd hp
    have S2:=nw.bs S1
    obtain ⟨g1,g2,g3⟩:=S1.noAt hp
    have S3:BS G (env1.set i (some (.val x0))) h1 (σ.set i (some u)) (upd H1 p (.lst us)):=S2.set (r:= .val x0) i (Rep.mono nw.keeps _ _ ru) trivial
    have no:¬OwnAt (env1.set i (some (.val x0))) (σ.set i (some u)) p:=fun ⟨m,c,e1,e2⟩=> by
      by_cases hm:i=m
      · subst hm
        by_cases hl:i < env1.length
        · rw [List.getElem?_set_self hl] at e1;cases e1
        · rw [List.getElem?_eq_none (by rw [List.length_set];omega)] at e1;cases e1
      · rw [List.getElem?_set_ne hm] at e1 e2
        exact g3 ⟨m,c,e1,e2⟩
    have S4:=S3.set (r:= .own (.seq r)) j (v:= .ref p) ⟨p,rfl,⟨us,upd_same,RepL.mono nw.keeps _ _ rr⟩,g1,g2,no⟩ trivial
    exact l.nx _ _ _ _ S4 (kp.trans nw.keeps) z
  split at z
  · rename_i x0 r
    obtain ⟨a,vs,ev,hq,rl⟩:=Rep.of_tup (K:=G.K) (H:=H1) r1
    exact go a x0 r vs ev (.inl (gk▸hq)) rl z
  · rename_i x0 r
    obtain ⟨a,vs,ev,hq,rl⟩:=Rep.of_lst (K:=G.K) (H:=H1) r1
    exact go a x0 r vs ev (.inr hq.sq) rl z
  · exact z.elim
end
theorem A08 {X:Cx} {G:Gx} {x:Str} {i:Int} {pos:Pos} (hg:Gl X x) (hm:∃t,X.mg x=some (.int i t)) (hd:(x==("__debug__":Str))=false:=by decide):AE X G (.Name x pos) (aC (.int i)):=by
  obtain ⟨t,hm⟩:=hm
  exact A2O (v:= .int i) (pe_glob (v:= .int i) hg hm ⟨t,rfl⟩ hd) fun _=> .int
theorem B0M {X:Cx} {G:Gx} {x:Str} {ws:List W} {pos:Pos} (gk:G.K=X.K) (hg:Gl X x) (hm:∃a vs,X.mg x=some (.ref a)∧(∀H,SqT X.K H a vs)∧∀H,RepL X.K H ws vs) (hd:(x==("__debug__":Str))=false:=by decide) (hne:ws≠[]:=by simp):AE X G (.Name x pos) (aC (.tup ws)):=by
  obtain ⟨a,vs,hm,hq,hr⟩:=hm
  exact A2O (v:= .ref a) (pe_glob (v:= .ref a) hg hm rfl hd) fun H=> gk▸ .tup (C4L (fun e=> hne (by have:=(hr H).length;rw [e] at this;simpa using this)) hq H) (hr H)
end Ab
namespace Ab
open PySem PySem.Spec PyProof.Rows L2 RZ
open Sem (wp)
structure Itr (v:Value) (C:Heap→Prop) (at_:Heap→Addr) (nx:Heap→Heap):Prop where
  go:∀(P:Program) (w:World) (A:Around) (E:Value→Shared→Prop) (s:Shared) (Q:Value→Shared→Prop),C s.heap→Q (.ref (at_ s.heap)) { s with heap:=nx s.heap }→wpAny (model P w) A (pyIter v) Q E s
abbrev B1e (it:Addr):Obj:={ cls:= .type "enumerate",data:= .fields #[.none,.bool false,.ref it,rawInt 0,.none,.none] }
theorem C2J {v:Value} {C:Heap→Prop} {at_:Heap→Addr} {nx:Heap→Heap} (B:Itr v C at_ nx):
    Meets (Builtin.«enumerate.__new__» ⟨[.type "enumerate",v],[]⟩) (fun _ R s=> C s.heap∧R (.ok (.ret (.ref (nx s.heap).objs.size))) { s with heap:=(nx s.heap).push (B1e (at_ s.heap)) }):=
  .of_wp fun P w A R s h=> by
    obtain ⟨hp,gs,dr,tk,os⟩:=s
    obtain ⟨c1,h⟩:=h
    have hsub:=sub_enumerate
    have step:∀{B':Around} {E:Value→Shared→Prop} {Q:Value→Shared→Prop},Q (.ref (at_ hp)) ⟨nx hp,gs,dr,tk,os⟩→wpAny (model P w) B' (pyIter v) Q E ⟨hp,gs,dr,tk,os⟩:=
      fun q=> B.go P w _ _ ⟨hp,gs,dr,tk,os⟩ _ c1 q
    wp_walk using step
    refine wpAny_stack_any fun st=> wpAny_pure ?_
    split
    · rename_i c _ _ _ _ _
      cases (c==Value.type "enumerate") <;> (wp_walk using step;exact ⟨_,rfl,h⟩)
    · wp_walk using step
      exact ⟨_,rfl,h⟩
section
variable {P:Program} {w:World} {A:Around} {E:Value→Shared→Prop} {s:Shared}
theorem B5c {v:Value} {C:Heap→Prop} {at_:Heap→Addr} {nx:Heap→Heap} (B:Itr v C at_ nx) (c:C s.heap) {Q:Value→Shared→Prop}
    (h:∀h',h'=(nx s.heap).push (B1e (at_ s.heap))→IsEnum h' (nx s.heap).objs.size (at_ s.heap) 0 .none→Q (.ref (nx s.heap).objs.size) { s with heap:=h' }):
    wpAny (model P w) A (call (.type "enumerate") [v]) Q E s:=by
  refine callType_new F.called_enumerate (by decide) (F.typeCall_enumerate_1 _) (F.newCall_enumerate_1 _) (fun obj=> F.args_object_init_2 obj _) F.entry_enumerate_new (C2J B) ⟨c,?_⟩
  have g:IsEnum ((nx s.heap).push (B1e (at_ s.heap))) (nx s.heap).objs.size (at_ s.heap) 0 .none:=Heap.get?_push_size _ rfl
  exact ⟨⟨_,g,rfl⟩,h _ rfl g⟩
end
theorem C1n (a:Addr) (xs:Array Value):Itr (.ref a) (fun h=> h.IsTuple a xs) (fun h=> h.objs.size) (fun h=> h.push { cls:= .type "tuple_iterator",data:= .fields #[.ref a,.int 0 0] }):=
  ⟨fun P w A E s Q c q=> wpAny_pyIter_tuple c q⟩
theorem C2C (a:Addr) (xs:Array Value):Itr (.ref a) (fun h=> h.IsList a xs) (fun h=> h.objs.size) (fun h=> h.push { cls:= .type "list_iterator",data:= .fields #[.ref a,.int 0 0] }):=
  ⟨fun P w A E s Q c q=> wpAny_pyIter_list c q⟩
def B13 (K:PySem.W.Frag) (a:Addr):It:=
  ⟨fun i H=> ∃(xs:List V) (x:V),SqT K H a xs∧xs[i]? =some x,fun i H v H'=> ∃T x,v= .ref T∧H T=none∧H'=upd H T (.tup [.int (i:Nat),x])∧∀xs,SqT K H a xs→xs[i]? =some x,fun i H=> ∃xs:List V,SqT K H a xs∧xs.length≤i⟩
theorem C2N {P:Program} {w:World} {K:PySem.W.Frag} {elts:List Expr} {kk:Nat} {tpos:Pos} (a en it:Addr):
    Turn P w K (.Tuple elts kk tpos) (B13 K a) [en,it] en (fun i h=> (∃old,IsEnum h en it ((i:Nat):Int) old)∧h.IsTupleIter it a i∧en≠it) where
  mem:=by simp
  obj:=fun i h st b hb=> by
    obtain ⟨⟨old,g⟩,⟨o,ho,hc,hd⟩,_⟩:=st
    rcases (show b=en∨b=it by simpa using hb) with z | z
    · rw [z];exact ⟨_,g,fun v q=> nomatch q⟩
    · rw [z];exact ⟨o,ho,fun v q=> by rw [hd] at q;cases q⟩
  keep:=fun i h h' ⟨⟨old,g⟩,hi,ne⟩ k=> ⟨⟨old,k en (by simp) _ g⟩,hi.at fun o q=> k it (by simp) o q,ne⟩
  item:=by
    intro X hP hw hK hc i pins s σ H E I hf ⟨⟨old,g⟩,hit,ne⟩ ⟨xs,x,hq,hx⟩
    subst hP hw hK
    obtain ⟨its,rv,tp,hz⟩:=I.tuple hq
    obtain ⟨u,hu,ru⟩:=rv.get hx
    have hel:en < s.heap.objs.size:=Heap.lt_size g
    have hil:it < s.heap.objs.size:=by obtain ⟨_,q,_⟩:=hit;exact Heap.lt_size q
    have ai:a≠it:=fun z=> by
      obtain ⟨o1,e1,c1,_⟩:=tp
      obtain ⟨o2,e2,c2,_⟩:=hit
      rw [z,e2] at e1
      cases e1
      rw [c2] at c1
      exact absurd (Value.type.inj c1) (by decide)
    have ae:en∉[it,a]:=fun z=> by
      rcases (show en=it∨en=a by simpa using z) with z | z
      · exact ne z
      · obtain ⟨o1,e1,c1,_⟩:=tp
        rw [←z] at e1
        rw [show s.heap.get? en=_ from g] at e1
        cases e1
        exact absurd (Value.type.inj c1) (by decide)
    have hlt:i < its.toArray.size:=by
      have:=(List.getElem?_eq_some_iff.mp hu).1
      simpa using this
    refine wpAny_pyNext_enum_itemD (Draws.tuple (show X.A.in1.handled=none from I.ok.hd hc) it a ai its.toArray) g ⟨hit,tp⟩ hlt ne ae fun y h1 tk py out st2 hT hsz keep=> ?_
    have ey:y=u:=by
      have py:its.toArray[i]? =some y:=py
      have:its[i]? =some y:=by simpa using py
      rw [hu] at this
      exact (Option.some.inj this).symm
    subst ey
    refine ⟨_,rfl,wpAny_letOwnedTupleGo_enum (s:={ s with heap:=h1,toks:=tk+1 }) out fun h2 g2 sb=> ?_⟩
    have hT2:h2.get? s.heap.objs.size=some { cls:= .type "tuple",data:= .seq #[.int i tk,y] }:=(sb.2 _ (Nat.ne_of_gt hel)).trans hT
    have new:ObjOk X.prog X.w (upd H s.heap.objs.size (.tup [.int (i:Nat),x])) h2 s.heap.objs.size (.tup [.int (i:Nat),x]):=
      ⟨by show 2≤sizeLine;decide,[.int i tk,y],.cons ⟨_,rfl⟩ (.cons ru .nil),⟨_,hT2,rfl,_,rfl⟩⟩
    have I1:Inv X pins σ (upd H s.heap.objs.size (.tup [.int (i:Nat),x])) { s with heap:=h2,toks:=tk+1 }:=
      I.turnedNew (ch:=[en,it]) (fun b ob hb q=> (sb.2 b (fun z=> hb (by simp [z]))).trans (keep b ob (fun z=> hb (by simp [z])) (fun z=> hb (by simp [z])) q)) hf (Nat.le_refl _) new
    refine ⟨.ref s.heap.objs.size,_,I1,rfl,⟨_,x,rfl,I.hok.fresh (Nat.le_refl _),rfl,fun ys hy=> by rw [I.tuple_inj hy hq];exact hx⟩,⟨⟨y,?_⟩,st2.1.at fun o q=> (sb.2 it (Ne.symm ne)).trans q,ne⟩,fun b hb=> ?_⟩
    · rw [show ((i+1:Nat):Int)=(i:Int)+1 by omega];exact g2
    · have lt:b < s.heap.objs.size:=by
        rcases (show b=en∨b=it by simpa using hb) with z | z
        · rw [z];exact hel
        · rw [z];exact hil
      rw [upd_ne (Nat.ne_of_lt lt)]
      exact (hf b hb).1
  done:=by
    intro X hP hw hK hc i pins s σ H E I hf ⟨⟨old,g⟩,hit,ne⟩ ⟨xs,hq,hx⟩
    subst hP hw hK
    obtain ⟨its,rv,tp,hz⟩:=I.tuple hq
    obtain ⟨f0,f1,f2,f3,f4,f5⟩:=hf it (by simp)
    have ai:a≠it:=fun z=> by
      obtain ⟨o1,e1,c1,_⟩:=tp
      obtain ⟨o2,e2,c2,_⟩:=hit
      rw [z,e2] at e1
      cases e1
      rw [c2] at c1
      exact absurd (Value.type.inj c1) (by decide)
    have hn:its.toArray[i]? =none:=by
      have:=rv.length
      rw [Array.getElem?_eq_none_iff]
      simp
      omega
    have D:Draws X.prog X.w X.A.in1 it [it,a] i (fun _ _=> False) (fun j h=> j=i∧h.IsTupleIter it a i∧h.IsTuple a its.toArray):=
      ⟨fun j h ⟨_,⟨o,ho,_⟩,_⟩=> ⟨o,ho⟩,fun j h h' ⟨e,x1,x2⟩ k=> ⟨e,x1.at fun o q=> k it (by simp) o q,x2.at fun o q=> k a (by simp) o q⟩,fun j t Q E lt ⟨e,_⟩=> absurd lt (by rw [e];exact Nat.lt_irrefl _),
        fun t Q E ⟨_,x1,x2⟩ hE=> wpAny_nextOf_tuple_end (show X.A.in1.handled=none from I.ok.hd hc) x1 x2 hn hE⟩
    exact wpAny_pyNext_enum_endD D g ⟨rfl,hit,tp⟩ fun h' eb=> ⟨rfl,I.turned (t':=s.toks) (fun b o hb q=> eb b o hb q) f0 f1 f3 f4 f5⟩
  self:=fun A i s Q E ⟨⟨_,g⟩,_⟩ q=> wpAny_pyIter_enum g q
def C61 (K:PySem.W.Frag) (ta:TA):TI:=fun σ H R=> ta σ H fun vs H1=> ∃a xs,vs=[.ref a]∧((SqT K H1 a xs∧R (B13 K a) H1)∨(SqL K H1 a xs∧R (Ite K a) H1))
theorem B6V {X:Cx} {e:Expr} {ta:TA} {p pos tpos:Pos} {elts:List Expr} {kk:Nat} (hg:Gl X "enumerate") (hm:X.mg "enumerate"=none) (ha:PA X [e] ta) (hs:starEach [e] X.env=[(false,eval e X.env)]:=by rfl):
    PI X (.Tuple elts kk tpos) (.Call (.Name "enumerate" p) [e] [] pos) (C61 X.K ta):=by
  refine ⟨fun pins s σ H R I h=> ?_⟩
  refine Call_ (ld_blt I hg hm boot_enumerate (PyProof.Rows.callWith_type1 (thn (ha.run pos pins s σ H _ I h) fun us s1 ⟨vs,H1,I1,r1,a,xs,ex,hqq⟩=> ?_) hs rfl))
  subst ex
  cases r1 with
  | cons r rr=>
    cases rr
    cases r
    rcases hqq with ⟨hq,q⟩ | ⟨hq,q⟩
    · obtain ⟨its,rv,tp,hz⟩:=I1.tuple hq
      refine B5c (C1n a its.toArray) tp fun h' eh g=> wpAny_pyIter_enum g ?_
      have sz:(s1.heap.push { cls:= .type "tuple_iterator",data:= .fields #[.ref a,.int 0 0] }).objs.size=s1.heap.objs.size+1:=Heap.size_push ..
      have I2:Inv X pins σ H1 { s1 with heap:=h' }:=I1.kept (t':=s1.toks) fun b o y=> by rw [eh];exact Heap.get?_push_of_some _ (Heap.get?_push_of_some _ y)
      have hit:h'.IsTupleIter s1.heap.objs.size a 0:=⟨_,by rw [eh];exact Heap.get?_push_of_some _ (Heap.get?_push_size _ rfl),rfl,rfl⟩
      rw [sz] at g ⊢
      refine ⟨s1.heap.objs.size+1,[s1.heap.objs.size+1,s1.heap.objs.size],_,_,H1,rfl,I2,C2N a (s1.heap.objs.size+1) s1.heap.objs.size,⟨⟨.none,g⟩,hit,Nat.succ_ne_self _⟩,fun b hb=> ?_,q⟩
      have le:s1.heap.objs.size≤b:=by
        rcases (show b=s1.heap.objs.size+1∨b=s1.heap.objs.size by simpa using hb) with z | z
        · rw [z];exact Nat.le_succ _
        · rw [z];exact Nat.le_refl _
      exact I1.fpOk le (I1.hok.fresh le)
    · obtain ⟨its,rv,tp,hz⟩:=I1.list hq
      refine B5c (C2C a its.toArray) tp.isList fun h' eh g=> wpAny_pyIter_enum g ?_
      have sz:(s1.heap.push { cls:= .type "list_iterator",data:= .fields #[.ref a,.int 0 0] }).objs.size=s1.heap.objs.size+1:=Heap.size_push ..
      have I2:Inv X pins σ H1 { s1 with heap:=h' }:=I1.kept (t':=s1.toks) fun b o y=> by rw [eh];exact Heap.get?_push_of_some _ (Heap.get?_push_of_some _ y)
      have hit:h'.IsListIter s1.heap.objs.size a 0:=⟨_,by rw [eh];exact Heap.get?_push_of_some _ (Heap.get?_push_size _ rfl),rfl,rfl⟩
      rw [sz] at g ⊢
      refine ⟨s1.heap.objs.size+1,[s1.heap.objs.size+1,s1.heap.objs.size],_,_,H1,rfl,I2,turn_enum a (s1.heap.objs.size+1) s1.heap.objs.size,⟨⟨.none,g⟩,hit,Nat.succ_ne_self _⟩,fun b hb=> ?_,q⟩
      have le:s1.heap.objs.size≤b:=by
        rcases (show b=s1.heap.objs.size+1∨b=s1.heap.objs.size by simpa using hb) with z | z
        · rw [z];exact Nat.le_succ _
        · rw [z];exact Nat.le_refl _
      exact I1.fpOk le (I1.hok.fresh le)
section
variable {K:PySem.W.Frag}
def T8 (ws:List W):List W:=(List.range ws.length).map fun (i:Nat)=> W.tup [.int (i:Int),ws.getD i .non]
theorem B0H {ws:List W} {i:Nat} {w:W} (h:(T8 ws)[i]? =some w):∃u,ws[i]? =some u∧w= .tup [.int i,u]:=by
  unfold T8 at h
  rw [List.getElem?_map] at h
  cases q:(List.range ws.length)[i]? with
  | none=> rw [q] at h;cases h
  | some j=>
    rw [q] at h
    obtain ⟨hj,e⟩:=List.getElem?_eq_some_iff.mp q
    simp at hj e
    subst e
    cases h
    exact ⟨ws[i],List.getElem?_eq_getElem hj,by simp [List.getD_eq_getElem?_getD,hj]⟩
theorem B0J {ws:List W}:(T8 ws).length=ws.length:=by simp [T8]
theorem B4J {H:Hp} {a:Addr} {ws:List W} {vs:List V} (l:SqT K H a vs) (r:RepL K H ws vs):A1R K (B13 K a) H (T8 ws):=fun H' k i=> by
  refine ⟨fun h=> ⟨vs,k.sqT l,by rw [←r.length];rw [B0J] at h;exact h⟩,fun w e=> ?_⟩
  obtain ⟨u,eu,rfl⟩:=B0H e
  obtain ⟨v,ev,rv⟩:=r.get eu
  refine ⟨⟨vs,v,k.sqT l,ev⟩,fun x H2 ⟨T,y,ex,nT,e2,f⟩=> ?_⟩
  subst ex e2
  have ey:y=v:=Option.some.inj ((f vs (k.sqT l)).symm.trans ev)
  subst ey
  have nw:New H' (upd H' T (.tup [.int (i:Nat),y])):=New.upd nT
  exact ⟨nw,.tup (.inl upd_same) (.cons .int (.cons (Rep.mono (k.trans nw.keeps) _ _ rv) .nil))⟩
theorem B4N {H:Hp} {a:Addr} {ws:List W} {vs:List V} (l:LsF H a vs) (r:RepL K H ws vs):A1R K (Ite K a) H (T8 ws):=fun H' k i=> by
  have l':=(k.lsF l).sq (K:=K)
  refine ⟨fun h=> ⟨vs,l',by rw [←r.length];rw [B0J] at h;exact h⟩,fun w e=> ?_⟩
  obtain ⟨u,eu,rfl⟩:=B0H e
  obtain ⟨v,ev,rv⟩:=r.get eu
  refine ⟨⟨vs,v,l',ev⟩,fun x H2 ⟨T,y,ex,nT,e2,f⟩=> ?_⟩
  subst ex e2
  have ey:y=v:=Option.some.inj ((f vs l').symm.trans ev)
  subst ey
  have nw:New H' (upd H' T (.tup [.int (i:Nat),y])):=New.upd nT
  exact ⟨nw,.tup (.inl upd_same) (.cons .int (.cons (Rep.mono (k.trans nw.keeps) _ _ rv) .nil))⟩
end
def iEn (t:D3):U5:=fun env h Q=> t env h fun w env' h'=> match w with
  | .tup ws=> Q (T8 ws) env' h'
  | .lst ws=> Q (T8 ws) env' h'
  | _=> False
section
variable {X:Cx} {G:Gx} {e:Expr} {tv:D3} {p pos tpos:Pos} {elts:List Expr} {kk:Nat}
theorem iEn.mono (m:B3 tv):B3 (iEn tv):=fun env h Q Q' k q=> m env h _ _ (fun w e g z=> by
  split at z
  · exact k _ _ _ z
  · exact k _ _ _ z
  · exact z) q
theorem B5D (gk:G.K=X.K) (hg:Gl X "enumerate") (hm:X.mg "enumerate"=none) (ha:AV X G e tv) (hs:starEach [e] X.env=[(false,eval e X.env)]:=by rfl):AI X G (.Tuple elts kk tpos) (.Call (.Name "enumerate" p) [e] [] pos) (iEn tv):=by
  have pa:PA X [e] (cA G (aCons tv aNil)):=(E9 (es:=[]) ha N4 hs).pa
  refine ⟨iEn.mono ha.mono,PI.imp (B6V hg hm pa hs) fun σ H R ⟨env,h,S,q⟩=> ⟨env,h,S,ha.mono env h _ _ (fun w e g z vs H1 S1 x1 r1=> ?_) q⟩⟩
  obtain ⟨v,t,rfl,r2,r3⟩:=r1.of_cons
  rw [r3.of_nil]
  split at z
  · obtain ⟨a,xs,ev,hq,rl⟩:=Rep.of_tup (K:=G.K) (H:=H1) r2
    subst ev
    exact ⟨a,xs,rfl,.inl ⟨gk▸hq,z _ H1 S1 x1 (gk▸B4J hq rl)⟩⟩
  · obtain ⟨a,xs,ev,hq,rl⟩:=Rep.of_lst (K:=G.K) (H:=H1) r2
    subst ev
    exact ⟨a,xs,rfl,.inr ⟨hq.sq,z _ H1 S1 x1 (gk▸B4N hq rl)⟩⟩
  · exact z.elim
end
end Ab
namespace Ab
open PySem PySem.Spec PyProof.Rows L2 RZ
open Sem (wp)
section
variable {P:Program} {w:World} {A:Around} {E:Value→Shared→Prop} {s:Shared} {z TI TO i1 i2:Addr} {fp1 fp2:List Addr} {n1 n2 i:Nat} {P1 P2:Nat→Value→Prop} {St1 St2:Nat→Heap→Prop} {a1 a2 f0 f1:Value}
end
end Ab
namespace Ab
open PySem PySem.Spec PyProof.Rows L2 RZ
open Sem (wp)
section
variable {P:Program} {w:World} {A:Around} {E:Value→Shared→Prop} {s:Shared} {en it:Addr} {old:Value} {ch:List Addr}
end
section
variable {P:Program} {w:World} {A:Around} {E:Value→Shared→Prop} {s:Shared} {z TI TO i1 i2:Addr} {fp1 fp2:List Addr} {n1 n2 i:Nat} {P1 P2:Nat→Value→Prop} {St1 St2:Nat→Heap→Prop} {a1 a2 f0 f1:Value}
end
end Ab
namespace Ab
open PySem PySem.Spec PyProof.Rows L2 RZ
open Sem (wp)
def ItAt (k:Bool) (h:Heap) (it a:Addr) (i:Nat):Prop:=if k=true then h.IsTupleIter it a i else h.IsListIter it a i
def HpAt (k:Bool) (h:Heap) (a:Addr) (xs:Array Value):Prop:=if k=true then h.IsTuple a xs else h.IsList a xs
theorem ItAt.keep {k:Bool} {h h':Heap} {it a:Addr} {i:Nat} (x:ItAt k h it a i) (y:∀o,h.get? it=some o→h'.get? it=some o):ItAt k h' it a i:=by
  cases k with
  | true=> exact Heap.IsTupleIter.at (show h.IsTupleIter it a i from x) y
  | false=> exact Heap.IsListIter.at (show h.IsListIter it a i from x) y
theorem ItAt.obj {k:Bool} {h:Heap} {it a:Addr} {i:Nat} (x:ItAt k h it a i):∃o,h.get? it=some o∧∀v,o.data≠ .cell v:=by
  cases k with
  | true=>
    obtain ⟨o,e,_,d⟩:h.IsTupleIter it a i:=x
    exact ⟨o,e,fun v q=> by rw [d] at q;cases q⟩
  | false=>
    obtain ⟨o,e,_,d⟩:h.IsListIter it a i:=x
    exact ⟨o,e,fun v q=> by rw [d] at q;cases q⟩
theorem HpAt.keep {k:Bool} {h h':Heap} {a:Addr} {xs:Array Value} (x:HpAt k h a xs) (y:∀o,h.get? a=some o→h'.get? a=some o):HpAt k h' a xs:=by
  cases k with
  | true=> exact Heap.IsTuple.at (show h.IsTuple a xs from x) y
  | false=> exact Heap.IsList.at (show h.IsList a xs from x) y
theorem HpAt.lt {k:Bool} {h:Heap} {a:Addr} {xs:Array Value} (x:HpAt k h a xs):a < h.objs.size:=by
  cases k with
  | true=> obtain ⟨o,e,_⟩:h.IsTuple a xs:=x;exact Heap.lt_size e
  | false=> obtain ⟨o,e,_⟩:h.IsList a xs:=x;exact Heap.lt_size e
structure EzSep (en z TI TO i1 i2 a b:Addr):Prop where
  S:ZipSep2 z TI TO i1 i2 [i1,a] [i2,b]
  ez:en≠z
  eT:en≠TI
  eO:en≠TO
  e1:en≠i1
  e2:en≠i2
  a1:a≠i1
  b2:b≠i2
def ezW (ws us:List W):List W:=T8 (List.zipWith (fun a b=> W.tup [a,b]) ws us)
def W.items:W→Option (List W)
  | .tup xs=> some xs
  | .lst xs=> some xs
  | _=> none
def iEz (t:G2):U5:=fun env h Q=> t env h fun ws env' h'=> match ws with
  | [a,b]=> match a.items,b.items with
    | some xs,some ys=> Q (ezW xs ys) env' h'
    | _,_=> False
  | _=> False
section
variable {X:Cx} {G:Gx} {e e2:Expr} {ta:G2} {p p2 pos pos2 tpos:Pos} {elts:List Expr} {kk:Nat}
theorem iEz.mono (m:B3 ta):B3 (iEz ta):=fun env h Q Q' k q=> m env h _ _ (fun ws e g z=> by
  split at z
  · split at z
    · exact k _ _ _ z
    · exact z
  · exact z) q
end
end Ab
namespace Ab
open PySem PySem.Spec PyProof.Rows L2 RZ
section
variable {X:Cx} {G:Gx} {a b:Expr} {ta tb:AT} {pos:Pos}
end
def aAugS (f:Int→Int→Int) (to ti te:AT):C0:=fun D env h=> to env h fun ro env1 h1=> ti env1 h1 fun ri env2 h2=> match view env2 h2 ri with
  | .wv (.int k)=> (0≤k∧k < 2 ^ 62)∧(match O3 env2 h2 ro with
    | some (.seq xs)=> (match xs[k.toNat]? with
      | some (.int x)=> te env2 h2 fun re env3 h3=> (match view env3 h3 re with
        | .wv (.int y)=> (match O3 env3 h3 ro with
          | some (.seq ys)=> k.toNat < ys.length∧D.nx (v4 env3 ro (.seq (ys.set k.toNat (.int (f x y))))) (v7 h3 ro (.seq (ys.set k.toNat (.int (f x y)))))
          | _=> False)
        | _=> False)
      | _=> False)
    | _=> False)
  | _=> False
section
variable {X:Cx} {G:Gx} {o i e:Expr} {to ti te:AT} {tpos pos:Pos} {op:Operator} {f:Int→Int→Int}
theorem aAugS.mono (mo:B3 to) (mi:B3 ti) (me:B3 te):u5 (aAugS f to ti te):=fun D D' env h l q=> mo env h _ _ (fun ro e g z=> mi e g _ _ (fun ri e g z=> by
  split at z
  · refine ⟨z.1,?_⟩
    have z:=z.2
    split at z
    · split at z
      · refine me e g _ _ (fun re e g z=> ?_) z
        split at z
        · split at z
          · exact ⟨z.1,l.nx _ _ z.2⟩
          · exact z
        · exact z
      · exact z
    · exact z
  · exact z) z) q
end
section
variable {X:Cx} {G:Gx} {a b:Expr} {ta tb:AT} {pos p p2 pos2:Pos}
def B1Z (ta:AT):AT:=fun env h Q=> ta env h fun r env1 h1=> match view env1 h1 r with
  | .wv (.int n)=> (0≤n∧n≤16777216)∧Q (.own (.seq (T1 0 n.toNat))) env1 h1
  | _=> False
theorem B4e {K:PySem.W.Frag} {H:Hp}:∀is:List Nat,RepL K H (is.map fun (i:Nat)=> W.int (0+(i:Int))) (is.map fun (i:Nat)=> V.int (0+(i:Int)))
  | []=> .nil
  | i::is=> .cons .int (B4e is)
theorem C3J {K:PySem.W.Frag} {H:Hp} {n:Int}:RepL K H (T1 0 n.toNat) (rgV 0 n):=by
  unfold T1 rgV
  rw [Int.sub_zero]
  exact B4e _
theorem C4G (hc:X.calm=true) (hg:Gl X "list") (hm:X.mg "list"=none) (hgr:Gl X "range") (hmr:X.mg "range"=none) (ha:AE X G a ta)
    (na:starEach [.Call (.Name "range" p2) [a] [] pos2] X.env=(false,eval (.Call (.Name "range" p2) [a] [] pos2) X.env)::starEach [] X.env:=by rfl) (na2:starEach [a] X.env=(false,eval a X.env)::starEach [] X.env:=by rfl):
    AE X G (.Call (.Name "list" p) [.Call (.Name "range" p2) [a] [] pos2] [] pos) (B1Z ta):=by
  refine ⟨fun env h Q Q' k q=> ha.mono env h _ _ (fun r e g z=> ?_) q,PE.imp (pe_listRg hc hg hm (prg_1 hgr hmr ha.pe na2) na) fun σ H Q ⟨env,h,S,q⟩=> ⟨env,h,S,ha.mono env h _ _ (fun r env1 h1 z v H1 S1 x1 r1 f1=> ?_) q⟩⟩
  · split at z
    · exact ⟨z.1,k _ _ _ z.2⟩
    · exact z
  · have rv:=r1.vr S1
    split at z
    · rename_i n en
      rw [en] at rv
      obtain ⟨⟨n0,n1⟩,z⟩:=z
      refine ⟨n,rv.int,.of_le (by omega) (by omega) (by omega) n0,fun p hp=> ?_⟩
      have nw:New H1 (upd H1 p (.lst (rgV 0 n))):=New.upd hp
      obtain ⟨g1,g2,g3⟩:=S1.noAt hp
      exact z (.ref p) _ (nw.bs S1) (x1.trans nw.xt) ⟨p,rfl,⟨_,upd_same,C3J⟩,g1,g2,g3⟩ fun p' e'=> by cases e';exact x1.fresh hp
    · exact z.elim
end
def aExt (to te:AT):AT:=fun env h Q=> to env h fun ro env1 h1=> A8i (O3 env1 h1 ro)∧te env1 h1 fun re env2 h2=> match view env2 h2 re with
  | .cv (.seq ys)=> (match O3 env2 h2 ro with
    | some (.seq xs)=> xs.length+ys.length≤sizeLine∧Q (.val .non) (v4 env2 ro (.seq (xs++ys))) (v7 h2 ro (.seq (xs++ys)))
    | _=> False)
  | _=> False
section
variable {X:Cx} {G:Gx} {o e:Expr} {to te:AT} {apos cpos:Pos}
theorem aExt.mono (mo:B3 to) (me:B3 te):B3 (aExt to te):=fun env h Q Q' k q=> mo env h _ _ (fun ro e g ⟨i,z⟩=> ⟨i,me e g _ _ (fun re e g z=> by
  split at z
  · split at z
    · exact ⟨z.1,k _ _ _ z.2⟩
    · exact z
  · exact z) z⟩) q
theorem B6Y (ho:AE X G o to) (he:AE X G e te)
    (hbase:attributeBase o "extend" X.env (eval o X.env)=eval o X.env:=by rfl)
    (hfew:((backTo cpos (starEach [e] X.env)).all (fun x=> !x.1) && (backToKw cpos (keywordEach [] X.env)).all (fun x=> x.1.isSome)
      && decide ([e].length+([]:List Keyword).length+(if ([]:List Keyword).isEmpty then 0 else 1) < 30))=true:=by rfl)
    (hline:(apos.endLine==cpos.line)=true:=by rfl) (hs:starEach [e] X.env=(false,eval e X.env)::starEach [] X.env:=by rfl) (hplain:(backTo cpos (starEach [] X.env)).any (·.1)=false:=by rfl):
    AE X G (.Call (.Attribute o "extend" apos) [e] [] cpos) (aExt to te):=by
  refine ⟨aExt.mono ho.mono he.mono,PE.imp (pe_bm PySem.F.plainAttrs_list PySem.F.slot_list_extend PySem.F.type_list_extend mt_extend ho.pe (E1 (es:=[]) he F7 hs).pa hbase hfew hline hs hplain) fun σ H Q ⟨env,h,S,q⟩=> ?_⟩
  refine ⟨env,h,S,ho.mono env h _ _ (fun ro env1 h1 ⟨is,z⟩ x H1 S1 x1 r1 f1=> ?_) q⟩
  have ty:tyV X.K "list" x H1:=by
    cases e:O3 env1 h1 ro with
    | none=> rw [e] at is;exact is.elim
    | some c=>
      cases c with
      | map _=> rw [e] at is;exact is.elim
      | seq xs=>
        obtain ⟨p,rfl,⟨vs,l,_⟩,_⟩:=A0m S1 r1 e
        exact .inl ⟨rfl,_,.inl (.inl l)⟩
  refine ⟨ty,env1,h1,S1,he.mono env1 h1 _ _ (fun re env2 h2 z vs H2 S2 x2 r2=> ?_) z⟩
  cases r2 with
  | cons rb rr=>
    cases rr
    have rv:=rb.vr S2
    split at z
    · rename_i ys ey
      rw [ey] at rv
      obtain ⟨b,rfl,vb,lb,rlb⟩:=rv
      split at z
      · rename_i xs ex
        obtain ⟨p,rfl,⟨us,lu,rlu⟩,put⟩:=A0m S2 (r1.xt S1 x2) ex
        refine ⟨p,b,us,vb,rfl,rfl,lu,lb,by rw [←rlu.length,←rlb.length];exact z.1,?_⟩
        obtain ⟨S3,x3⟩:=put (.lst (us++vb)) (.seq (xs++ys)) fun kk=> ⟨_,upd_same,RepL.mono kk _ _ (rlu.append rlb)⟩
        exact z.2 .non _ S3 (x1.trans (x2.trans x3)) (show Rep G.K _ _ _ from .non) trivial
      · exact z.elim
    · exact z.elim
end
end Ab
namespace Ab
open PySem PySem.Spec PyProof.Rows L2 RZ
def A2C (i:Nat) (t:AT):C0:=fun D env h=> t env h fun r env1 h1=> match r with
  | .own c=> D.nx (env1.set i (some (.own c))) h1
  | _=> False
section
variable {X:Cx} {G:Gx} {i:Nat} {y:Str} {py:Pos} {elt tg iter:Expr} {ifs:List Expr} {scope:Scope} {own:List (Str×Nat)} {pos spos:Pos} {ti:U5} {g:H9} {tt:K9} {te:D3} {sl:List Nat}
theorem C2r (hc:X.calm=true) (hN:X.N.Nodup) (hy:X.N[i]? =some y) (hk:X.env.scope.kind= .function) (hyl:X.env.scope.names.lookup y=some .local) (hi:AI X G tg iter ti) (ok:BlkOk X.N X.env.scope scope own) (hsl:∀i∈sl,i∈own.map (·.2))
    (hg:∀(s:Shared) (H:Hp) (C:Addr) (cl:List (Str×Addr)) (fp:List Addr),AG (X.blk s H scope (compEnvC scope cl C X.env) fp) G tg sl g) (ht:∀(s:Shared) (H:Hp) (C:Addr) (cl:List (Str×Addr)) (fp:List Addr),APs (X.blk s H scope (compEnvC scope cl C X.env) fp) G ifs tt)
    (he:∀(s:Shared) (H:Hp) (C:Addr) (cl:List (Str×Addr)) (fp:List Addr),AV (X.blk s H scope (compEnvC scope cl C X.env) fp) G elt te)
    (hl:(py.line==pos.line)=true:=by rfl) (hany:(scope.names.any fun (n,k)=> n==y && (k== .local || k== .cell))=false:=by rfl) (hs:∀x,foldedSetIterable iter X.env x=pure x:=by intro _;rfl):
    AS X G (.Assign [.Name y py] (.ListComp elt [⟨tg,iter,ifs,0⟩] scope pos) spos) (A2C i (W8 (own.map (·.2)) ti g tt te)):=by
  have mg:=(hg X.s_0 X.H_0 0 [] []).mono
  have mt:=(ht X.s_0 X.H_0 0 [] []).mono
  have me:=(he X.s_0 X.H_0 0 [] []).mono
  have mo:B3 (W8 (own.map (·.2)) ti g tt te):=fun env h Q Q' k q=> hi.mono env h _ _ (fun ws e1 h1 z=> lcLoop.mono mg mt me (fun a e h q=> k _ _ _ q) ws [] e1 h1 z) q
  refine ⟨fun D D' env h l q=> mo env h _ _ (fun r e k z=> ?_) q,PS.imp (ps_setLc hc hN hy hyl (sw_true hk hyl hl hany) hi.pi ok (fun s H C cl fp=> (hg s H C cl fp).pg) (fun s H C cl fp=> (ht s H C cl fp).pts) (fun s H C cl fp=> (he s H C cl fp).pe) hs) fun D σ H ⟨env,h,Da,S,q,l⟩=> ?_⟩
  · split at z
    · exact l.nx _ _ z
    · exact z
  · refine B5h hi hsl mg mt me ⟨env,h,S,mo env h _ _ (fun r env1 h1 z v H1 S1 x1 r1 f1=> ?_) q⟩
    split at z
    · exact l.nx _ _ _ _ (S1.set i r1 trivial) (x1.keeps S) z
    · exact z.elim
end
end Ab
namespace Ab
open PySem PySem.Spec PyProof.Rows L2 RZ
section
variable {X:Cx} {G:Gx} {es:List Expr} {k n:Nat} {u:A1b} {sl:List Nat} {pos:Pos}
theorem PG.or {tg:Expr} {t t':TG} (a:PG X tg t) (b:PG X tg t'):PG X tg (fun v σ H Q=> t v σ H Q∨t' v σ H Q):=⟨fun pins s σ H v u Q I r q=> q.elim (fun z=> a.run pins s σ H v u Q I r z) fun z=> b.run pins s σ H v u Q I r z⟩
end
end Ab
namespace Ab
open PySem PySem.Spec PyProof.Rows L2 RZ
section
variable (l:Addr) (items:Array Value) (n:Nat) (dd:Option Addr) (sl:Array (Option Value)) (x:Int) (u:Tok)
abbrev B7e:Obj:={ cls:= .type "tuple",dict:=dd,data:= .seq items n,slots:=sl }
theorem C2m (u:Tok):Meets (Builtin.«tuple.__mul__» ⟨[.ref l,.int 1 u],[]⟩)
    (fun _ R s=> s.heap.get? l=some (B7e items n dd sl)∧R (.ok (.ret (Value.ref l))) s):=
  .of_wp fun prog w A R s h=> by
    obtain ⟨hp,g,d,tk,os⟩:=s
    obtain ⟨hl,h⟩:=h
    have f1:=AutoSeq1.idx_int
    have c0:(decide ((1:Int) < -(2 ^ 63)) || decide ((1:Int)≥2 ^ 63))=false:=by decide
    have c1:(items.isEmpty || (1:Int)==1)=true:=by simp
    wp_walk using wpAny_loadPart' hl
    repeat (first
      | (apply wpAny_ite_false (decide_eq_false (by rw [c0];decide));wp_walk using wpAny_loadPart' hl)
      | (apply wpAny_ite_true (decide_eq_true c1);wp_walk using wpAny_loadPart' hl))
    all_goals first | exact ⟨_,rfl,h⟩ | skip
theorem C12 (hx:x≤0) (hx2: -(2 ^ 63)≤x) (hi:items.isEmpty=false):Meets (Builtin.«tuple.__mul__» ⟨[.ref l,.int x u],[]⟩)
    (fun _ R s=> s.heap.get? l=some (B7e items n dd sl)∧
      R (.ok (.ret (Value.ref s.heap.objs.size))) { s with heap:=s.heap.push { cls:=Value.type "tuple",data:=Data.seq #[] },toks:=s.toks }):=
  .of_wp fun prog w A R s h=> by
    obtain ⟨hp,g,d,tk,os⟩:=s
    obtain ⟨hl,h⟩:=h
    have f1:=AutoSeq1.idx_int
    have c0:(decide (x < -(2 ^ 63)) || decide (x≥2 ^ 63))=false:=by
      rw [decide_eq_false (by omega),decide_eq_false (by omega)]
      rfl
    have c1:(items.isEmpty || x==1)=false:=by
      rw [hi,Bool.false_or]
      exact beq_eq_false_iff_ne.mpr (by omega)
    have c2:(decide (x≤0) || items.isEmpty)=true:=by
      rw [decide_eq_true hx]
      rfl
    wp_walk using wpAny_loadPart' hl
    repeat (first
      | (apply wpAny_ite_false (decide_eq_false (by rw [c0];decide));wp_walk using wpAny_loadPart' hl)
      | (apply wpAny_ite_false (decide_eq_false (by rw [c1];decide));wp_walk using wpAny_loadPart' hl)
      | (apply wpAny_ite_true (decide_eq_true c2);wp_walk using wpAny_loadPart' hl))
    all_goals first | exact ⟨_,rfl,h⟩ | skip
end
def B6u (K:PySem.W.Frag):R2:=fun x y H Q=> ∃l k xs,x= .ref l∧y= .int k∧SqT K H l xs∧xs≠[]∧ -(2 ^ 63)≤k∧k≤1000∧xs.length≤1000∧
  (k=1→Q (.ref l) H)∧(k≠1→∀p,H p=none→Q (.ref p) (upd H p (.tup (List.replicate k.toNat xs).flatten)))
theorem C3U {X:Cx}:OpR X (binaryOp .Mult) (B6u X.K):=by
  intro pins s σ H x y v u Q I rx ry h
  obtain ⟨l,k,xs,rfl,rfl,hT,hne,h1,h2,hz,q1,q⟩:=h
  by_cases k2:2≤k
  · exact op_repT pins s σ H _ _ v u Q I rx ry ⟨l,k,xs,rfl,rfl,hT,hne,k2,h2,hz,q (by omega)⟩
  cases rx
  obtain ⟨t,rfl⟩:=ry
  obtain ⟨its,r,⟨⟨cls,dd,data,sl⟩,ho,hc,n,hd⟩,hs⟩:=I.tuple hT
  simp only at hc hd
  subst hc hd
  have hle:its.length=xs.length:=r.length.symm
  have hi:its.toArray.isEmpty=false:=by
    cases its with
    | nil=> exact absurd (List.eq_nil_of_length_eq_zero hle.symm) hne
    | cons a b=> rfl
  have road:∀{R:Value→Shared→Prop} {E:Value→Shared→Prop},wpAny (model X.prog X.w) X.A (call (.builtin "tuple.__mul__") [.ref l,.int k t]) R E s→wpAny (model X.prog X.w) X.A (binaryOp .Mult (.ref l) (.int k t)) R E s:=fun {R E} z=>
    wpAny_binaryOp_repeat_ref (T:="tuple") (U:="int") (by decide) ⟨_,ho,rfl⟩ (fun s'=> typeIs_int s' k t) noFill_tuple_mul F.fills_int_mul F.slot_int_rmul repeat_tuple F.slot_int_index.lookup
      (call_meets F.slot_int_rmul (typeIs_int s k t) F.entry_int_rmul (F.args_int_rmul_2 _ _) (int_rmul_tuple k t l its.toArray n dd sl) ⟨ho,rfl,⟨_,ho,rfl⟩,z⟩)
  by_cases k1:k=1
  · subst k1
    exact road (call_meets F.slot_tuple_mul ⟨_,ho,rfl⟩ F.entry_tuple_mul (F.args_tuple_mul_2 _ _) (C2m l its.toArray n dd sl t) ⟨ho,.ref l,H,I,rfl,q1 rfl⟩)
  · refine road (call_meets F.slot_tuple_mul ⟨_,ho,rfl⟩ F.entry_tuple_mul (F.args_tuple_mul_2 _ _) (C12 l its.toArray n dd sl k t (by omega) h1 hi) ⟨ho,?_⟩)
    have ek:k.toNat=0:=by omega
    have z:=q k1 s.heap.objs.size (I.hok.fresh (Nat.le_refl _))
    rw [ek] at z
    exact ⟨.ref s.heap.objs.size,_,I.laid (t':=s.toks) (o:= .tup []) (fun b ob q=> Heap.get?_push_of_some _ q) (Nat.le_refl _) ⟨by decide,_,.nil,IsTup.new _ _⟩,rfl,z⟩
def oMulT:M5:=fun a b Q=> match b with
  | .wv (.int j)=> match a with
    | .wv (.int i)=> CMulW i j∧Q (.val (.int (i*j)))
    | .cv (.seq xs)=> (-(2 ^ 63)≤j∧j < 2 ^ 63∧xs.length*j.toNat≤sizeLine)∧Q (.own (.seq (List.replicate j.toNat xs).flatten))
    | .wv (.tup xs)=> (-(2 ^ 63)≤j∧j≤1000∧1≤xs.length∧xs.length≤1000)∧Q (.val (.tup (List.replicate j.toNat xs).flatten))
    | _=> False
  | _=> False
theorem oMulT.mono (a b:Vw) (Q Q':RV→Prop) (k:∀r,Q r→Q' r) (q:oMulT a b Q):oMulT a b Q':=by
  unfold oMulT at q ⊢
  split at q
  · split at q
    · exact ⟨q.1,k _ q.2⟩
    · exact ⟨q.1,k _ q.2⟩
    · exact ⟨q.1,k _ q.2⟩
    · exact q
  · exact q
theorem C2X {K:PySem.W.Frag}:OpA K (fun x y H Q=> (rI CMulW (fun i j=> .int (i*j)) x y H Q∨rRep x y H Q)∨B6u K x y H Q) oMulT:=
  ⟨oMulT.mono,fun a b x y H Q0 Q ra rb q k=> by
    unfold oMulT at q
    split at q
    · rename_i j
      have ey:y= .int j:=rb.int
      split at q
      · rename_i i
        have ex:x= .int i:=ra.int
        exact .inl (.inl ⟨i,j,ex,ey,q.1,k _ _ (.val q.2 .int)⟩)
      · rename_i xs
        obtain ⟨p,ex,vs,l,rl⟩:=ra
        exact .inl (.inr ⟨p,j,vs,ex,ey,l,q.1.1,q.1.2.1,by rw [←rl.length];exact q.1.2.2,fun p' n=> k _ _ (.lst n q.2 (rl.rep _))⟩)
      · rename_i xs
        obtain ⟨p,vs,ex,l,rl⟩:=Rep.of_tupT (K:=K) (H:=H) ra
        refine .inr ⟨p,j,vs,ex,ey,l.sq,fun e=> ?_,q.1.1,q.1.2.1,by rw [←rl.length];exact q.1.2.2.2,fun e=> ?_,fun _ p' n=> k _ _ (.tup n q.2 (rl.rep _))⟩
        · have:=rl.length
          rw [e] at this
          have:=q.1.2.2.1
          simp_all
        · subst e
          have q2:=q.2
          rw [show (1:Int).toNat=1 from rfl] at q2
          simp only [List.replicate,List.flatten_cons,List.flatten_nil,List.append_nil] at q2
          exact k _ _ (.val q2 (.tup l rl))
      · exact q.elim
    · exact q.elim⟩
theorem A12 {X:Cx} {G:Gx} {a b:Expr} {ta tb:AT} {pos:Pos} (gk:G.K=X.K) (ha:AE X G a ta) (hb:AE X G b tb):AE X G (.BinOp a .Mult b pos) (aOp2 oMulT ta tb):=A3D ((op_mulW.or op_rep).or C3U) (gk▸C2X) ha hb
end Ab
namespace HT
open PySem PySem.Spec PyProof.Rows
section
variable {prog:Program} {w:World} {A:Around} {E:Value→Shared→Prop} {s:Shared}
end
end HT
namespace Ab
open PySem PySem.Spec PyProof.Rows L2 RZ
section
variable {X:Cx} {e st:Expr} {te ts:TE} {pos p2:Pos}
end
theorem RepL.reverse {K:PySem.W.Frag} {H:Hp}:∀{ws:List W} {vs:List V},RepL K H ws vs→RepL K H ws.reverse vs.reverse
  | [],vs,h=> by rw [h.of_nil];exact .nil
  | w::ws,vs,h=> by
    obtain ⟨v,r,rfl,a,t⟩:=h.of_cons
    rw [List.reverse_cons,List.reverse_cons]
    exact t.reverse.append (.cons a .nil)
def oBack:L4:=fun as Q=> match as with
  | [.wv (.tup xs),.wv (.int i)]=> i= -1∧Q (.val (.tup xs.reverse))
  | _=> False
theorem oBack.mono {as:List Vw} {Q Q':RV→Prop} (k:∀r,Q r→Q' r) (q:oBack as Q):oBack as Q':=by
  unfold oBack at q ⊢
  split at q
  · exact ⟨q.1,k _ q.2⟩
  · exact q.elim
section
variable {X:Cx} {G:Gx} {a st:Expr} {ta ts:AT} {pos p2:Pos}
end
end Ab
namespace Ab
open PySem PySem.Spec PyProof.Rows L2 RZ
def ins (a:Int):List Int→List Int
  | []=> [a]
  | b::r=> if a≤b then a::b::r else b::ins a r
def srt:List Int→List Int
  | []=> []
  | a::r=> ins a (srt r)
def B5r:L4:=oInts fun ns Q=> Q (.own (.seq ((srt ns).map W.int)))
end Ab
namespace Ab
open PySem PySem.Spec PyProof.Rows L2 RZ
section
variable {G:Gx} {env env' env2:A0} {h h':AH} {σ:L2.St} {H H1 H2:Hp} {p:Addr}
end
def B1T {α:Type}:List (α×α)→List α
  | []=> []
  | p::r=> p.1::p.2::B1T r
structure AD (X:Cx) (G:Gx) (pos:Pos) (keys:List (Option Expr)) (values:List Expr) (t:G2):Prop where
  mono:B3 t
  all:keys.all (·.isSome)=true
  len:keys.length=values.length
  pp:∃trs,PPs X pos keys values trs∧∀σ H Q env h,BS G env h σ H→(t env h fun ws env' h'=> ∀ps H',BS G env' h' σ H'→Xt env h σ H env' h' H'→RepL G.K H' ws (B1T ps)→Q ps H')→tPairs trs σ H Q
section
variable {X:Cx} {G:Gx} {pos:Pos}
end
end Ab
namespace Ab
open PySem PySem.Spec PyProof.Rows L2 RZ
def B7M (kvs:List (W×W)) (k:Key) (d:W):W:=((kvs.find? fun p=> decide (A0y p.1=some k)).map (·.2)).getD d
def B7N (kvs:List (W×W)):Prop:=kvs≠[]∧∀p∈kvs,(A0y p.1).isSome=true
def aGetD (i:Nat) (tk td:D3):AT:=fun env h Q=> (∃kvs,env[i]? =some (some (.own (.map kvs))))∧tk env h fun w env1 h1=> td env1 h1 fun d env2 h2=>
  ∃kvs key,env2[i]? =some (some (.own (.map kvs)))∧B7N kvs∧A0y w=some key∧Q (.val (B7M kvs key d)) env2 h2
theorem aGetD.mono {i:Nat} {tk td:D3} (m:B3 tk) (n:B3 td):B3 (aGetD i tk td):=fun env h Q Q' k q=>
  ⟨q.1,m env h _ _ (fun w e g z=> n e g _ _ (fun d e g ⟨kvs,key,z1,z2,z3,z4⟩=> ⟨kvs,key,z1,z2,z3,k _ _ _ z4⟩) z) q.2⟩
section
variable {X:Cx} {G:Gx}
end
end Ab
namespace Ab
open PySem PySem.Spec PyProof.Rows L2 RZ
section
variable {X:Cx} {G:Gx}
def aPrm (t:AT):D3:=fun env h Q=> t env h fun r env' h'=> match r with
  | .own c=> ∀p,h' p=none→Q (.ref p) env' (B9 h' p (.cont c))
  | _=> False
theorem aPrm.mono {t:AT} (m:B3 t):B3 (aPrm t):=fun env h Q Q' k q=> m env h _ _ (fun r e g z=> by
  cases r with
  | own c=> exact fun p n=> k _ _ _ (z p n)
  | val w=> exact z.elim
  | slot i=> exact z.elim) q
theorem A5m {e:Expr} {t:AT} (a:AE X G e t):AV X G e (aPrm t):=by
  refine ⟨aPrm.mono a.mono,PE.imp a.pe fun σ H Q ⟨env,h,S,q⟩=> ?_⟩
  refine ⟨env,h,S,a.mono env h _ _ (fun r env1 h1 z v H1 S1 x1 r1 f1=> ?_) q⟩
  cases r with
  | val w=> exact z.elim
  | slot i=> exact z.elim
  | own c=>
    obtain ⟨p,rfl,cr,n,n0,no⟩:=r1
    have fr:H p=none:=f1 p rfl
    refine z p n (.ref p) H1 ⟨S1.len,S1.val,fun j d z=> ?_,S1.uni,fun a o z=> ?_,S1.fr,fun a o z y=> ?_,S1.tr,S1.tabs⟩ ⟨x1.fr,fun q o z y=> ?_,x1.th,x1.sl⟩ .ref
    · obtain ⟨q,a,b,x,y⟩:=S1.own j d z
      have nq:q≠p:=fun z2=> no ⟨j,d,z,by rw [a,z2]⟩
      exact ⟨q,a,b,by rw [C1 nq];exact x,y⟩
    · by_cases ha:a=p
      · subst ha;rw [M6] at z;cases z;exact cr
      · rw [C1 ha] at z;exact S1.hp a o z
    · by_cases ha:a=p
      · subst ha;exact n0
      · rw [C1 ha] at z;exact S1.ext a o z y
    · by_cases hq:q=p
      · subst hq;exact fr
      · rw [C1 hq] at z;exact x1.hn q o z y
def C4d (h:AH) (p:Addr):AH:=fun b=> if b=p then none else h b
def demL:List W→AH→(List W→AH→Prop)→Prop
  | [],h,Q=> Q [] h
  | w::ws,h,Q=> match w with
    | .ref p=> (match h p with
      | some (.cont c)=> demL ws (C4d h p) fun us h'=> Q (c.fz::us) h'
      | _=> False)
    | _=> False
theorem demL.mono:∀{ws:List W} {h:AH} {Q Q':List W→AH→Prop},(∀us h',Q us h'→Q' us h')→demL ws h Q→demL ws h Q'
  | [],h,Q,Q',k,q=> k _ _ q
  | w::ws,h,Q,Q',k,q=> by
    cases w with
    | ref p=>
      unfold demL at q ⊢
      dsimp only at q ⊢
      split at q
      · exact demL.mono (fun us h' q=> k _ _ q) q
      · exact q.elim
    | _=> exact q.elim
end
end Ab
namespace Ab
open PySem PySem.Spec PyProof.Rows L2 LamX
def A0z (f:Addr) (q:Str) (params:Arguments) (body:Expr) (scope:Scope) (cl:List (Str×Addr)) (c:Addr):HO:=
  .ext fun h=> ∃pm ctv:Value,h.get? f=some (PySem.W.kla_obj "<lambda>" q params body scope cl pm c ctv)
theorem B0f {f c:Addr} {q:Str} {params:Arguments} {body:Expr} {scope:Scope} {cl:List (Str×Addr)}:NT (A0z f q params body scope cl c):=fun ps e=> by
  unfold A0z at e;cases e
theorem A7b {c:Addr} {q:Str}:NT (CodeO c q):=fun ps e=> by
  unfold CodeO at e;cases e
section
variable {X:Cx} {pins:List (Addr×Obj)} {σ:L2.St} {H:Hp} {s:Shared} {T:List (Addr×Str)} {c P:Addr} {params:Arguments} {body:Expr} {scope:Scope} {pos:Pos}
structure Made (X:Cx) (T:List (Addr×Str)) (P:Addr) (params:Arguments) (body:Expr) (scope:Scope) (H H1:Hp) (f c:Addr):Prop where
  but:∀b o,H b=some o→b≠P→H1 b=some o
  tab:∃ps,H1 P=some (.tbl ps)
  tabs:Tabs T H1
  new:H f=none
  lam:H1 f=some (A0z f (X.env.qual++"<lambda>") params body scope (cloFrom X.env.cells scope.names []) c)
  code:H1 c=some (CodeO c (X.env.qual++"<lambda>"))
theorem B4x {h':Heap} {H1:Hp} {c':Addr} {pm ctv:Value} {tk:Nat} {cl:List (Str×Addr)} {q:Str} (I:Inv X pins σ H1 { s with heap:=h',toks:=tk }):
    Inv X pins σ (upd H1 h'.objs.size (A0z h'.objs.size q params body scope cl c')) { s with heap:=h'.push (PySem.W.kla_obj "<lambda>" q params body scope cl pm c' ctv),toks:=tk }:=
  I.laid (a:=h'.objs.size) (t':=tk) (fun b u e=> Heap.get?_push_of_some _ e) (Nat.le_refl _) ⟨⟨pm,ctv,Heap.get?_push_size _ rfl⟩,⟨_,Heap.get?_push_size _ rfl⟩,fun h1 h2 ⟨a,b,e⟩ st=> ⟨a,b,st _ e⟩⟩
theorem C25 {E:Value→Shared→Prop} {Q:Value→Shared→Prop} (I:Inv X pins σ H s) (TB:TabB X.base X.mg c P) (hcode:X.env.code= .ref c)
    (hm:(P,X.env.qual++"<lambda>")∈T) (hu:∀p∈T,p.1=P→p.2=X.env.qual++"<lambda>") (hT:Tabs T H) (hdef:defaultsOf params X.env=([],[])) (hfree:∀y∈scope.names,y.2= .free→∃c,X.env.cells.lookup y.1=some c)
    (h:∀(f c':Addr) (H1:Hp) (s':Shared),Inv X pins σ H1 s'→Made X T P params body scope H H1 f c'→Q (.ref f) s'):
    wpAny (model X.prog X.w) X.A (eval (.Lambda params body scope pos) X.env) Q E s:=by
  obtain ⟨ps,hP,ht,ha⟩:=hT _ hm
  refine PySem.W.kla_eval hdef ?_
  have bP:s.heap.BuiltinsAt X.mg P:=TB.bm.keeps I.bk
  have oP:s.heap.get? P=some { cls:= .none,data:= .fields ps }:=I.hok P _ hP
  have gl:=I.mod.glob.keeps I.bk
  have ch:=TB.code.keeps I.bk
  have clo:=closure_ok hfree
  cases hc:codeAmong pos ps.toList with
  | some cv=>
    obtain ⟨c',e,hco⟩:=ha pos cv hc
    subst e
    refine PySem.W.kla_makeFunctionHit (c:=c) (ps:=ps) clo I.ok.glob gl hcode ch oP ht hc bP fun ctv h' tk hx hsz=> ?_
    have J:=B4x (params:=params) (body:=body) (scope:=scope) (c':=c') (pm:=(X.mg "__name__").getD .none) (ctv:=ctv) (cl:=cloFrom X.env.cells scope.names []) (q:=X.env.qual++"<lambda>") (I.kept (t':=tk) hx)
    have nf:H h'.objs.size=none:=I.hok.fresh hsz
    have st:∀b o,H b=some o→upd H h'.objs.size (A0z h'.objs.size (X.env.qual++"<lambda>") params body scope (cloFrom X.env.cells scope.names []) c') b=some o:=fun b o e=> by
      rw [upd_ne (ne_of_none e nf)];exact e
    exact h _ c' _ _ J ⟨fun b o e _=> st b o e,⟨ps,st _ _ hP⟩,hT.ext st,nf,upd_same,st _ _ hco⟩
  | none=>
    refine PySem.W.kla_makeFunction (c:=c) (ps:=ps) clo I.ok.glob gl hcode ch oP ht hc TB.gP bP fun c' ctv h' tk hx hge hlt hrec htb=> ?_
    obtain ⟨c2,oc,vs,t,e2,hoc,hd,hv⟩:=hrec
    cases e2
    have nC:H c'=none:=I.hok.fresh hge
    have J0:=inv_table (t':=tk) (q:=X.env.qual++"<lambda>") (more:=#[rawInt pos.line,rawInt pos.col,.ref c']) I hP hx htb hge ⟨oc,vs,t,hoc,hd,hv⟩
    have J:=B4x (params:=params) (body:=body) (scope:=scope) (c':=c') (pm:=(X.mg "__name__").getD .none) (ctv:=ctv) (cl:=cloFrom X.env.cells scope.names []) (q:=X.env.qual++"<lambda>") J0
    have sz:s.heap.objs.size≤h'.objs.size:=Nat.le_trans hge (Nat.le_of_lt hlt)
    have nf:H h'.objs.size=none:=I.hok.fresh sz
    have fc:c'≠h'.objs.size:=Nat.ne_of_lt hlt
    have fP:P≠h'.objs.size:=Nat.ne_of_lt (Nat.lt_of_lt_of_le (Heap.lt_size oP) sz)
    have cP:P≠c':=ne_of_none hP nC
    have st:∀b o,H b=some o→b≠P→upd (upd (upd H P (.tbl (ps++#[rawInt pos.line,rawInt pos.col,.ref c']))) c' (CodeO c' (X.env.qual++"<lambda>"))) h'.objs.size (A0z h'.objs.size (X.env.qual++"<lambda>") params body scope (cloFrom X.env.cells scope.names []) c') b=some o:=fun b o e n=> by
      rw [upd_ne (ne_of_none e nf),upd_ne (ne_of_none e nC),upd_ne n];exact e
    have aC:upd (upd (upd H P (.tbl (ps++#[rawInt pos.line,rawInt pos.col,.ref c']))) c' (CodeO c' (X.env.qual++"<lambda>"))) h'.objs.size (A0z h'.objs.size (X.env.qual++"<lambda>") params body scope (cloFrom X.env.cells scope.names []) c') c'=some (CodeO c' (X.env.qual++"<lambda>")):=by
      rw [upd_ne fc,upd_same]
    have aP:upd (upd (upd H P (.tbl (ps++#[rawInt pos.line,rawInt pos.col,.ref c']))) c' (CodeO c' (X.env.qual++"<lambda>"))) h'.objs.size (A0z h'.objs.size (X.env.qual++"<lambda>") params body scope (cloFrom X.env.cells scope.names []) c') P=some (.tbl (ps++#[rawInt pos.line,rawInt pos.col,.ref c'])):=by
      rw [upd_ne fP,upd_ne cP,upd_same]
    refine h _ c' _ _ J ⟨st,⟨_,aP⟩,fun p hp=> ?_,nf,upd_same,aC⟩
    have eL:(ps++#[rawInt pos.line,rawInt pos.col,Value.ref c']).toList=ps.toList++[rawInt pos.line,rawInt pos.col,.ref c']:=by simp
    by_cases hb:p.1=P
    · refine ⟨_,by rw [hb];exact aP,by rw [eL];exact PySem.TriplesOk_snoc _ _ _ _ ht,fun p' cv z=> ?_⟩
      rw [eL] at z
      rw [hu p hp hb]
      rcases among_app _ ht z with z | z
      · obtain ⟨c0,e1,e2⟩:=ha p' cv z
        refine ⟨c0,e1,st _ _ e2 fun y=> ?_⟩
        rw [y,hP] at e2
        exact A7b _ (Option.some.inj e2).symm
      · exact ⟨c',z,aC⟩
    · obtain ⟨ps',a1,a2,a3⟩:=hT p hp
      refine ⟨ps',st _ _ a1 hb,a2,fun p' cv z=> ?_⟩
      obtain ⟨c0,e1,e2⟩:=a3 p' cv z
      refine ⟨c0,e1,st _ _ e2 fun y=> ?_⟩
      rw [y,hP] at e2
      exact A7b _ (Option.some.inj e2).symm
def C5u (X:Cx) (T:List (Addr×Str)) (P:Addr) (params:Arguments) (body:Expr) (scope:Scope):TE:=fun _ H Q=> Tabs T H∧∀f c' H1,Made X T P params body scope H H1 f c'→Q (.ref f) H1
theorem C4I (TB:TabB X.base X.mg c P) (hcode:X.env.code= .ref c) (hm:(P,X.env.qual++"<lambda>")∈T) (hu:∀p∈T,p.1=P→p.2=X.env.qual++"<lambda>") (hdef:defaultsOf params X.env=([],[]))
    (hfree:X.Ok→∀y∈scope.names,y.2= .free→∃c,X.env.cells.lookup y.1=some c):PE X (.Lambda params body scope pos) (C5u X T P params body scope):=
  ⟨fun pins s σ H Q I ⟨hT,h⟩=> C25 I TB hcode hm hu hT hdef (hfree I.ok) fun f c' H1 s' I1 M=> ⟨.ref f,H1,I1,rfl,h f c' H1 M⟩⟩
end
end Ab
namespace Ab
open PySem PySem.Spec PyProof.Rows L2 LamX
abbrev ALT:=A0→AH→(Addr→List W→A0→AH→Prop)→Prop
def C5q (t:ALT):Prop:=∀env h Q Q',(∀f ws e k,Q f ws e k→Q' f ws e k)→t env h Q→t env h Q'
def A7q (t:G2):ALT:=fun env h Q=> ∀f:Addr,t env h fun ws env1 h1=> Q f (.ref f::ws) env1 h1
structure LamD where
  params:Arguments
  body:Expr
  scope:Scope
def LamF (X:Cx) (d:LamD) (H:Hp) (f:Addr):Prop:=
  ∃c,H f=some (A0z f (X.env.qual++"<lambda>") d.params d.body d.scope (cloFrom X.env.cells d.scope.names []) c)∧H c=some (CodeO c (X.env.qual++"<lambda>"))
def cL (X:Cx) (G:Gx) (d:LamD) (t:ALT):TA:=fun σ H Q=> ∃env h,BS G env h σ H∧t env h fun f ws env' h'=> ∀vs H',BS G env' h' σ H'→Xt env h σ H env' h' H'→RepL G.K H' ws vs→LamF X d H' f→Q vs H'
structure AL (X:Cx) (G:Gx) (d:LamD) (es:List Expr) (n:Nat) (t:ALT):Prop where
  mono:C5q t
  pa:PA X es (cL X G d t)
  ln:∀env h (R:Addr→List W→A0→AH→Prop),t env h R→t env h fun f ws e g=> ws.length=n∧R f ws e g
theorem BS.nmu {G:Gx} {env:A0} {h:AH} {σ:L2.St} {H:Hp} (S:BS G env h σ H) {p:Addr} {o:HO} (e:H p=some o) (i:¬Mu o):h p=none∧¬OwnAt env σ p:=by
  refine ⟨?_,fun ⟨j,c,a,b⟩=> ?_⟩
  · cases q:h p with
    | none=> rfl
    | some u=>
      obtain ⟨o',e',m⟩:=(S.hp p u q).there
      rw [e] at e';cases e'
      exact absurd m i
  · obtain ⟨p',b',cr,_⟩:=S.own j c a
    rw [b] at b';cases b'
    exact i (cr.mu_at e)
theorem BS.but {G:Gx} {env:A0} {h:AH} {σ:L2.St} {H H1:Hp} (S:BS G env h σ H) (b:∀p o,H p=some o→NT o→H1 p=some o) (th:∀p o,H p=some o→∃u,H1 p=some u) (t:TabsK G.K H1):
    BS G env h σ H1∧Xt env h σ H env h H1:=by
  have k:Keeps H H1:=fun p o e i=> b p o e i.nt
  refine ⟨⟨S.len,fun i w e=> ?_,fun i c e=> ?_,S.uni,fun a o e=> ?_,fun p o e n y=> b p o (S.fr p o e n y) y,S.ext,fun p o e=> ?_,t⟩,⟨fun p o e _ _ y=> b p o e y,fun p o e n=> (by rw [n] at e;cases e),th,fun i c e=> ⟨c,e⟩⟩⟩
  · obtain ⟨v,x,y⟩:=S.val i w e
    exact ⟨v,x,Rep.mono k w v y⟩
  · obtain ⟨p,x,y,n,n0⟩:=S.own i c e
    obtain ⟨o,eo,m⟩:=y.there
    exact ⟨p,x,y.mono k ((b p o eo m.nt).trans eo.symm),n,n0⟩
  · obtain ⟨u,eu,m⟩:=(S.hp a o e).there
    exact (S.hp a o e).mono k ((b a u eu m.nt).trans eu.symm)
  · obtain ⟨u,y⟩:=S.tr p o e
    exact th p u y
section
variable {X:Cx} {G:Gx} {d:LamD} {e:Expr} {es:List Expr} {c P:Addr} {pos:Pos} {n:Nat}
theorem B3u {f c:Addr} {q:Str} {params:Arguments} {body:Expr} {scope:Scope} {cl:List (Str×Addr)}:¬Mu (A0z f q params body scope cl c):=fun z=> z
theorem B3p {c:Addr} {q:Str}:¬Mu (CodeO c q):=fun z=> z
theorem LamF.xt {env env':A0} {h h':AH} {σ:L2.St} {H H':Hp} {f:Addr} (S:BS G env h σ H) (x:Xt env h σ H env' h' H') (l:LamF X d H f):LamF X d H' f:=by
  obtain ⟨c,a,b⟩:=l
  obtain ⟨a1,a2⟩:=S.nmu a B3u
  obtain ⟨b1,b2⟩:=S.nmu b B3p
  exact ⟨c,x.fr _ _ a a1 a2 B0f,x.fr _ _ b b1 b2 A7b⟩
structure LamAt (X:Cx) (d:LamD) (c P:Addr):Prop where
  TB:TabB X.base X.mg c P
  code:X.env.code= .ref c
  mem:(P,X.env.qual++"<lambda>")∈A3h X.K
  uni:∀p∈A3h X.K,p.1=P→p.2=X.env.qual++"<lambda>"
  dfl:defaultsOf d.params X.env=([],[])
  free:X.Ok→∀y∈d.scope.names,y.2= .free→∃c,X.env.cells.lookup y.1=some c
theorem C3S {t:G2} (gk:G.K=X.K) (L:LamAt X d c P) (b:AN X G es n t) (hs:starEach (.Lambda d.params d.body d.scope pos::es) X.env=(false,eval (.Lambda d.params d.body d.scope pos) X.env)::starEach es X.env:=by rfl):
    AL X G d (.Lambda d.params d.body d.scope pos::es) (n+1) (A7q t):=by
  refine ⟨fun env h Q Q' k q f=> b.aa.mono env h _ _ (fun ws e g z=> k _ _ _ _ z) (q f),PA.imp (pa_cons (C4I (T:=A3h X.K) L.TB L.code L.mem L.uni L.dfl L.free) b.aa.pa hs) fun σ H Q ⟨env,h,S,q⟩=> ?_,fun env h R q f=> b.aa.mono env h _ _ (fun ws e g ⟨l,z⟩=> ⟨by rw [List.length_cons,l],z⟩) (b.ln env h _ (q f))⟩
  have tb:TabsK X.K H:=gk▸S.tabs
  obtain ⟨ps,hP,_⟩:=tb _ L.mem
  refine ⟨tb,fun f c' H1 M=> ?_⟩
  have bt:∀p o,H p=some o→NT o→H1 p=some o:=fun p o e y=> M.but p o e fun z=> by
    rw [z,hP] at e
    exact y ps (Option.some.inj e).symm
  have th:∀p o,H p=some o→∃u,H1 p=some u:=fun p o e=> by
    by_cases z:p=P
    · obtain ⟨ps',y⟩:=M.tab
      exact ⟨_,z▸y⟩
    · exact ⟨o,M.but p o e z⟩
  have tb1:TabsK G.K H1:=gk▸M.tabs
  obtain ⟨S1,x1⟩:=S.but bt th tb1
  refine ⟨env,h,S1,b.aa.mono env h _ _ (fun ws env2 h2 z vs H2 S2 x2 r2=> ?_) (q f)⟩
  exact z (.ref f::vs) H2 S2 (x1.trans x2) (.cons .ref r2) (LamF.xt S1 x2 ⟨c',M.lam,M.code⟩)
end
structure LamP (sc scope:Scope) (N ps:List Str):Prop where
  kind:scope.kind= .function
  co:scope.isCoroutine=false
  gen:scope.isGenerator=false
  own:∀y∈scope.names,y.2≠ .cell∧(y.2= .local→y.1∈ps)
  par:∀x∈ps,scope.names.lookup x=some .local∧x∉N
  nd:ps.Nodup
  free:∀y∈scope.names,y.2= .free→sc.names.lookup y.1=some .cell∨sc.names.lookup y.1=some .free
theorem LamP.has {X:Cx} {scope:Scope} {N ps:List Str} (L:LamP X.env.scope scope N ps) (ok:X.Ok):∀y∈scope.names,y.2= .free→∃c,X.env.cells.lookup y.1=some c:=fun y hy e=>
  (L.free y hy e).elim (fun k=> ok.has _ (.inl k)) fun k=> ok.has _ (.inr k)
abbrev A2P (X:Cx) (A:Around) (outer:List Env) (s:Shared) (H:Hp) (E:XK) (scope:Scope) (f c:Addr) (ps:List Str):Cx:={ lamCx X A outer s H E scope f c with N:=X.N++ps }
theorem B47 {us:List Value}:∀{ps:List Str} {us:List Value} {j:Nat} {x:Str} {u:Value},ps.Nodup→ps[j]? =some x→us[j]? =some u→(ps.zip us).reverse.lookup x=some u
  | [],_,_,_,_,_,e,_=> by simp at e
  | p::ps,[],_,_,_,_,_,e=> by simp at e
  | p::ps,v::us,0,x,u,nd,e1,e2=> by
    simp at e1 e2
    subst e1 e2
    have z:(ps.zip us).reverse.lookup p=none:=by
      rw [List.lookup_eq_none_iff]
      intro y hy
      have m:=List.of_mem_zip (List.mem_reverse.mp hy)
      rw [bne_iff_ne]
      intro e
      exact (List.nodup_cons.mp nd).1 (e▸m.1)
    rw [List.zip_cons_cons,List.reverse_cons,List.lookup_append,z]
    simp
  | p::ps,v::us,j+1,x,u,nd,e1,e2=> by
    rw [List.zip_cons_cons,List.reverse_cons,List.lookup_append,B47 (us:=us) (List.nodup_cons.mp nd).2 (by simpa using e1) (by simpa using e2)]
    rfl
end Ab
namespace Ab
open PySem PySem.Spec PyProof.Rows L2 LamX
section
variable {X:Cx} {pins:List (Addr×Obj)} {σ:L2.St} {H HZ:Hp} {s s1:Shared}
theorem A2o {scope:Scope} {N ps:List Str} (L:LamP X.env.scope scope N ps) (ok:X.Ok) {y:Str} {c:Addr} (e:(cloFrom X.env.cells scope.names []).lookup y=some c):X.env.cells.lookup y=some c:=by
  rcases cloFrom_mem (PySem.mem_of_lookup e) with m | ⟨a,b⟩
  · cases m
  · obtain ⟨c1,k⟩:=L.has ok _ a rfl
    have k:X.env.cells.lookup y=some c1:=k
    have z:c=c1:=by rw [b,k] <;> rfl
    rw [z];exact k
theorem B4m {scope:Scope} {y:Str} (h:scope.names.lookup y=some .free):∃c,(cloFrom X.env.cells scope.names []).lookup y=some c:=by
  have m:(y,NameKind.free)∈scope.names:=PySem.mem_of_lookup h
  exact mem_lookup (cloFrom_has (cells:=X.env.cells) (acc:=[]) m)
theorem C1R {A:Around} {outer:List Env} {E:XK} {scope:Scope} {f c:Addr} {ps:List Str} {g:Heap} {tk:Nat} {us:List Value} {vs:List V} (I:Inv X pins σ H s) (L:LamP X.env.scope scope X.N ps) (e0:Env0 X.prog X.w X.K X.mg X.base A outer s1 HZ) (hd:A.handled=none)
    (un:Un (frs X.stack) [] H HZ s.heap s1.heap) (hns:g.Ns s1.heap.objs.size fun y=> (ps.zip us).reverse.lookup y) (kp:∀b o,s1.heap.get? b=some o→g.get? b=some o) (rv:Vals vs us) (hl:vs.length=ps.length):
    Inv (A2P X A outer s1 HZ E scope f c ps) [] (σ++vs.map some) HZ { s1 with heap:=g,toks:=tk }:=by
  have cellK:∀{b:Addr} {v:Option Value},H b=none→s.heap.IsCell b v→g.IsCell b v:=fun {b v} n ⟨o,ho,hd⟩=> by
    obtain ⟨sl,q⟩:=un.any ho n (by simp)
    exact ⟨_,kp _ _ q,hd⟩
  have noA:∀b:Addr,b∉(A2P X A outer s1 HZ E scope f c ps).ex:=fun b z=> by
    have z:b∈([]:List Addr):=z
    cases z
  have okX:(A2P X A outer s1 HZ E scope f c ps).Ok:=
    { mod:=e0.mod,kind:=L.kind,glob:=rfl,blt:=rfl,above:=Nat.le_refl _
      inj:=fun y z b e1 e2=> I.ok.inj y z b (A2o L I.ok e1) (A2o L I.ok e2)
      has:=fun y hy=> by
        have hy:scope.names.lookup y=some .cell∨scope.names.lookup y=some .free:=hy
        rcases hy with hy | hy
        · exact absurd rfl (L.own _ (PySem.mem_of_lookup hy)).1
        · exact B4m hy
      cab:=fun y b z _=> by
        have z:false=true:=z
        cases z
      hd:=fun _=> hd,frames:=Around.frames_deeper e0.frames,stk:= .inr ⟨rfl,rfl⟩,exf:=fun b z=> absurd z (noA b),bs:=e0.bs,bsz:=e0.bsz,noex:=fun b _ _=> noA b,exfs:=fun b z=> absurd z (noA b),funs:=e0.funs,frf:=e0.frf }
  refine { ok:=okX,os:=rfl,bare:=e0.bare,base:=Un.kept kp,loc:=⟨_,hns,fun i y v e1 e2 e3=> ?_⟩,cell:=fun y b e=> ?_,free:=e0.hok.fresh (Nat.le_refl _),freeC:=fun y b e=> ?_,pin:=fun q hq=> ?_,hok:=e0.hok.kept kp,len:= ?_ }
  · have e1:(X.N++ps)[i]? =some y:=e1
    have e3:Vis scope y:=e3
    have own:scope.names.lookup y=some .local→y∈ps:=fun k=> (L.own _ (PySem.mem_of_lookup k)).2 rfl
    by_cases hi:i < X.N.length
    · rw [List.getElem?_append_left hi] at e1
      rw [List.getElem?_append_left (by rw [I.len];exact hi)] at e2
      have nP:y∉ps:=fun z=> (L.par y z).2 (List.mem_of_getElem? e1)
      rcases e3 with k | k | k
      · exact absurd (own k) nP
      · exact absurd rfl (L.own _ (PySem.mem_of_lookup k)).1
      · obtain ⟨m,hn,lk⟩:=I.loc
        have vis:Vis X.env.scope y:=(L.free _ (PySem.mem_of_lookup k) rfl).elim (fun k=> .inr (.inl k)) fun k=> .inr (.inr k)
        obtain ⟨w,r,q⟩:=lk i y v e1 e2 vis
        obtain ⟨c2,h2⟩:=B4m (X:=X) k
        have c1:=A2o L I.ok h2
        refine ⟨w,r,.inr ⟨.inr k,c2,h2,?_⟩⟩
        rcases q with ⟨k',_⟩ | ⟨_,c3,e',z⟩
        · have k':X.env.scope.names.lookup y=some .local:=k'
          rcases L.free _ (PySem.mem_of_lookup k) rfl with k2 | k2
          · rw [show X.env.scope.names.lookup y=_ from k2] at k';cases k'
          · rw [show X.env.scope.names.lookup y=_ from k2] at k';cases k'
        · rw [c1] at e'
          cases e'
          exact cellK (I.freeC y _ c1) z
    · rw [List.getElem?_append_right (by omega)] at e1
      rw [List.getElem?_append_right (by rw [I.len];omega),I.len,List.getElem?_map] at e2
      cases q:vs[i - X.N.length]? with
      | none=> rw [q] at e2;cases e2
      | some v0=>
        rw [q] at e2
        cases e2
        obtain ⟨u,hu,ru⟩:=rv.get q
        exact ⟨u,ru,.inl ⟨(L.par y (List.mem_of_getElem? e1)).1,B47 (us:=us) L.nd e1 hu⟩⟩
  · obtain ⟨w,z⟩:=I.cell y b (A2o L I.ok e)
    exact ⟨w,cellK (I.freeC y b (A2o L I.ok e)) z⟩
  · obtain ⟨v,o,ho,hd⟩:=I.cell y b (A2o L I.ok e)
    exact un.free b o ho (I.freeC y b (A2o L I.ok e)) (by simp)
  · have hq:q∈([]:List (Addr×Obj))++[]:=hq
    cases hq
  · show (σ++vs.map some).length=(X.N++ps).length
    rw [List.length_append,List.length_append,List.length_map,I.len,hl]
end
structure LamHas (Z:Cx) (G:Gx) (f:Addr) (n:Nat) (sp:G1):Prop where
  m:Q7 sp
  fn:∀(s:Shared) (H:Hp),(∀p o,G.H0 p=some o→G.h0 p=none→NT o→H p=some o)→HOk Z.prog Z.w H s.heap→PySem.W.FnAt f s.heap
  run:∀(s:Shared) (H:Hp) (us:List Value) (vs:List V) (Q:VK) (E:XK),(∀p o,G.H0 p=some o→G.h0 p=none→NT o→H p=some o)→Un Z.fs [] Z.H_0 H Z.s_0.heap s.heap→Env0 Z.prog Z.w Z.K Z.mg Z.base Z.A Z.stack s H→Vals vs us→P8 Z.K n sp vs H Q E→
    codeAny (model Z.prog Z.w) Z.A (.call (.ref f) ⟨us,[]⟩) (CR (L2.CX Z.prog Z.w) Z.stack Z.prog Z.w H s Q E) s
def A2p (env:A0) (ws:List W):A0:=env.map (fun o=> match o with
  | some (.val w)=> some (.val w)
  | _=> none)++ws.map fun w=> some (.val w)
theorem A9h {env:A0} {ws:List W} {i:Nat} {sv:SV} (e:(A2p env ws)[i]? =some (some sv)):(∃w,sv= .val w∧env[i]? =some (some (.val w))∧i < env.length)∨∃w,sv= .val w∧env.length≤i∧ws[i - env.length]? =some w:=by
  unfold A2p at e
  by_cases hi:i < env.length
  · rw [List.getElem?_append_left (by simpa using hi),List.getElem?_map] at e
    cases q:env[i]? with
    | none=> rw [q] at e;cases e
    | some o=>
      rw [q] at e
      cases o with
      | none=> cases e
      | some sv'=>
        cases sv' with
        | val w=> cases e;exact .inl ⟨w,rfl,rfl,hi⟩
        | own c=> cases e
  · rw [List.getElem?_append_right (by simpa using hi),List.length_map,List.getElem?_map] at e
    cases q:ws[i - env.length]? with
    | none=> rw [q] at e;cases e
    | some w=> rw [q] at e;cases e;exact .inr ⟨w,rfl,by omega,rfl⟩
theorem BS.lam {K:PySem.W.Frag} {G:Gx} {env:A0} {h0 h:AH} {σ:L2.St} {H0 H:Hp} {ws:List W} {vs:List V} (gk:G.K=K) (S:BS G env h0 σ H0) (k:Keeps H0 H) (hp:∀a o,h a=some o→ORep K H a o) (tb:TabsK K H) (r:RepL K H ws vs):
    BS ⟨K,h,H⟩ (A2p env ws) h (σ++vs.map some) H:=by
  subst gk
  refine ⟨?_,fun i w e=> ?_,fun i c e=> ?_,fun i j c c' p e=> ?_,hp,fun p o e _ _=> e,fun a o e n=> (by have n:h a=none:=n;rw [n] at e;cases e),fun p o e=> ⟨o,e⟩,tb⟩
  · unfold A2p
    rw [List.length_append,List.length_map,List.length_map,List.length_append,List.length_map,S.len,r.length]
  · rcases A9h e with ⟨w',z,y,hi⟩ | ⟨w',z,hi,y⟩
    · cases z
      obtain ⟨v,ev,rv⟩:=S.val i w y
      exact ⟨v,by rw [List.getElem?_append_left (by rw [←S.len];exact hi)];exact ev,Rep.mono k w v rv⟩
    · cases z
      obtain ⟨v,ev,rv⟩:=r.get y
      refine ⟨v,?_,rv⟩
      rw [List.getElem?_append_right (by rw [←S.len];exact hi),←S.len,List.getElem?_map,ev]
      rfl
  · rcases A9h e with ⟨w',z,_⟩ | ⟨w',z,_⟩ <;> cases z
  · rcases A9h e with ⟨w',z,_⟩ | ⟨w',z,_⟩ <;> cases z
def A3y (t:(AExc→A0→AH→Prop)→AT) (env:A0):G1:=fun ws h Qa Ea=> ∃Ein:AExc→A0→AH→Prop,(∀x e k,Ein x e k→C4 Ea x e k)∧t Ein (A2p env ws) h (B6 Qa).rt
section
variable {X:Cx} {G:Gx} {env:A0} {h:AH} {σ:L2.St} {H:Hp} {s:Shared} {pins:List (Addr×Obj)} {d:LamD} {f g c:Addr} {cdg:Value} {Ng:List Str} {qg:Str} {sg:Scope} {ps:List Str} {k:Nat} {t:(AExc→A0→AH→Prop)→AT} {Eg:XK}
theorem C4A (gk:G.K=X.K) (I:Inv X pins σ H s) (S:BS G env h σ H) (lf:LamF X d H f) (L:LamP X.env.scope d.scope X.N ps)
    (hbind:∀(q:Str) (cl:List (Str×Addr)) (pm cv ctv:Value) (us:List Value),us.length=ps.length→bindArgs (PySem.W.kla_fn "<lambda>" q d.params d.body d.scope cl pm cv ctv) ⟨us,[]⟩=pure (ps.zip us))
    (hr:Room (k+1) (X.A.deeper (envOfC qg sg s.heap.objs.size g cdg)))
    (hbody:∀(A:Around) (outer:List Env) (s:Shared) (H:Hp) (E:XK) (f c:Addr) (G:Gx) (E':AExc→A0→AH→Prop),Room k (A.deeper (lamEnv X d.scope s.heap.objs.size f c))→G.K=X.K→Takes (A2P X A outer s H E d.scope f c ps) (cW G E')→AE (A2P X A outer s H E d.scope f c ps) G d.body (t E')):
    LamHas (bx X.prog X.w X.K X.mg X.base Ng qg sg g cdg X.A X.stack s H Eg) ⟨X.K,h,H⟩ f ps.length (A3y t env):=by
  obtain ⟨c,hf,hc⟩:=lf
  have mt:∀E',B3 (t E'):=fun E'=> (hbody (X.A.deeper (envOfC qg sg s.heap.objs.size g cdg)) [] s H (fun _ _ _=> True) f c ⟨X.K,h,H⟩ E' (hr.deeper _) rfl (Takes.imp (W:=fun _ _ _ _=> True) (takes_of rfl rfl rfl rfl) fun _ _ _ _ _=> trivial)).mono
  have nf:=(S.nmu hf B3u).1
  have nc:=(S.nmu hc B3p).1
  refine ⟨fun ws h' Q Q' E E' k k' ⟨Ein,ke,q⟩=> ⟨Ein,fun x e g z=> (by obtain ⟨g',le,z⟩:=ke x e g z;exact ⟨g',le,k' _ _ z⟩),?_⟩,fun s2 H2 fr hok=> ?_,fun s2 H2 us vs Q E fr un e0 rv sp=> ?_⟩
  · refine mt _ _ _ _ _ (fun r e g z=> ?_) q
    obtain ⟨h2,le,z⟩:=z
    refine ⟨h2,le,?_⟩
    cases r with
    | val w=> exact k _ _ z
    | own c=> exact k _ _ z
    | slot i=>
      have z:match e[i]? with
        | some (some (.val w))=> Q (.val w) h2
        | some (some (.own c))=> Q (.own c) h2
        | _=> False:=z
      show match e[i]? with
        | some (some (.val w))=> Q' (.val w) h2
        | some (some (.own c))=> Q' (.own c) h2
        | _=> False
      split at z
      · exact k _ _ z
      · exact k _ _ z
      · exact z
  · have hf2:=fr _ _ hf nf B0f
    obtain ⟨⟨pm,ctv,e⟩,_,_⟩:=hok f _ hf2
    exact ⟨_,_,_,_,e⟩
  · have hf2:=fr _ _ hf nf B0f
    have hc2:=fr _ _ hc nc A7b
    obtain ⟨⟨pm,ctv,of⟩,_,_⟩:=e0.hok f _ hf2
    obtain ⟨⟨oc,fs,tk,hoc,hdc,hvc⟩,_,_⟩:=e0.hok c _ hc2
    obtain ⟨ws,h2,Qa,Ea,wl,hp,tb,rl,⟨Ein,kx,q⟩,kq,ke⟩:=sp
    have un:Un (frs X.stack) [] H H2 s.heap s2.heap:=un
    have hl:vs.length=ps.length:=by rw [←rl.length,wl]
    have hu:us.length=ps.length:=by rw [←rv.length];exact hl
    show codeAny (model X.prog X.w) (X.A.deeper (envOfC qg sg s.heap.objs.size g cdg)) _ _ s2
    refine PySem.W.kla_callFunE hr.depth of rfl L.co L.gen rfl ⟨c,oc,fs,tk,rfl,hoc,hdc,hvc⟩ ?_
    rw [hbind _ _ _ _ _ us hu]
    refine wpAny_pure (wpAny_newFunctionEnv (fun y hy=> (L.own y hy).1) (fun y hy=> (L.par y.1 (List.of_mem_zip hy).1).1) (fun h₁ hns hsb=> ⟨?_,?_⟩) L.kind)
    · have nl:s2.heap.NoLimit:=e0.mod.nolimit.keeps fun b o e=> (e0.bs b o e).1
      exact nl.fresh _ hsb
    · show codeAny _ _ (.expr d.body (lamEnv X d.scope s2.heap.objs.size f c)) _ _
      have kp:∀b o,s2.heap.get? b=some o→h₁.get? b=some o:=fun b o e=> hsb.extBut b o (Nat.ne_of_lt (Heap.lt_size e)) (Heap.get?_push_of_some _ e)
      have J:=C1R (A:=X.A.deeper (envOfC qg sg s.heap.objs.size g cdg)) (outer:=envOfC qg sg s.heap.objs.size g cdg::X.stack) (E:=E) (f:=f) (c:=c) (tk:=s2.toks+(ps.zip us).length) I L e0 hr.hd un hns kp rv hl
      have kk:Keeps H H2:=fun p o e i=> fr p o e (S.imm e i).1 i.nt
      have S2:BS ⟨X.K,h2,H2⟩ (A2p env ws) h2 (σ++vs.map some) H2:=BS.lam gk S kk hp tb rl
      have tkl:Takes (A2P X (X.A.deeper (envOfC qg sg s.heap.objs.size g cdg)) (envOfC qg sg s.heap.objs.size g cdg::X.stack) s2 H2 E d.scope f c ps) (cW ⟨X.K,h2,H2⟩ Ein):=
        Takes.imp (W:=fun cls d _ H'=> E cls d H') (takes_of rfl rfl rfl rfl) fun cls d σ' H' ⟨x,e',g',SB,xr,z⟩=> (by obtain ⟨g2,le,z⟩:=kx x e' g' z;exact ke x g2 cls d H' z (SB.hs.le le) xr)
      have rn:=(hbody _ _ s2 H2 E f c ⟨X.K,h2,H2⟩ Ein (hr.deeper _) rfl tkl).pe.run [] _ _ H2 Q J ⟨_,h2,S2,mt _ _ _ _ _ (fun r env3 h3 z v H3 S3 x3 r3 f3=> ?_) q⟩
      · refine PySem.W.kla_codeExpr (wpAny_mono rn (fun v s' hq=> ?_) fun e s' hq=> hq)
        obtain ⟨w',H',J',rv',q'⟩:=hq
        exact ⟨w',H',J'.os,J'.bare,J'.base,J'.hok,rv',q'⟩
      · obtain ⟨h4,le,z⟩:=z
        have hs:HS ⟨X.K,h2,H2⟩ h4 H3:=S3.hs.le le
        have own_end:∀{p:Addr} {c:Cont},v= .ref p→CRep X.K H3 p c→h3 p=none→H2 p=none→A3E ⟨X.K,h2,H2⟩ h4 H3 (.own c) v:=fun {p c} e1 e2 e3 e4=> by
          have e5:h4 p=none:=by
            cases z:h4 p with
            | none=> rfl
            | some u=> rw [le p u z] at e3;cases e3
          exact ⟨p,e1,e2,e5,e4⟩
        cases r with
        | val w=> exact kq (.val w) h4 v H3 z hs r3
        | own c=>
          obtain ⟨p,e1,cr,a,b,_⟩:=r3
          exact kq (.own c) h4 v H3 z hs (own_end e1 cr a b)
        | slot i=>
          have es:(σ++vs.map some)[i]? =some (some v):=r3
          have z:match env3[i]? with
            | some (some (.val w))=> Qa (.val w) h4
            | some (some (.own c))=> Qa (.own c) h4
            | _=> False:=z
          split at z
          · rename_i w ei
            obtain ⟨u,e3,rv⟩:=S3.val i w ei
            rw [es] at e3;cases e3
            exact kq (.val w) h4 v H3 z hs rv
          · rename_i c ei
            obtain ⟨p,e3,cr,a,b⟩:=S3.own i c ei
            rw [es] at e3;cases e3
            exact kq (.own c) h4 _ H3 z hs (own_end rfl cr a b)
          · exact z.elim
end
end Ab
namespace Ab
open PySem PySem.Spec PyProof.Rows L2 LamX
def B1y (E:AExc→A0→AH→Prop) (i:Nat) (f:Addr) (sp:G1) (t:G2):AT:=fun env h Q=> env[i]? =some (some (.val (.ref f)))∧aCall E sp t env h Q
section
variable {X:Cx} {G:Gx} {sp:G1} {n i:Nat} {f:Addr} {a:Str} {p pos:Pos} {e:Expr} {es:List Expr} {t:G2} {E:AExc→A0→AH→Prop}
theorem C4X (hL:LamHas X G f 0 sp) (gk:G.K=X.K) (hex:X.ex=[]) (hN:X.N[i]? =some a) (hv:Vis X.env.scope a) (tk:Takes X (cW G E))
    (hd:(a==("__debug__":Str))=false:=by decide) (hcd:(a==("__classdict__":Str))=false:=by decide):
    AE X G (.Call (.Name a p) [] [] pos) (B1y E i f sp aNil):=by
  refine ⟨fun env h Q Q' k ⟨e,q⟩=> ⟨e,aCall.mono hL.m aNil.mono env h _ _ k q⟩,⟨fun pins s σ H Q I ⟨env,h,S,hs,q⟩=> ?_⟩⟩
  obtain ⟨v,ev,rv⟩:=S.val i _ hs
  have rv:=Rep.of_ref (K:=G.K) (H:=H) rv
  subst rv
  refine wpAny_Call_Name_kw (thn ((pe_var (pos:=p) hN hv hd hcd).run pins s σ H (fun v H1=> v= .ref f∧H1=H) I ⟨.ref f,ev,rfl,rfl⟩) fun u s1 ⟨v,H1,I1,r1,q1⟩=> ?_)
  obtain ⟨e1,e2⟩:=q1
  subst e1
  rw [e2] at I1
  obtain rfl:u=Value.ref f:=r1
  have fr1:=hL.fn s1 H (fun p o x y z=> S.fr p o x y z) I1.hok
  have arg:cA G aNil σ H (fun vs H1=> (∃env1 h1,BS G env1 h1 σ H1)∧P8 G.K 0 sp vs H1 Q (WE (cW G E) σ)):=by
    refine ⟨env,h,S,aNil.mono env h _ _ (fun ws env1 h1 ⟨hl,z⟩ vs H1 S1 x1 r1=> ⟨⟨env1,h1,S1⟩,ws,h1,_,_,hl,S1.hp,S1.tabs,r1,z,fun r h' v H' y c rr=> ?_,fun x h' cls d H' y c xr=> (by obtain ⟨S2,x2⟩:=S1.after c;exact ⟨x,env1,h',S2,xr,y⟩)⟩) (B53 _ _ _ q)⟩
    obtain ⟨S2,x2⟩:=S1.after c
    cases r with
    | val w=> exact y v H' S2 (x1.trans x2) rr trivial
    | own c0=>
      obtain ⟨p,e,cr,a,b⟩:=rr
      have nw:H1 p=none:=b
      obtain ⟨_,g0,no⟩:=S1.noAt nw
      exact y v H' S2 (x1.trans x2) ⟨p,e,cr,a,g0,no⟩ fun p' e'=> by
        rw [e] at e';cases e';exact x1.fresh nw
  refine PySem.W.callWith_F0 fr1 ?_
  have arg:=arg
  obtain ⟨env',h',S',arg⟩:=arg
  obtain ⟨⟨env2,h2,S2⟩,c2⟩:=arg [] H S' .refl .nil
  have I2:=I1
  have r:Vals ([]:List V) ([]:List Value):= .nil
  · have fr2:∀p o,G.H0 p=some o→G.h0 p=none→NT o→H p=some o:=fun p o x y z=> S2.fr p o x y z
    have un:Un X.fs [] X.H_0 H X.s_0.heap s1.heap:=hex▸I2.base
    refine wpAny_call (codeAny_mono (hL.run s1 H [] [] Q (WE (cW G E) σ) fr2 un I2.env0 r (gk▸c2)) fun r s' hq=> ?_)
    cases r with
    | error e=> exact passAt tk σ pins H s1 e s' I2 hq
    | ok fl=>
      cases fl with
      | ret u=> exact I2.after hq
      | next=> exact False.elim hq
      | brk=> exact False.elim hq
      | cont=> exact False.elim hq
end
def A97 (E:AExc→A0→AH→Prop) (n m:Nat) (tc:Addr→G1→(AExc→A0→AH→Prop)→C0) (tb:(AExc→A0→AH→Prop)→AT) (t:ALT):AT:=fun env h Q=> t env h fun f ws env1 h1=> ∃Qa Ea,
  (∀r h2,Qa r h2→match r with
    | RR.val w=> Q (.val w) env1 h2
    | RR.own c=> Q (.own c) env1 h2)∧(∀x h2,Ea x h2→E x env1 h2)∧(ws.length=n→tc f (A3y tb env1) (C4 Ea) (B6 Qa) (G8 m ws) h1)
section
variable {X:Cx} {G:Gx} {d:LamD} {n kg kl:Nat} {g:Addr} {fd:FuncData} {x:Str} {st:Stmt} {Ng psg ps:List Str} {p pos:Pos} {e:Expr} {es:List Expr} {t:ALT} {tb:(AExc→A0→AH→Prop)→AT} {tc:Addr→G1→(AExc→A0→AH→Prop)→C0} {E:AExc→A0→AH→Prop}
theorem C0k (gk:G.K=X.K) (FD:FunD X.K x x (defArgs st) (defBody st) (defScope st) [] [] g fd) (hm:X.mg x=some (.ref g)) (bd:O8 x st psg) (Sg:FnScope Ng psg (defScope st)) (hn:psg.length=n) (hg:Gl X x) (tk:Takes X (cW G E)) (hr:Room (kg+1) X.A)
    (al:AL X G d (e::es) n t) (L:LamP X.env.scope d.scope X.N ps) (hk:kl+1≤kg)
    (hbind:∀(q:Str) (cl:List (Str×Addr)) (pm cv ctv:Value) (us:List Value),us.length=ps.length→bindArgs (PySem.W.kla_fn "<lambda>" q d.params d.body d.scope cl pm cv ctv) ⟨us,[]⟩=pure (ps.zip us))
    (hbody:∀(A:Around) (outer:List Env) (s:Shared) (H:Hp) (E:XK) (f c:Addr) (G:Gx) (E':AExc→A0→AH→Prop),Room kl (A.deeper (lamEnv X d.scope s.heap.objs.size f c))→G.K=X.K→Takes (A2P X A outer s H E d.scope f c ps) (cW G E')→AE (A2P X A outer s H E d.scope f c ps) G d.body (tb E'))
    (hb:∀(cdv:Value) (s:Shared) (H:Hp) (EX:XK) (G':Gx) (E':AExc→A0→AH→Prop) (f:Addr) (sp:G1),Room kg (X.A.deeper (envOfC x (defScope st) s.heap.objs.size g cdv))→G'.K=X.K→
      Takes (bx X.prog X.w X.K X.mg X.base Ng x (defScope st) g cdv X.A X.stack s H EX) (cW G' E')→LamHas (bx X.prog X.w X.K X.mg X.base Ng x (defScope st) g cdv X.A X.stack s H EX) G' f ps.length sp→
      ASs (bx X.prog X.w X.K X.mg X.base Ng x (defScope st) g cdv X.A X.stack s H EX) G' (defBody st) (tc f sp E'))
    (hdb:(x==("__debug__":Str))=false:=by decide) (he:starEach (e::es) X.env=(false,eval e X.env)::starEach es X.env:=by rfl) (hpl:(backTo pos (starEach es X.env)).any (·.1)=false:=by rfl):
    AE X G (.Call (.Name x p) (e::es) [] pos) (A97 E n Ng.length tc tb t):=by
  refine ⟨fun env h Q Q' k q=> al.mono env h _ _ (fun f ws e g ⟨Qa,Ea,a,b,z⟩=> ⟨Qa,Ea,fun r h2 y=> by
    have y:=a r h2 y
    cases r with
    | val w=> exact k _ _ _ y
    | own c=> exact k _ _ _ y,b,z⟩) q,⟨fun pins s σ H Q I ⟨env,h,S,q⟩=> ?_⟩⟩
  · refine wpAny_Call_Name_kw (ld_glob I hg hm ?_ hdb)
    refine PySem.W.callWith_K (h₀:=X.base) I.ok.mod.kin FD.kp (thn (al.pa.run pos pins s σ H (fun vs H1=> ∃f ws env1 h1,BS G env1 h1 σ H1∧Xt env h σ H env1 h1 H1∧RepL G.K H1 ws vs∧LamF X d H1 f∧ws.length=n∧∃(Qa:RR→AH→Prop) (Ea:AExc→AH→Prop),
        (∀r h2,Qa r h2→match r with
          | .val w=> ∀v H',BS G env1 h2 σ H'→Xt env h σ H env1 h2 H'→RvRep G env1 h2 σ H' (.val w) v→R0 H (.val w) v→Q v H'
          | .own c=> ∀v H',BS G env1 h2 σ H'→Xt env h σ H env1 h2 H'→RvRep G env1 h2 σ H' (.own c) v→R0 H (.own c) v→Q v H')∧(∀x h2,Ea x h2→E x env1 h2)∧tc f (A3y tb env1) (C4 Ea) (B6 Qa) (G8 Ng.length ws) h1)
      I ⟨env,h,S,al.mono env h _ _ (fun f ws env1 h1 ⟨wl,Qa,Ea,qa,ea,z⟩ vs H1 S1 x1 r1 lf=> ⟨f,ws,env1,h1,S1,x1,r1,lf,wl,Qa,Ea,fun r h2 y=> by cases r <;> exact qa _ _ y,ea,z wl⟩) (al.ln _ _ _ q)⟩)
      fun us s1 ⟨vs,H1,I1,r,f,ws,env1,h1,S1,x1,r1,lf,wl,Qa,Ea,qa,ea,z⟩=> ⟨I1.kIn,?_⟩) he hpl
    have hlv:vs.length=psg.length:=by rw [←r1.length,wl,hn]
    have hlu:us.length=psg.length:=by rw [←r.length];exact hlv
    have b:=FD.bindsA (ps:=psg) bd s1 us hlu
    obtain ⟨oc,od,dV,kV,doc,pm,an,cdv,ct,osl,rfl,lk,hcd,_,_⟩:=FD.ex
    have hwN:ws.length≤Ng.length:=by
      have z:=congrArg List.length Sg.pre
      rw [List.length_take] at z
      omega
    have ke:∀x h' cls d H',Ea x h'→HS ⟨G.K,h1,H1⟩ h' H'→XRep G.K H' x cls d→WE (cW G E) σ cls d H':=fun x h' cls d H' y c xr=> by
      obtain ⟨S2,x2⟩:=S1.after c
      exact ⟨x,env1,h',S2,xr,ea _ _ y⟩
    have kq:∀r h' v H',Qa r h'→HS ⟨G.K,h1,H1⟩ h' H'→A3E ⟨G.K,h1,H1⟩ h' H' r v→Q v H':=fun r h' v H' y c rr=> by
      obtain ⟨S2,x2⟩:=S1.after c
      have y:=qa r h' y
      cases r with
      | val w=> exact y v H' S2 (x1.trans x2) rr trivial
      | own c0=>
        obtain ⟨p,e,cr,a,b⟩:=rr
        have nw:H1 p=none:=b
        obtain ⟨_,g0,no⟩:=S1.noAt nw
        exact y v H' S2 (x1.trans x2) ⟨p,e,cr,a,g0,no⟩ fun p' e'=> by
          rw [e] at e';cases e';exact x1.fresh nw
    have rr1:RepL X.K H1 ws vs:=gk▸r1
    have tb1:TabsK X.K H1:=gk▸S1.tabs
    have hp1:∀a o,h1 a=some o→ORep X.K H1 a o:=gk▸S1.hp
    rw [gk] at ke kq
    refine wpAny_call (codeAny_mono (run_ofS (CX:=L2.CX X.prog X.w) (N:=Ng) (ps:=psg) (vs:=vs) (k:=kg) (Q:=Q) (E:=WE (cW G E) σ) lk hcd Sg hr I1.env0 b r hlv fun hr'=> ?_) fun r s' hq=> ?_)
    · have tk':Takes (bx X.prog X.w X.K X.mg X.base Ng x (defScope st) g cdv X.A X.stack s1 H1 (WE (cW G E) σ)) (cW ⟨X.K,h1,H1⟩ (C4 Ea)):=
        Takes.imp (W:=fun cls d _ H'=> WE (cW G E) σ cls d H') (takes_of rfl rfl rfl rfl) fun cls d σ' H' ⟨x,env,h',SB,xr,h'',le,e⟩=> ke x h'' cls d H' e (HS.le (G:=⟨X.K,h1,H1⟩) SB.hs le) xr
      have lh:=C4A (Ng:=Ng) (qg:=x) (sg:=defScope st) (g:=g) (cdg:=cdv) (k:=kl) (Eg:=WE (cW G E) σ) gk I1 S1 lf L hbind (hr'.mono hk) hbody
      refine ⟨_,(hb cdv s1 H1 (WE (cW G E) σ) ⟨X.K,h1,H1⟩ (C4 Ea) f (A3y tb env1) hr' rfl tk' lh).ps,G8 Ng.length ws,h1,B6 Qa,BS.begin hp1 tb1 rr1 hwN,z,?_⟩
      refine ⟨fun env h' σ' H' SB _ ⟨h'',le,e⟩=> kq (.val .non) h'' .non H' e (SB.hs.le le) (show Rep X.K H' .non .non from .non),fun r0 env h' σ' H' v SB _ rr ⟨h'',le,e⟩=> ?_,fun _ _ _ _ _ _ z=> z.elim,fun _ _ _ _ _ _ z=> z.elim⟩
      have own_end:∀{p:Addr} {c:Cont},v= .ref p→CRep X.K H' p c→h' p=none→H1 p=none→A3E ⟨X.K,h1,H1⟩ h'' H' (.own c) v:=fun {p c} e1 e2 e3 e4=> by
        have e5:h'' p=none:=by
          cases z:h'' p with
          | none=> rfl
          | some u=> rw [le p u z] at e3;cases e3
        exact ⟨p,e1,e2,e5,e4⟩
      cases r0 with
      | val w0=> exact kq (.val w0) h'' v H' e (SB.hs.le le) rr
      | own c=>
        obtain ⟨p,e1,cr,a,b,_⟩:=rr
        exact kq (.own c) h'' v H' e (SB.hs.le le) (own_end e1 cr a b)
      | slot i=>
        have es:σ'[i]? =some (some v):=rr
        have e:match env[i]? with
          | some (some (.val w))=> Qa (.val w) h''
          | some (some (.own c))=> Qa (.own c) h''
          | _=> False:=e
        split at e
        · rename_i w0 ei
          obtain ⟨u,e3,rv⟩:=SB.val i w0 ei
          rw [es] at e3;cases e3
          exact kq (.val w0) h'' v H' e (SB.hs.le le) rv
        · rename_i c ei
          obtain ⟨p,e3,cr,a,b⟩:=SB.own i c ei
          rw [es] at e3;cases e3
          exact kq (.own c) h'' _ H' e (SB.hs.le le) (own_end rfl cr a b)
        · exact e.elim
    · cases r with
      | error e=> exact passAt tk σ pins H1 s1 e s' I1 hq
      | ok fl=>
        cases fl with
        | ret u=> exact I1.after hq
        | next=> exact False.elim hq
        | brk=> exact False.elim hq
        | cont=> exact False.elim hq
end
end Ab
namespace Ab
open PySem PySem.Spec PyProof.Rows L2 LamX
def A8U (sc scope:Scope) (N ps:List Str):Bool:=
  decide (scope.kind= .function) && !scope.isCoroutine && !scope.isGenerator && (scope.names.all fun y=> !decide (y.2= .cell) && (!decide (y.2= .local) || decide (y.1∈ps)) && (!decide (y.2= .free) || decide (sc.names.lookup y.1=some .cell) || decide (sc.names.lookup y.1=some .free))) &&
    (ps.all fun x=> decide (scope.names.lookup x=some .local) && !decide (x∈N)) && decide ps.Nodup
theorem B5T {sc scope:Scope} {N ps:List Str} (h:A8U sc scope N ps=true):LamP sc scope N ps:=by
  unfold A8U at h
  simp only [Bool.and_eq_true,Bool.or_eq_true,Bool.not_eq_true',decide_eq_true_eq,decide_eq_false_iff_not,List.all_eq_true] at h
  obtain ⟨⟨⟨⟨⟨h1,h2⟩,h3⟩,h4⟩,h5⟩,h6⟩:=h
  refine ⟨h1,h2,h3,fun y hy=> ⟨(h4 y hy).1.1,fun e=> ?_⟩,h5,h6,fun y hy e=> ?_⟩
  · rcases (h4 y hy).1.2 with z | z
    · exact absurd e z
    · exact z
  · rcases (h4 y hy).2 with (z | z) | z
    · exact absurd e z
    · exact .inl z
    · exact .inr z
structure MakesL (K:PySem.W.Frag) (mg:Str→Option Value) (base:Heap) (q:Str) (cdv:Value):Prop where
  ex:∃c P,cdv= .ref c∧TabB base mg c P∧(P,q)∈A3h K∧∀p∈A3h K,p.1=P→p.2=q
def A8L (K:PySem.W.Frag) (f:Addr) (cdv:Value):Prop:=∃oc od fd osl,K.lookup f=some ⟨oc,od,.func fd,osl⟩∧fd.code=cdv
section
variable {P:Program} {w:World} {K:PySem.W.Frag} {mg:Str→Option Value} {base:Heap} {x qual:Str} {params:Arguments} {body:List Stmt} {scope:Scope} {f:Addr} {fd:FuncData} {N ps:List Str} {k n:Nat} {sp:G1} {st:Stmt}
theorem B5o {t:C0} {cdv:Value} {A:Around} {outer:List Env} {s:Shared} {H:Hp} {vs:List V} {Q:VK} {E:XK} {ws:List W} {h:AH} {Qa:RR→AH→Prop} (hwN:ws.length≤N.length)
    (hb:ASs (bx P w K mg base N qual scope f cdv A outer s H E) ⟨K,h,H⟩ body t) (hp:∀a o,h a=some o→ORep K H a o) (tb:TabsK K H) (r:RepL K H ws vs) (q:t (B6 Qa) (G8 N.length ws) h)
    (kq:∀r h' v H',Qa r h'→HS ⟨K,h,H⟩ h' H'→A3E ⟨K,h,H⟩ h' H' r v→Q v H'):
    ∃t,PSs (cxOf (L2.CX P w) P w K mg base N qual scope f cdv A outer s H E) body t∧t { nx:=fun _ H'=> Q .non H',rt:=Q } (start N vs) H:=by
  refine ⟨_,hb.ps,G8 N.length ws,h,B6 Qa,BS.begin hp tb r hwN,q,?_⟩
  refine ⟨fun env h' σ' H' SB _ ⟨h'',le,e⟩=> kq (.val .non) h'' .non H' e (SB.hs.le le) (show Rep K H' .non .non from .non),fun r0 env h' σ' H' v SB _ rr ⟨h'',le,e⟩=> ?_,fun _ _ _ _ _ _ z=> z.elim,fun _ _ _ _ _ _ z=> z.elim⟩
  have own_end:∀{p:Addr} {c:Cont},v= .ref p→CRep K H' p c→h' p=none→H p=none→A3E ⟨K,h,H⟩ h'' H' (.own c) v:=fun {p c} e1 e2 e3 e4=> by
    have e5:h'' p=none:=by
      cases z:h'' p with
      | none=> rfl
      | some u=> rw [le p u z] at e3;cases e3
    exact ⟨p,e1,e2,e5,e4⟩
  cases r0 with
  | val w0=> exact kq (.val w0) h'' v H' e (SB.hs.le le) rr
  | own c=>
    obtain ⟨p,e1,cr,a,b,_⟩:=rr
    exact kq (.own c) h'' v H' e (SB.hs.le le) (own_end e1 cr a b)
  | slot i=>
    have es:σ'[i]? =some (some v):=rr
    have e:match env[i]? with
      | some (some (.val w))=> Qa (.val w) h''
      | some (some (.own c))=> Qa (.own c) h''
      | _=> False:=e
    split at e
    · rename_i w0 ei
      obtain ⟨u,e3,rv⟩:=SB.val i w0 ei
      rw [es] at e3;cases e3
      exact kq (.val w0) h'' v H' e (SB.hs.le le) rv
    · rename_i c ei
      obtain ⟨p,e3,cr,a,b⟩:=SB.own i c ei
      rw [es] at e3;cases e3
      exact kq (.own c) h'' _ H' e (SB.hs.le le) (own_end rfl cr a b)
    · exact e.elim
theorem B5B {cdv:Value} {A:Around} {outer:List Env} {s:Shared} {H:Hp} {h:AH} {E:XK} {Ea:AExc→AH→Prop} (ke:∀x h' cls d H',Ea x h'→HS ⟨K,h,H⟩ h' H'→XRep K H' x cls d→E cls d H'):
    Takes (bx P w K mg base N qual scope f cdv A outer s H E) (cW ⟨K,h,H⟩ (C4 Ea)):=
  Takes.imp (W:=fun cls d _ H'=> E cls d H') (takes_of rfl rfl rfl rfl) fun cls d σ H' ⟨x,env,h',SB,xr,h'',le,e⟩=> ke x h'' cls d H' e (HS.le (G:=⟨K,h,H⟩) SB.hs le) xr
theorem Ok.mkL {t:(AExc→A0→AH→Prop)→C0} (sm:Q7 sp) (hm:mg x=some (.ref f)) (F:FunD K x x (defArgs st) (defBody st) (defScope st) [] [] f fd) (S:FnScope N ps (defScope st)) (hn:ps.length=n)
    (lm:∀cdv,A8L K f cdv→MakesL K mg base (x++".<locals>."++"<lambda>") cdv)
    (hb:∀(cdv:Value) (A:Around) (outer:List Env) (s:Shared) (H:Hp) (E:XK) (G:Gx) (E':AExc→A0→AH→Prop),MakesL K mg base (x++".<locals>."++"<lambda>") cdv→Room k (A.deeper (envOfC x (defScope st) s.heap.objs.size f cdv))→G.K=K→Takes (bx P w K mg base N x (defScope st) f cdv A outer s H E) (cW G E')→
      ASs (bx P w K mg base N x (defScope st) f cdv A outer s H E) G (defBody st) (t E'))
    (hq:∀ws h Qa Ea,ws.length=n→sp ws h Qa Ea→t (C4 Ea) (B6 Qa) (G8 N.length ws) h):Ok P w K mg base x st (k+1) n ps sp:=by
  refine ⟨sm,f,fd,hm,F,?_⟩
  obtain ⟨oc,od,dV,kV,doc,pm,an,cdv,ct,osl,rfl,lk,hcd,_,_⟩:=F.ex
  refine fn_of lk hcd S (fun vs H Q E ⟨ws,h,Qa,Ea,hl,_,_,r,_⟩=> by rw [←r.length,hl,hn]) fun A outer s H vs Q E hr ⟨ws,h,Qa,Ea,hl,hp,tb,r,q,kq,ke⟩=> ?_
  have hwN:ws.length≤N.length:=by
    have z:=congrArg List.length S.pre
    rw [List.length_take] at z
    omega
  exact B5o hwN (hb cdv A outer s H E ⟨K,h,H⟩ (C4 Ea) (lm cdv ⟨oc,od,_,osl,lk,rfl⟩) hr rfl (B5B ke)) hp tb r (hq ws h Qa Ea hl q) kq
end
section
variable {X:Cx} {G:Gx} {d:LamD} {e:Expr} {es:List Expr} {pos:Pos} {n:Nat} {q:Str} {N ps:List Str}
theorem C2S {t:G2} {params:Arguments} {body:Expr} {scope:Scope} (gk:G.K=X.K) (lm:MakesL X.K X.mg X.base q X.env.code) (hq:q=X.env.qual++"<lambda>") (L:LamP X.env.scope scope N ps) (b:AN X G es n t) (dfl:defaultsOf params X.env=([],[]):=by rfl)
    (hs:starEach (.Lambda params body scope pos::es) X.env=(false,eval (.Lambda params body scope pos) X.env)::starEach es X.env:=by rfl):AL X G ⟨params,body,scope⟩ (.Lambda params body scope pos::es) (n+1) (A7q t):=by
  obtain ⟨c,P,e,tb,m,u⟩:=lm.ex
  subst hq
  exact C3S (d:=⟨params,body,scope⟩) gk ⟨tb,e,m,u,dfl,fun ok=> L.has ok⟩ b hs
end
end Ab
namespace Ab
open PySem PySem.Spec PyProof.Rows L2 RZ
def A39 (o:Obj):Bool:=match o.cls with
  | .type c=> decide (c="list")
  | _=> false
def frK (g:Addr→Option Obj) (as:List Addr):PySem.W.Frag:=He.frG (fun a=> (g a).bind fun o=> if A39 o=true then none else some o) as
theorem C5X {as:List Addr} {h:Heap}:(frK h.get? as).In h:=fun a o e=> by
  have z:=He.frG_at (g:=fun a=> (h.get? a).bind fun o=> if A39 o=true then none else some o) as e
  cases q:h.get? a with
  | none=> rw [q] at z;cases z
  | some u=>
    rw [q] at z
    have z:(if A39 u=true then none else some u)=some o:=z
    split at z
    · cases z
    · exact z
def A8y (K:PySem.W.Frag):Prop:=∀a o,K.lookup a=some o→o.cls≠ .type "list"
theorem C5C {g:Addr→Option Obj} {as:List Addr}:A8y (frK g as):=fun a o e c=> by
  have z:=He.frG_at (g:=fun a=> (g a).bind fun o=> if A39 o=true then none else some o) as e
  cases q:g a with
  | none=> rw [q] at z;cases z
  | some u=>
    rw [q] at z
    have z:(if A39 u=true then none else some u)=some o:=z
    split at z
    · cases z
    · rename_i n
      cases z
      exact n (by unfold A39;rw [c];rfl)
def A8o (g:Addr→Option Obj) (a:Addr):List Addr:=match g a with
  | some o=> match o.data with
    | .seq its _=> its.toList.flatMap He.refV
    | .dict es _=> es.toList.flatMap fun e=> He.refV e.val
    | .func fd=> He.refV fd.code++He.refV fd.defaults++He.refV fd.kwdefaults++fd.closure.map (·.2)
    | .cls cd=> [cd.ns]
    | .cell (some v)=> He.refV v
    | _=> []
  | none=> []
def asK (g:Addr→Option Obj):List Addr:=
  let l1:=A8o g mainGlobals
  let l2:=l1.flatMap (A8o g)
  let l3:=l2.flatMap (A8o g)
  let l4:=l3.flatMap (A8o g)
  mainGlobals::(l1++l2++l3++l4)
def asL (g:Addr→Option Obj) (ls:List (Str×Option Str)):List Addr:=match ls with
  | []=> asK g
  | l::r=> asK g++B6t::(l::r).map fun x=> He.codeOf (frK g (asK g)) x
abbrev AlK:Type:=He.AlD×Bool
def B7V (g:Addr→Option Obj) (K:PySem.W.Frag):Bool:=(i9 K).all fun p=> PySem.W.codeHdIn K p.1.1 p.1.2 && (match K.lookup p.1.2 with
  | none=> true
  | some _=> false) && (match g p.1.2 with
  | some o=> He.emptyTab o
  | none=> false)
def B2G (K:PySem.W.Frag) (h:Heap):Prop:=∀p∈i9 K,PySem.W.codeHdIn K p.1.1 p.1.2=true∧K.lookup p.1.2=none∧h.get? p.1.2=some { cls:= .none,data:= .fields #[] }
theorem C3E {h:Heap} {K:PySem.W.Frag} (e:B7V h.get? K=true):B2G K h:=fun p hp=> by
  have z:=List.all_eq_true.mp e p hp
  simp only [Bool.and_eq_true] at z
  obtain ⟨⟨z1,z2⟩,z3⟩:=z
  refine ⟨z1,?_,?_⟩
  · cases q:K.lookup p.1.2 with
    | none=> rfl
    | some o=> rw [q] at z2;cases z2
  · cases q:h.get? p.1.2 with
    | none=> rw [q] at z3;cases z3
    | some o=> rw [q] at z3;rw [He.emptyTab_eq z3]
def B2L (fa:List He.Fa) (fn:List He.DefD) (ex:PySem.W.Frag→Bool) (ls:List (Str×Option Str)) (g:Addr→Option Obj):AlK:=
  let K:=frK g (asL g ls)
  (He.obsD fa fn K,ex K && B7V g K)
def B7P (fa:List He.Fa) (fn:List He.DefD) (ex:PySem.W.Frag→Bool) (ls:List (Str×Option Str)):PySem.W.Hook where
  α:=AlK
  obs:=fun s=> B2L fa fn ex ls s.heap.get?
  val:=fun _=> (He.valD fn,true)
  says:=fun _ h=> ∃K:PySem.W.Frag,K.In h∧(He.SaysD fa fn K∧ex K=true)∧A8y K∧B2G K h
  of:=fun _ _ e=> by
    have z:=congrArg Prod.snd e
    have z:=Bool.and_eq_true_iff.mp z
    exact ⟨_,C5X,⟨congrArg Prod.fst e,z.1⟩,C5C,C3E z.2⟩
  keeps:=fun _ _ _ ⟨K,hK,c,n,t⟩ k=> ⟨K,PySem.W.Frag.In.keeps hK k,c,n,fun p hp=> ⟨(t p hp).1,(t p hp).2.1,k _ _ (t p hp).2.2⟩⟩
theorem C3f {fa:List He.Fa} {fn:List He.DefD} {ex:PySem.W.Frag→Bool} {ls:List (Str×Option Str)} {g:Addr→Option Obj} {s:Shared} (h:∀a,g a=s.heap.get? a):B2L fa fn ex ls g=(B7P fa fn ex ls).obs s:=by
  have e:g=s.heap.get?:=funext h
  rw [e] <;> rfl
theorem FunD.one {K:PySem.W.Frag} {x q x' q':Str} {a a':Arguments} {b b':List Stmt} {sc sc':Scope} {d d':List V} {k k':List (Str×V)} {f:Addr} {fd fd':FuncData} (F:FunD K x q a b sc d k f fd) (F':FunD K x' q' a' b' sc' d' k' f fd'):fd=fd':=by
  obtain ⟨oc,od,dV,kV,doc,pm,an,cdv,ct,osl,_,lk,_⟩:=F.ex
  obtain ⟨oc',od',dV',kV',doc',pm',an',cdv',ct',osl',_,lk',_⟩:=F'.ex
  rw [lk] at lk'
  cases lk'
  rfl
def B1w (K:PySem.W.Frag) (x:Str×Option Str) (q:Str):Bool:=match K.lookup (He.fAd K x) with
  | some ⟨_,_,.func fd,_⟩=> (match fd.code with
    | .ref c=> (i9 K).any fun p=> decide (p.1.1=c) && decide (p.2=q++".<locals>."++"<lambda>")
    | _=> false)
  | _=> false
def B7f (K:PySem.W.Frag):Bool:=(i9 K).all fun p=> (i9 K).all fun p'=> !decide (p.1.2=p'.1.2) || decide (p.2=p'.2)
theorem C2a {K:PySem.W.Frag} {mg:Str→Option Value} {base:Heap} {x:Str×Option Str} {q:Str} (h:B1w K x q=true) (u:B7f K=true) (tb:∀p∈(i9 K).map (·.1),LamX.TabB base mg p.1 p.2):∀cdv,A8L K (He.fAd K x) cdv→MakesL K mg base (q++".<locals>."++"<lambda>") cdv:=fun cdv ⟨oc,od,fd,osl,lk,ec⟩=> by
  unfold B1w at h
  rw [lk] at h
  have h:(match fd.code with
    | .ref c=> (i9 K).any fun p=> decide (p.1.1=c) && decide (p.2=q++".<locals>."++"<lambda>")
    | _=> false)=true:=h
  rw [ec] at h
  cases cdv with
  | ref c=>
    have h:((i9 K).any fun p=> decide (p.1.1=c) && decide (p.2=q++".<locals>."++"<lambda>"))=true:=h
    obtain ⟨p,hp,z⟩:=List.any_eq_true.mp h
    simp only [Bool.and_eq_true,decide_eq_true_eq] at z
    obtain ⟨z1,z2⟩:=z
    refine ⟨c,p.1.2,rfl,z1▸tb p.1 (List.mem_map.mpr ⟨p,hp,rfl⟩),List.mem_map.mpr ⟨p,hp,by rw [z2]⟩,fun t ht e=> ?_⟩
    obtain ⟨p',hp',rfl⟩:=List.mem_map.mp ht
    have y:=List.all_eq_true.mp (List.all_eq_true.mp u p' hp') p hp
    simp only [Bool.or_eq_true,Bool.not_eq_true',decide_eq_true_eq,decide_eq_false_iff_not] at y
    rcases y with y | y
    · exact absurd e y
    · exact y.trans z2
  | _=> cases h
def B1U (sp:G1):Prop:=∀(ns:List Int),ns.length≤63→sp [W.lst (ns.map .int)] (fun _=> none) (fun r _=> r= .val (.bl true)) fun _ _=> False
def B7c (K:PySem.W.Frag):Sp:=fun vs H Q _=> ∃(a:Addr) (ns:List Int),vs=[.ref a]∧ns.length≤63∧SqL K H a (ns.map V.int)∧(∀p∈i9 K,H p.1.2=some (.tbl #[]))∧(∀H',Q (.bl true) H')
theorem B6O {K:PySem.W.Frag} {sp:G1} (ls:B1U sp) {H:Hp} {a:Addr} {ns:List Int} {Q:VK} {E:XK} (hl:ns.length≤63) (hS:LsF H a (ns.map V.int)) (hT:TabsK K H) (q:∀H',Q (.bl true) H'):P8 K 1 sp [.ref a] H Q E:=
  ⟨[.lst (ns.map .int)],fun _=> none,_,_,rfl,(fun _ _ e=> nomatch e),hT,.cons (.lst hS .ints) .nil,ls ns hl,fun r h' v H' e _ rr=> by
    subst e
    have z:=Rep.of_bl (K:=K) (H:=H') rr
    rw [z];exact q H',fun _ _ _ _ _ z _ _=> z.elim⟩
theorem B5j {K:PySem.W.Frag} {H:Hp} (h:∀p∈i9 K,H p.1.2=some (.tbl #[])):TabsK K H:=fun p hp=> by
  obtain ⟨q,hq,rfl⟩:=List.mem_map.mp hp
  exact LamX.TabS.nil (h q hq)
theorem C5B {P:Program} {w:World} {K:PySem.W.Frag} {mg:Str→Option Value} {base:Heap} {k:Nat} {f:Addr} {fd:FuncData} {ps:List Str} {sp:G1} (ls:B1U sp) (no:A8y K) (F:FnOk P w K mg base (L2.CX P w) k f fd ps (P8 K 1 sp)) (hp:ps.length=1):
    FnOk P w K mg base (L2.CX P w) k f fd ps (B7c K):=by
  refine ⟨fun vs H Q E ⟨a,ns,e,_⟩=> by rw [e,hp];rfl,fun A outer s H args us vs Q E hr e0 hb hv ⟨a,ns,ev,hl,hS,hT,q⟩=> ?_⟩
  subst ev
  rcases hS with (h | h) | ⟨o,its,n,l,c,_⟩
  ·
    obtain ⟨l1,its,n,rv,ho⟩:=e0.hok a _ h
    have keep:∀b o,H b=some o→(∀xs,o≠ .lst xs)→upd H a (.frz { cls:= .type "list",data:= .seq its.toArray n } (.lst (ns.map V.int))) b=some o:=fun b o e m=> by
      have ne:b≠a:=fun z=> by
        rw [z,h] at e
        exact m _ (Option.some.inj e).symm
      rw [upd_ne ne];exact e
    have non:∀b,H b=none→upd H a (.frz { cls:= .type "list",data:= .seq its.toArray n } (.lst (ns.map V.int))) b=none:=fun b e=> by
      have ne:b≠a:=fun z=> by rw [z,h] at e;cases e
      rw [upd_ne ne];exact e
    have sub:∀b o,ObjOk P w H s.heap b o→ObjOk P w (upd H a (.frz { cls:= .type "list",data:= .seq its.toArray n } (.lst (ns.map V.int)))) s.heap b o:=by
      intro b o
      induction o with
      | dT kvs=>
        rintro ⟨a1,a2,xs,a3,a4⟩
        exact ⟨a1,a2,xs,a3.mono fun x y ⟨b1,b2,b3⟩=> ⟨b1,keep _ _ b2 (fun xs z=> by cases z),b3⟩,a4⟩
      | ins C dx fs=>
        rintro ⟨a1,a2⟩
        exact ⟨keep _ _ a1 (fun xs z=> by cases z),a2⟩
      | frz o u ih=> rintro ⟨a1,a2⟩;exact ⟨a1,ih a2⟩
      | _=> exact id
    have hok:HOk P w (upd H a (.frz { cls:= .type "list",data:= .seq its.toArray n } (.lst (ns.map V.int)))) s.heap:=fun b o e=> by
      by_cases hb:b=a
      · subst hb
        rw [upd_same] at e
        cases e
        exact ⟨ho,l1,its,n,rv,ho⟩
      · rw [upd_ne hb] at e
        exact sub b o (e0.hok b o e)
    have hT2:TabsK K (upd H a (.frz { cls:= .type "list",data:= .seq its.toArray n } (.lst (ns.map V.int)))):=B5j fun p m=> keep _ _ (hT p m) fun xs z=> by cases z
    have run:=F.run A outer s _ args us [.ref a] Q E hr ⟨e0.frames,e0.mod,fun b o e=> ⟨(e0.bs b o e).1,non b (e0.bs b o e).2⟩,e0.bsz,e0.funs,fun b m=> non b (e0.frf b m),hok,e0.bare⟩ hb hv (B6O ls hl ⟨_,upd_same⟩ hT2 q)
    refine codeAny_mono run fun r s' z=> ?_
    cases r with
    | error e=>
      obtain ⟨a',B,H',cls,d,e1,e2,e3,e4,e5,e6,e7,e8⟩:=z
      have nn:∀b,upd H a (.frz { cls:= .type "list",data:= .seq its.toArray n } (.lst (ns.map V.int))) b=none→H b=none:=fun b e=> by
        by_cases hb:b=a
        · subst hb;rw [upd_same] at e;cases e
        · rw [upd_ne hb] at e;exact e
      exact ⟨a',B,H',cls,d,e1,e2,e3,⟨fun b o x y=> e4.keep b o x (non b y),e4.slot,fun b o x y=> e4.free b o x (non b y),e4.there,fun b xs x=> e4.tups b xs (keep _ _ x fun xs z=> by cases z),fun b o u x=> e4.frzs b o u (keep _ _ x fun xs z=> by cases z),fun b ps x=> e4.tbls b ps (keep _ _ x fun xs z=> by cases z)⟩,e5,e6,e7,e8⟩
    | ok fl=>
      cases fl with
      | ret u=>
        obtain ⟨v,H',e1,e2,e3,e4,e5,e6⟩:=z
        exact ⟨v,H',e1,e2,⟨fun b o x y=> e3.keep b o x (non b y),fun b o x y=> e3.slot b o x (non b y),fun b o x y=> e3.free b o x (non b y),e3.there,fun b xs x=> e3.tups b xs (keep _ _ x fun xs z=> by cases z),fun b o u x=> e3.frzs b o u (keep _ _ x fun xs z=> by cases z),fun b ps x=> e3.tbls b ps (keep _ _ x fun xs z=> by cases z)⟩,e4,e5,e6⟩
      | next=> exact z
      | brk=> exact z
      | cont=> exact z
  · exact F.run A outer s H args us [.ref a] Q E hr e0 hb hv (B6O ls hl h (B5j hT) q)
  · exact absurd c (no a o l)
theorem C53 {P:Program} {w:World} (H:Hp) (s:Shared) (e:Value) (s':Shared) (z:L2.CX P w [] H s (fun _ _ _=> False) e s'):False:=by
  obtain ⟨_,_,_,_,_,_,_,_,_,_,_,_,z⟩:=z
  exact z
theorem walk_end {l:PySem.W.OpenLaw} {j:Nat} {vw:Program} {lo:List Str} {A:(Str→Option Value)→Heap→Prop} {B:World→Heap→Prop} {d:DefRec} {y:Str} (h1:l.most=some 63) (h3:d.params.defaults=[]) (h4:Room j callerA)
    (F:∀(u:World) (g:Str→Option Value) (at_:Addr) (hp:Heap),B u hp→hp.Ns mainGlobals g→g d.name=some (.ref at_)→∃(K:PySem.W.Frag) (fd:FuncData) (sp:G1),K.In hp∧A8y K∧B2G K hp∧B1U sp∧(∀(t:Shared) (z:Value),BindsTo t fd ⟨[z],[]⟩ [(y,z)])∧
      ∀base:Heap,(∀p∈(i9 K).map (·.1),LamX.TabB base g p.1 p.2)→FnOk l.prog u K g base (L2.CX l.prog u) j at_ fd [y] (P8 K 1 sp)):
    PySem.W.WalkO vw lo A B l.row.toRowW d [] (fun f vs=> PySem.call f vs):=
  LamX.walk_ofTsE h1 (by decide) h3 h4 (fun u g at_ hp yb ns named=>
    let ⟨K,fd,sp,inK,no,te,ls,bind,ok⟩:=F u g at_ hp yb ns named
    ⟨K,inK,fd,(i9 K).map (·.1),B7c K,fun p m=> (by obtain ⟨q,hq,rfl⟩:=List.mem_map.mp m;exact (te q hq).2.2),fun p m=> (by obtain ⟨q,hq,rfl⟩:=List.mem_map.mp m;exact (te q hq).2.1),
      fun p m=> (by obtain ⟨q,hq,rfl⟩:=List.mem_map.mp m;exact PySem.W.codeHd_of_K inK (te q hq).1),bind,
      fun H b is few _ hT seq=> ⟨b,is,rfl,few,seq,fun p m=> hT p.1 (List.mem_map.mpr ⟨p,m,rfl⟩),fun _=> rfl⟩,fun base _ _ tb=> C5B ls no (ok base tb) rfl⟩) fun u H s e s'=> C53 H s e s'
end Ab
namespace Ab
open PySem PySem.Spec PyProof.Rows L2 RZ
def A6B (tl:List Value):List Value→Bool
  | .ref _::r=> A6B tl r
  | l=> l==tl
abbrev tlV:List Value:=[.type "ValueError",.type "Exception",.type "BaseException",.type "object"]
abbrev tlL:List Value:=[.type "LookupError",.type "Exception",.type "BaseException",.type "object"]
abbrev tlI:List Value:=[.type "IndexError",.type "LookupError",.type "Exception",.type "BaseException",.type "object"]
def xcTab:List (Str×List Str):=
  [("BadSizes",["HideError"]),("BadCounts",["HideError"]),("BadStand",["HideError"]),("BadDeed",["HideError"]),("BadRow",["HideError"]),("BadTimes",["HideError"]),("BadName",["HideError"]),("BadText",["HideError"]),("Taken",["HideError"]),
   ("InUse",["HideError"]),("Tapped",["HideError"]),("TooLong",["HideError"]),("TooMany",["HideError"]),("Unlike",["HideError"]),("NoRound",["Missing"]),("NoDrop",["Missing"]),("NoCask",["Missing"]),("NothingLeft",[])]
def g7 (n c:Str):Bool:=decide (n=c) || decide (c∈(xcTab.lookup n).getD [])
def B1g (n:String) (bm:List Value):Bool:=(decide (n="ValueError.__new__") && A6B tlV bm) || ((decide (n="LookupError.__new__") && A6B tlL bm) || (decide (n="IndexError.__new__") && A6B tlI bm))
def B2F (K:PySem.W.Frag) (C:Addr):Bool:=match K.lookup C with
  | some ⟨.type t,_,.cls cd,sl⟩=> decide (t="type") && (match cd.mro,sl.toList with
    | .ref C'::bm,[_,_,_,_,some (.builtin n),_]=> decide (C'=C) && (B1g n bm && (!cd.hasDel && cd.hasDict))
    | _,_=> false)
  | _=> false
def xkB (K:PySem.W.Frag) (x:Str) (fs:List Str):Bool:=
  B2F K (He.ga K x) && (decide (PySem.W.findIn K (.ref (He.ga K x)) "__setattr__"=some (some (.builtin "object.__setattr__"))) && (decide (PySem.W.subIn K (.ref (He.ga K x)) (.type "BaseException")=some true) &&
    (decide (PySem.W.typeIn K (.ref (He.ga K x))=some (.type "type")) && (PySem.W.keepIn K (.ref (He.ga K x)) && (decide (PySem.W.findIn K (.ref (He.ga K x)) "__init__"=some (some (.ref (He.ma K (He.ga K x) "__init__")))) &&
      (decide (PySem.W.typeIn K (.ref (He.ma K (He.ga K x) "__init__"))=some (.type "function")) && (xfB K (He.ga K x) && (("word":Str)::fs).all fun f=> decide (PySem.W.findIn K (.ref (He.ga K x)) f=some none))))))))
def A6U (K:PySem.W.Frag) (ks:List Str) (c:Str):Bool:=ks.all fun k=> decide (PySem.W.exmOne K (.ref (He.ga K k)) (.ref (He.ga K c))=some (g7 k c))
def B2M (K:PySem.W.Frag) (ks:List Str) (f:Str):Bool:=ks.all fun c=> xfB K (He.ga K c) && decide (PySem.W.findIn K (.ref (He.ga K c)) f=some none)
def P4 (i:Nat):Stmt:=PySem.Challenge.pw_hidelater_k27_rounds_let_go.main.body.getD i (.Pass ⟨0,0,0,0⟩)
def meth (i j:Nat):Stmt:=match P4 i with
  | .ClassDef _ _ _ b _ _ _ _ _ _ _=> b.getD j (.Pass ⟨0,0,0,0⟩)
  | _=> .Pass ⟨0,0,0,0⟩
abbrev B0Z:Stmt:=P4 0
abbrev Z9:Stmt:=P4 16
abbrev c5:Stmt:=P4 21
abbrev c8:Stmt:=P4 22
abbrev c9:Stmt:=P4 23
abbrev X6:Stmt:=P4 30
abbrev R8:Stmt:=P4 31
abbrev Z8:Stmt:=P4 32
abbrev c7:Stmt:=P4 35
abbrev O6:Stmt:=P4 36
abbrev R7:Stmt:=P4 37
abbrev W0:Stmt:=P4 38
abbrev X4:Stmt:=P4 39
abbrev X2:Stmt:=P4 40
abbrev Z2:Stmt:=P4 41
abbrev Z4:Stmt:=P4 42
abbrev W9:Stmt:=P4 43
abbrev Y7:Stmt:=P4 44
abbrev V7:Stmt:=P4 45
abbrev c6:Stmt:=P4 46
abbrev X5:Stmt:=P4 47
abbrev X0:Stmt:=P4 48
abbrev Y6:Stmt:=P4 49
abbrev U2:Stmt:=meth 33 6
abbrev U0:Stmt:=meth 33 14
abbrev V6:Stmt:=meth 33 15
abbrev Z7:Stmt:=P4 50
abbrev Z0:Stmt:=meth 33 0
abbrev Y9:Stmt:=meth 33 11
abbrev Z1:Stmt:=meth 33 10
abbrev Y5:Stmt:=meth 33 8
abbrev X1:Stmt:=meth 33 9
abbrev Z5:Stmt:=meth 33 12
abbrev Z6:Stmt:=meth 33 5
abbrev Z3:Stmt:=meth 33 1
abbrev Y8:Stmt:=meth 33 3
abbrev a9:Stmt:=meth 33 13
abbrev V2:Stmt:=P4 51
abbrev A7Q:Stmt:=meth 7 0
abbrev A7W:Stmt:=meth 6 0
abbrev A7H:Stmt:=meth 5 0
abbrev A7d:Stmt:=meth 9 0
abbrev A7L:Stmt:=meth 12 0
abbrev A61:Stmt:=meth 4 0
abbrev A7n:Stmt:=meth 8 0
abbrev A7R:Stmt:=meth 10 0
abbrev A7O:Stmt:=meth 11 0
def B50:He.DefD:=⟨("_wall",none),"_wall","_wall",defArgs B0Z,defBody B0Z,defScope B0Z,[],[]⟩
def B3Q:He.DefD:=⟨("look_sizes",none),"look_sizes","look_sizes",defArgs Z9,defBody Z9,defScope Z9,[],[]⟩
def B3d:He.DefD:=⟨("has_count",none),"has_count","has_count",defArgs c5,defBody c5,defScope c5,[],[]⟩
def B3b:He.DefD:=⟨("first_bad",none),"first_bad","first_bad",defArgs c8,defBody c8,defScope c8,[],[]⟩
def B3v:He.DefD:=⟨("fault_of",none),"fault_of","fault_of",defArgs c9,defBody c9,defScope c9,[],[]⟩
def B4E:He.DefD:=⟨("is_name",none),"is_name","is_name",defArgs X6,defBody X6,defScope X6,[],[]⟩
def B4R:He.DefD:=⟨("is_call",none),"is_call","is_call",defArgs R8,defBody R8,defScope R8,[],[]⟩
def B3U:He.DefD:=⟨("call_fault",none),"call_fault","call_fault",defArgs Z8,defBody Z8,defScope Z8,[],[]⟩
def B3n:He.DefD:=⟨("_law_open",none),"_law_open","_law_open",defArgs c7,defBody c7,defScope c7,[],[]⟩
def B3f:He.DefD:=⟨("_law_take",none),"_law_take","_law_take",defArgs O6,defBody O6,defScope O6,[],[]⟩
def B3r:He.DefD:=⟨("_law_pick",none),"_law_pick","_law_pick",defArgs R7,defBody R7,defScope R7,[],[]⟩
def B3V:He.DefD:=⟨("_law_same",none),"_law_same","_law_same",defArgs W0,defBody W0,defScope W0,[],[]⟩
def B3q:He.DefD:=⟨("_law_word",none),"_law_word","_law_word",defArgs X4,defBody X4,defScope X4,[],[]⟩
def B3J:He.DefD:=⟨("_law_sizes",none),"_law_sizes","_law_sizes",defArgs X2,defBody X2,defScope X2,[],[]⟩
def B2t:He.DefD:=⟨("_law_any_sizes",none),"_law_any_sizes","_law_any_sizes",defArgs Z2,defBody Z2,defScope Z2,[],[]⟩
def B3A:He.DefD:=⟨("_law_number",none),"_law_number","_law_number",defArgs Z4,defBody Z4,defScope Z4,[],[]⟩
def B21:He.DefD:=⟨("_law_shuffled",none),"_law_shuffled","_law_shuffled",defArgs W9,defBody W9,defScope W9,[],[]⟩
def B2k:He.DefD:=⟨("_law_some_casks",none),"_law_some_casks","_law_some_casks",defArgs Y7,defBody Y7,defScope Y7,[],[]⟩
def B3N:He.DefD:=⟨("_law_alike",none),"_law_alike","_law_alike",defArgs V7,defBody V7,defScope V7,[],[]⟩
def B3W:He.DefD:=⟨("_law_deed",none),"_law_deed","_law_deed",defArgs c6,defBody c6,defScope c6,[],[]⟩
def B32:He.DefD:=⟨("_law_row",none),"_law_row","_law_row",defArgs X5,defBody X5,defScope X5,[],[]⟩
def B25:He.DefD:=⟨("_law_word_of",none),"_law_word_of","_law_word_of",defArgs X0,defBody X0,defScope X0,[],[]⟩
def B2j:He.DefD:=⟨("_law_laid_calls",none),"_law_laid_calls","_law_laid_calls",defArgs Y6,defBody Y6,defScope Y6,[],[]⟩
def B29:He.DefD:=⟨("_law_caller",none),"_law_caller","_law_caller",defArgs Z7,defBody Z7,defScope Z7,[],[]⟩
def B6p:He.DefD:=⟨("law",none),"law","law",defArgs V2,defBody V2,defScope V2,[],[]⟩
def B3F:He.DefD:=⟨("Book",some "there"),"there",(("Book":Str)++"."++"there"),defArgs U2,defBody U2,defScope U2,[],[]⟩
def B2y:He.DefD:=⟨("Book",some "callers"),"callers",(("Book":Str)++"."++"callers"),defArgs U0,defBody U0,defScope U0,[],[]⟩
def B3O:He.DefD:=⟨("Book",some "drop"),"drop",(("Book":Str)++"."++"drop"),defArgs V6,defBody V6,defScope V6,[],[]⟩
def B2s:He.DefD:=⟨("Book",some "__init__"),"__init__",(("Book":Str)++"."++"__init__"),defArgs Z0,defBody Z0,defScope Z0,[],[]⟩
def B2o:He.DefD:=⟨("Book",some "look_new"),"look_new",(("Book":Str)++"."++"look_new"),defArgs Y9,defBody Y9,defScope Y9,[],[]⟩
def B2r:He.DefD:=⟨("Book",some "laid_out"),"laid_out",(("Book":Str)++"."++"laid_out"),defArgs Z1,defBody Z1,defScope Z1,[],[]⟩
def B2h:He.DefD:=⟨("Book",some "look_step"),"look_step",(("Book":Str)++"."++"look_step"),defArgs Y5,defBody Y5,defScope Y5,[],[]⟩
def B23:He.DefD:=⟨("Book",some "length"),"length",(("Book":Str)++"."++"length"),defArgs X1,defBody X1,defScope X1,[],[]⟩
def B3E:He.DefD:=⟨("Book",some "write"),"write",(("Book":Str)++"."++"write"),defArgs Z5,defBody Z5,defScope Z5,[],[]⟩
def B3G:He.DefD:=⟨("Book",some "names"),"names",(("Book":Str)++"."++"names"),defArgs Z6,defBody Z6,defScope Z6,[],[]⟩
def B2z:He.DefD:=⟨("Book",some "__len__"),"__len__",(("Book":Str)++"."++"__len__"),defArgs Z3,defBody Z3,defScope Z3,[],[]⟩
def B2m:He.DefD:=⟨("Book",some "__repr__"),"__repr__",(("Book":Str)++"."++"__repr__"),defArgs Y8,defBody Y8,defScope Y8,[],[]⟩
def B3I:He.DefD:=⟨("Book",some "flat"),"flat",(("Book":Str)++"."++"flat"),defArgs a9,defBody a9,defScope a9,[],[]⟩
def B3z:He.DefD:=⟨("BadName",some "__init__"),"__init__","BadName.__init__",defArgs A7Q,defBody A7Q,defScope A7Q,[],[]⟩
def B4K:He.DefD:=⟨("BadRow",some "__init__"),"__init__","BadRow.__init__",defArgs A7W,defBody A7W,defScope A7W,[],[]⟩
def B3a:He.DefD:=⟨("BadSizes",some "__init__"),"__init__","BadSizes.__init__",defArgs A7H,defBody A7H,defScope A7H,[],[]⟩
def B40:He.DefD:=⟨("InUse",some "__init__"),"__init__","InUse.__init__",defArgs A7d,defBody A7d,defScope A7d,[],[]⟩
def B35:He.DefD:=⟨("NoRound",some "__init__"),"__init__","NoRound.__init__",defArgs A7L,defBody A7L,defScope A7L,[],[]⟩
def B24:He.DefD:=⟨("NothingLeft",some "__init__"),"__init__","NothingLeft.__init__",defArgs A61,defBody A61,defScope A61,[],[]⟩
def B4z:He.DefD:=⟨("Taken",some "__init__"),"__init__","Taken.__init__",defArgs A7n,defBody A7n,defScope A7n,[],[]⟩
def B3x:He.DefD:=⟨("TooLong",some "__init__"),"__init__","TooLong.__init__",defArgs A7R,defBody A7R,defScope A7R,[],[]⟩
def B36:He.DefD:=⟨("TooMany",some "__init__"),"__init__","TooMany.__init__",defArgs A7O,defBody A7O,defScope A7O,[],[]⟩
def hFn:List He.DefD:=[B50,B3Q,B3d,B3b,B3v,B4E,B4R,B3U,B3n,B3f,B3r,B3V,B3q,B3J,B2t,B3A,B21,B2k,B3N,B3W,B32,B25,B2j,B29,B6p,B3z,B4K,B3a,B40,B35,B24,B4z,B3x,B36,B3F,B2y,B3O,B2s,B2o,B2r,B2h,B23,B3E,B3G,B2z,B2m,B3I]
def hFa:List He.Fa:=[.glo "_wall",.glo "look_sizes",.glo "has_count",.glo "first_bad",.glo "fault_of",.glo "is_name",.glo "is_call",.glo "call_fault",.glo "_law_open",.glo "_law_take",.glo "_law_pick",.glo "_law_same",.glo "_law_word",.glo "_law_sizes",.glo "_law_any_sizes",.glo "_law_number",.glo "_law_shuffled",.glo "_law_some_casks",.glo "_law_alike",.glo "_law_deed",.glo "_law_row",.glo "_law_word_of",.glo "_law_laid_calls",.glo "_law_caller",.glo "law",.free "all",.free "any",.free "bool",.free "enumerate",.free "int",.free "isinstance",.free "len",.free "list",.free "range",.free "repr",.free "str",.free "sum",.free "tuple",.int "GREAT" 1000000000000000000000000000000,.str "LETTERS" ("abcdefghijklmnopqrstuvwxyz":Str),.int "LONGEST" 8,.int "MOST_CALLS" 9,.int "MOST_CASKS" 6,.int "MOST_FLAT" 200,.int "MOST_ROUNDS" 12,.int "MOST_SIZE" 40,.glo "PATHS",.glo "PLAIN",.glo "BadName",.glo "BadRow",.glo "BadSizes",.glo "InUse",.glo "NoRound",.glo "NothingLeft",.glo "Taken",.glo "TooLong",.glo "TooMany",.glo "HideError",.glo "Missing",.glo "Book",.cls "Book",.noat "Book" "casks",.noat "Book" "laid",.noat "Book" "written",.meth "Book" "there",.meth "Book" "callers",.meth "Book" "drop",.meth "Book" "__init__",.meth "Book" "look_new",.meth "Book" "laid_out",.meth "Book" "look_step",.meth "Book" "length",.meth "Book" "write",.meth "Book" "names",.meth "Book" "__len__",.meth "Book" "__repr__",.meth "Book" "flat",.mkr "Book"]
def hEx:PySem.W.Frag→Bool:=fun K=> He.tupB K "PATHS" [.str ("over":Str),.str ("down":Str)] && He.tupB K "PLAIN" [.str ("swap":Str),.str ("tap":Str),.str ("drain":Str)] && B1w K ("law",none) "law" && B7f K && xkB K "BadName" [] && xkB K "BadRow" ["step","place"] && xkB K "BadSizes" ["cask"] && xkB K "InUse" ["name"] && xkB K "NoRound" ["name"] && xkB K "NothingLeft" [] && xkB K "Taken" ["name"] && xkB K "TooLong" ["most"] && xkB K "TooMany" ["most"] && A6U K ["BadName","BadRow","BadSizes","InUse","NoRound","NothingLeft","Taken","TooLong","TooMany"] "HideError" && A6U K ["BadName","BadRow","BadSizes","InUse","NoRound","NothingLeft","Taken","TooLong","TooMany"] "InUse" && A6U K ["BadName","BadRow","BadSizes","InUse","NoRound","NothingLeft","Taken","TooLong","TooMany"] "Missing" && A6U K ["BadName","BadRow","BadSizes","InUse","NoRound","NothingLeft","Taken","TooLong","TooMany"] "NothingLeft" && B2M K ["BadName","BadRow","BadSizes","InUse","NoRound","NothingLeft","Taken","TooLong","TooMany"] "name" && B2M K ["BadName","BadRow","BadSizes","InUse","NoRound","NothingLeft","Taken","TooLong","TooMany"] "word"
def hLs:List (Str×Option Str):=[("law",none)]
def C7E:List Str:=["_wall","__name__","HideError","Missing","NothingLeft","BadSizes","BadRow","BadName","Taken","InUse","TooLong","TooMany","NoRound","MOST_CASKS","MOST_SIZE","look_sizes","GREAT","PATHS","PLAIN","has_count","first_bad","fault_of","MOST_ROUNDS","MOST_FLAT","MOST_CALLS","LONGEST","LETTERS","is_name","is_call","call_fault"]
def C60:List Str:=["Book","_law_open","_law_take","_law_pick","_law_same","_law_word","_law_sizes","_law_any_sizes","_law_number","_law_shuffled","_law_some_casks","_law_alike","_law_deed","_law_row","_law_word_of","_law_laid_calls","_law_caller"]
def hNms:List Str:=C7E++C60
abbrev hR:PySem.W.OpenRow:=PySem.W.OpenLaw.row PySem.Challenge.rw_hidelater_k27_rounds_let_go
abbrev hHk:PySem.W.Hook:=B7P hFa hFn hEx hLs
def hOb (s:PySem.W.SharedT):AlK:=B2L hFa hFn hEx hLs (HandSHeadRun.getT s)
theorem hOb_eq (s:PySem.W.SharedT):hOb s=hHk.obs s.abs:=C3f (HandSHeadRun.getT_eq s)
theorem hRun (w:World):HandSHeadRun.RunEq hR (PySem.W.view hR.prog [51]) hHk hOb 5000 hNms w:=by
  intro os
  kernel_rfl
end Ab
namespace Ab
open PySem PySem.Spec PyProof.Rows L2
open Builtin Builtin.ObjectAttr in
structure MroG (bm bmB:List Value):Prop where
  cont:∀X:String,bm.contains (.type X)=bmB.contains (.type X)
  pass:∀self:Value,refuseLoop self "__setattr__" bm=pure ()
  ne:bm.isEmpty=false
  ob:bmB.contains (.type "object")=true
open Builtin Builtin.ObjectAttr in
theorem MroG.cons {bm bmB:List Value} (m:MroG bm bmB) (c:Addr):MroG (.ref c::bm) bmB:=
  ⟨fun X=> by rw [List.contains_cons,m.cont];rfl,fun s=> by rw [refuseLoop_ref];exact m.pass s,rfl,m.ob⟩
theorem A9s {tl:List Value} (m:MroG tl tl):∀l:List Value,A6B tl l=true→MroG l tl:=by
  intro l
  induction l with
  | nil=> exact fun e=> (show ([]:List Value)=tl from beq_iff_eq.mp e)▸m
  | cons a r ih=>
    intro e
    cases a with
    | ref c=> exact (ih e).cons c
    | _=> rw [show (_::r:List Value)=tl from beq_iff_eq.mp e];exact m
theorem C6R:MroG tlV tlV:=⟨fun _=> rfl,fun s=> F.store_ValueError.passes s,rfl,by decide+kernel⟩
theorem C52:MroG tlL tlL:=⟨fun _=> rfl,fun s=> by kernel_rfl,rfl,by decide+kernel⟩
theorem C6p:MroG tlI tlI:=⟨fun _=> rfl,fun s=> by kernel_rfl,rfl,by decide+kernel⟩
structure OexG (K:PySem.W.Frag) (C:Addr):Prop where
  cls:∃nm q N bs bm bmB B newId initId sn sub ab col dd k0 k1 k2 k3 k5,K.lookup C=some (excClassObj nm q C N bs bm true sn sub ab col dd k0 k1 k2 k3 k5 newId)∧ExcBaseFacts B newId initId bmB∧MroG bm bmB
  sa:PySem.W.findIn K (.ref C) "__setattr__"=some (some (.builtin "object.__setattr__"))
  exC:PySem.W.subIn K (.ref C) (.type "BaseException")=some true
  tyC:PySem.W.typeIn K (.ref C)=some (.type "type")
  kC:PySem.W.keepIn K (.ref C)=true
section
open Builtin Builtin.ObjectAttr
variable {prog:Program} {w:World} {A:Around} {E:Value→Shared→Prop} {R:Result→Shared→Prop} {hp:Heap} {g:Array GenState} {d:Drawn} {t:Nat} {os:OsState}
theorem C17 {K:PySem.W.Frag} {name:Str} {tk:Tok} {v:Value} {x C:Addr} {fv:Array Value} {cd:ClassData} {bmB:List Value} (X:K.In hp) (hx:hp.get? x=some { cls:= .ref C,data:= .fields fv }) (hcd:PySem.W.clsIn K C=some cd) (hm:MroG cd.mro bmB)
    (hh:cd.hasDict=true) (ha:PySem.W.findIn K (.ref C) name=some none)
    (hq:∀h' tk' dx,(∀b o,b≠x→hp.get? b=some o→h'.get? b=some o)→hp.objs.size≤dx→dx≠x→h'.get? x=some { cls:= .ref C,dict:=some dx,data:= .fields fv }→
      h'.Ns1 dx (fun y=> if y=name then some v else none)→R (.ok (.ret .none)) ⟨h',g,d,tk',os⟩):
    codeAny (model prog w) A (.call (.builtin "object.__setattr__") ⟨[.ref x,.str name tk,v],[]⟩) R ⟨hp,g,d,t,os⟩:=by
  have I:PySem.W.InstAt hp x { cls:= .ref C,data:= .fields fv } C none:=⟨hx,rfl,rfl,trivial⟩
  have SF:=F.store_object
  have ne:=hm.ne
  have hob:cd.mro.contains (.type "object")=true:=(hm.cont "object").trans hm.ob
  have hxs:x≠hp.objs.size:=Nat.ne_of_lt (Heap.lt_size hx)
  have sub:PySem.W.Looks (model prog w) hp (isInstance (.ref x) (.type "object")) true:=I.type.andThen (PySem.W.looks_mroIn X (by unfold PySem.W.mroIn;rw [hcd,Option.bind_some,if_neg (by rw [ne];decide),hob]))
  refine codeAny_call_builtin SF.slot.plain SF.entry (@PySem.W.check_slot (model prog w) _ _ ⟨hp,g,d,t,os⟩ "object.__setattr__" "object" "__setattr__" (.ref x) [.str name tk,v] [] _ SF.kind SF.split sub (SF.args (.ref x) (.str name tk) v) ?_)
  have hmr:PySem.W.Looks (model prog w) hp (mroOf (.ref C)) cd.mro:=(PySem.W.looks_clsIn X hcd).andThen .now
  have L3:PySem.W.Looks (model prog w) hp (storeTaker? none) none:= .now
  have hcls:PySem.W.Looks (model prog w) hp (classData C) cd:=PySem.W.looks_clsIn X hcd
  rw [PySem.W.osa_eq,refuse_eq]
  refine wpAny_bind (wpAny_bind (I.type.at (wpAny_bind (hmr.at ?_))))
  rw [hm.pass]
  refine wpAny_pure (wpAny_bind (I.type.at (wpAny_bind ((PySem.W.looks_findIn X ha).at (wpAny_bind (L3.at ?_))))))
  show wpAny _ _ (storeInOwnDict (.ref x) (.ref C) (.str name tk) name v false) _ _ _
  obtain ⟨nm,bs,mro,ns,qn,hd,sn,sb,ab,col,del⟩:=cd
  dsimp only at hh
  subst hh
  unfold storeInOwnDict ownDictForStores
  repeat (first | with_reducible refine PySem.HandSPX.store_in_new ?_ ?_ | with_reducible refine wpAny_loadPart_at hx ?_ | with_reducible refine hcls.at ?_ | wp_step)
  · exact ⟨_,#[],_,(Heap.get?_update_ne _ _ _ _ hxs.symm).trans (Heap.get?_push_at rfl rfl),rfl,fun e he=> absurd he (by simp),fun _=> rfl⟩
  · intro h' tk' hn' hs
    have hx₁:(hp.push { cls:= .type "dict",data:= .dict #[] }).get? x=some { cls:= .ref C,data:= .fields fv }:=Heap.get?_push_of_some _ hx
    refine hq h' tk' hp.objs.size (fun b o hb ho=> ?_) (Nat.le_refl _) hxs.symm ?_ hn'
    · exact (hs.2 b (Nat.ne_of_lt (Heap.lt_size ho))).trans ((Heap.get?_update_ne _ _ _ _ hb).trans (Heap.get?_push_of_some _ ho))
    · exact (hs.2 x hxs).trans (Heap.get?_update_self _ hx₁ rfl)
theorem C18 {K:PySem.W.Frag} {name:Str} {tk:Tok} {v:Value} {x C dx:Addr} {fv:Array Value} {cd:ClassData} {bmB:List Value} {m0:Str→Option Value} {nl:List Str} (X:K.In hp) (hx:hp.get? x=some { cls:= .ref C,dict:=some dx,data:= .fields fv }) (hns:hp.Ns1 dx m0)
    (hw:Within m0 nl) (hz:nl.length≤1000) (hcd:PySem.W.clsIn K C=some cd) (hm:MroG cd.mro bmB) (hh:cd.hasDict=true) (ha:PySem.W.findIn K (.ref C) name=some none)
    (hq:∀h' tk',(∀b o,b≠dx→hp.get? b=some o→h'.get? b=some o)→h'.Ns1 dx (fun y=> if y=name then some v else m0 y)→R (.ok (.ret .none)) ⟨h',g,d,tk',os⟩):
    codeAny (model prog w) A (.call (.builtin "object.__setattr__") ⟨[.ref x,.str name tk,v],[]⟩) R ⟨hp,g,d,t,os⟩:=by
  obtain ⟨oD,esD,epD,hoD,hdD,_⟩:=hns.count hw
  have I:PySem.W.InstAt hp x { cls:= .ref C,dict:=some dx,data:= .fields fv } C (some oD):=⟨hx,rfl,rfl,hoD⟩
  have SF:=F.store_object
  have ne:=hm.ne
  have hob:cd.mro.contains (.type "object")=true:=(hm.cont "object").trans hm.ob
  have sub:PySem.W.Looks (model prog w) hp (isInstance (.ref x) (.type "object")) true:=I.type.andThen (PySem.W.looks_mroIn X (by unfold PySem.W.mroIn;rw [hcd,Option.bind_some,if_neg (by rw [ne];decide),hob]))
  refine codeAny_call_builtin SF.slot.plain SF.entry (@PySem.W.check_slot (model prog w) _ _ ⟨hp,g,d,t,os⟩ "object.__setattr__" "object" "__setattr__" (.ref x) [.str name tk,v] [] _ SF.kind SF.split sub (SF.args (.ref x) (.str name tk) v) ?_)
  have hmr:PySem.W.Looks (model prog w) hp (mroOf (.ref C)) cd.mro:=(PySem.W.looks_clsIn X hcd).andThen .now
  have L3:PySem.W.Looks (model prog w) hp (storeTaker? none) none:= .now
  have hcls:PySem.W.Looks (model prog w) hp (classData C) cd:=PySem.W.looks_clsIn X hcd
  rw [PySem.W.osa_eq,refuse_eq]
  refine wpAny_bind (wpAny_bind (I.type.at (wpAny_bind (hmr.at ?_))))
  rw [hm.pass]
  refine wpAny_pure (wpAny_bind (I.type.at (wpAny_bind ((PySem.W.looks_findIn X ha).at (wpAny_bind (L3.at ?_))))))
  show wpAny _ _ (storeInOwnDict (.ref x) (.ref C) (.str name tk) name v false) _ _ _
  obtain ⟨nm,bs,mro,ns,qn,hd,sn,sb,ab,col,del⟩:=cd
  dsimp only at hh
  subst hh
  unfold storeInOwnDict ownDictForStores
  repeat (first | with_reducible refine PySem.OEX.store_in_old hns hw hz ?_ | with_reducible refine wpAny_loadPart_at hx ?_ | with_reducible refine hcls.at ?_ | wp_step)
  intro h' tk' hn' hs
  exact hq h' tk' (fun b o hb ho=> (hs.2 b hb).trans ho) hn'
end
section
variable {X:Cx} {pins:List (Addr×Obj)} {σ:L2.St} {H:Hp} {s:Shared} {a C dx:Addr} {f:Str} {y:V} {u:Value} {fs:List (Str×V)} {Q:Unit→Shared→Prop} {E:Value→Shared→Prop} {A:Around}
theorem OexG.data {K:PySem.W.Frag} (T:OexG K C):∃cd bmB,PySem.W.clsIn K C=some cd∧MroG cd.mro bmB∧cd.hasDict=true:=by
  obtain ⟨nm,q,N,bs,bm,bmB,B,ni,ii,sn,sub,ab,col,dd,k0,k1,k2,k3,k5,hC,_,hm⟩:=T.cls
  exact ⟨{ name:=nm,bases:=bs,mro:= .ref C::bm,ns:=N,qualname:=q,hasDict:=true,slotNames:=sn,subclasses:=sub,abstract:=ab,collection:=col,hasDel:=false },bmB,by unfold PySem.W.clsIn;rw [hC] <;> rfl,hm.cons C,rfl⟩
theorem C2u (T:OexG X.K C) (I:L2.Inv X pins σ H s) (e:H a=some (exo a C none)) (hno:PySem.W.findIn X.K (.ref C) f=some none) (ry:RelV y u)
    (h:∀dx s',H dx=none→dx≠a→L2.Inv X pins σ (upd (upd H dx (exd dx [(f,y)])) a (exo a C (some dx))) s'→Q () s'):wpAny (model X.prog X.w) A (setAttr (.ref a) f u) Q E s:=by
  obtain ⟨cd,bmB,hcl,hm,hh⟩:=T.data
  obtain ⟨t1,ho⟩:=exo_at I.hok e
  obtain ⟨hp,g,d,t,os⟩:=s
  refine PySem.W.set_plain I.kIn (ox:={ cls:= .ref C,dict:=none,data:= .fields #[.ref t1,.none,.none,.none,.bool false,.none] }) (od:=none) ⟨ho,rfl,rfl,trivial⟩ T.sa ?_
  refine C17 I.kIn ho hcl hm hh hno (fun h' tk' dx k dn dne hx hn=> ?_)
  have hnd:H dx=none:=I.hok.fresh dn
  have nd:∀{b:Addr} {o:Obj},hp.get? b=some o→b≠dx:=fun {b o} q=> Nat.ne_of_lt (Nat.lt_of_lt_of_le (Heap.lt_size q) dn)
  have na:∀{b:Addr},H b=none→b≠a:=fun {b} n z=> by
    rw [z,e] at n
    cases n
  have U1:Un X.fs [] H (upd (upd H dx (exd dx [(f,y)])) a (exo a C (some dx))) hp h':={
    keep:=fun b o q n _ _=> k b o (na n) q
    slot:=fun b o q n _ _=> ⟨o.slots,k b o (na n) q⟩
    free:=fun b o q n _=> by rw [upd_ne (na n),upd_ne (nd q)];exact n
    there:=fun b o q _=> by
      by_cases hb:b=a
      · exact ⟨_,by rw [hb];exact hx⟩
      · exact ⟨o,k b o hb q⟩
    tups:=fun b xs q=> by rw [upd_ne (at_ne e q exo_tup),upd_ne (ne_of_none q hnd)];exact q
    frzs:=fun b o v q=> by rw [upd_ne (at_ne e q exo_frz),upd_ne (ne_of_none q hnd)];exact q
    tbls:=fun b ps q=> ⟨#[],by rw [upd_ne (at_ne e q exo_tbl),upd_ne (ne_of_none q hnd),q];simp⟩ }
  refine h dx _ hnd dne (I.un (t':=tk') U1 fun b o q=> ?_)
  by_cases hb:b=a
  · subst hb
    rw [upd_same] at q
    cases q
    exact exo_ok hx
  rw [upd_ne hb] at q
  by_cases hd:b=dx
  · subst hd
    rw [upd_same] at q
    cases q
    exact exd_ok hn (relO_put (fs:=[]) ry fun g=> True.intro)
  rw [upd_ne hd] at q
  exact (I.hok b o q).stay (fun c v hc z=> k c v (by
      rcases hc with hc | hc
      · rw [hc];exact hb
      · exact at_ne e hc exo_own) z)
    (fun c hc=> by rw [upd_ne (at_ne e hc exo_own),upd_ne (ne_of_none hc hnd)];exact hc) (fun c xs hc=> by rw [upd_ne (at_ne e hc exo_tup),upd_ne (ne_of_none hc hnd)];exact hc)
theorem C2Y (T:OexG X.K C) (I:L2.Inv X pins σ H s) (e:H a=some (exo a C (some dx))) (ed:H dx=some (exd dx fs)) (hl:fs.length≤900) (hno:PySem.W.findIn X.K (.ref C) f=some none) (ry:RelV y u)
    (h:∀s',L2.Inv X pins σ (upd H dx (exd dx ((f,y)::fs))) s'→Q () s'):wpAny (model X.prog X.w) A (setAttr (.ref a) f u) Q E s:=by
  obtain ⟨cd,bmB,hcl,hm,hh⟩:=T.data
  obtain ⟨t1,ho⟩:=exo_at I.hok e
  obtain ⟨mA,hns,rel⟩:=exd_at I.hok ed
  have hw:=within_of rel
  obtain ⟨hp,g,d,t,os⟩:=s
  obtain ⟨oD,_,_,hoD,_,_⟩:=hns.count hw
  refine PySem.W.set_plain I.kIn (ox:={ cls:= .ref C,dict:=some dx,data:= .fields #[.ref t1,.none,.none,.none,.bool false,.none] }) (od:=some oD) ⟨ho,rfl,rfl,hoD⟩ T.sa ?_
  refine C18 I.kIn ho hns hw (by rw [List.length_map];omega) hcl hm hh hno (fun h' tk' k hn=> ?_)
  have hd:∃o,h'.get? dx=some o:=by
    obtain ⟨o,_,_,e',_⟩:=hn
    exact ⟨o,e'⟩
  exact h _ (I.write (t':=tk') (x:=dx) (e:=dx) (o:=exd dx ((f,y)::fs)) (by rw [ed];exact True.intro) (.inl rfl) k hd (exd_ok hn (relO_put ry rel)))
end
def C6M (K:PySem.W.Frag) (f:Str) (to te:TE):TS:=fun D σ H=> te σ H fun y H1=> to σ H1 fun x H2=> ∃a C:Addr,x= .ref a∧OexG K C∧PySem.W.findIn K (.ref C) f=some none∧
  ((H2 a=some (exo a C none)∧∀dx,H2 dx=none→dx≠a→D.nx σ (upd (upd H2 dx (exd dx [(f,y)])) a (exo a C (some dx))))∨
    ∃(dx:Addr) (fs:List (Str×V)),H2 a=some (exo a C (some dx))∧H2 dx=some (exd dx fs)∧fs.length≤900∧D.nx σ (upd H2 dx (exd dx ((f,y)::fs))))
section
variable {X:Cx} {o e:Expr} {es:List Expr} {to te:TE} {ta:TA} {f:Str} {p p' pos:Pos}
theorem A3c (ho:PE X o to) (he:PE X e te) (hs:swapsWith e (some (.Attribute o f p')) pos.line X.env=pure false:=by rfl):PS X (.Assign [.Attribute o f p'] e pos) (C6M X.K f to te):=by
  refine ⟨fun pins s σ H D I h=> ?_⟩
  refine plainObj_wpAny_Assign_Attribute (thn (he.run pins s σ H _ I h) fun v s1 ⟨y,H1,I1,r1,q1⟩=> thn (ho.run pins s1 σ H1 _ I1 q1) fun u s2 ⟨x,H2,I2,r2,a,C,ex,T,hno,q⟩=> ?_) hs
  subst ex
  obtain rfl:u=Value.ref a:=r2
  rcases q with ⟨ea,q⟩ | ⟨dx,fs,ea,ed,hl,q⟩
  · exact C2u T I2 ea hno r1 fun dx s' n ne J=> ⟨σ,_,J,q dx n ne⟩
  · exact C2Y T I2 ea ed hl hno r1 fun s' J=> ⟨σ,_,J,q⟩
abbrev MkG (C:Addr) (sp:Sp) (vs:List V) (H1:Hp) (Q:XK):Prop:=vs.length≤1000∧∀a,H1 a=none→sp (.ref a::vs) (upd H1 a (exo a C none))
  (fun v H2=> v= .non∧∃(d:Addr) (fs:List (Str×V)),H2 a=some (exo a C (some d))∧H2 d=some (exd d fs)∧H1 d=none∧Q (.ref C) (some d) (upd (L2.del H2 a) d (.xd fs))) (fun _ _ _=> False)
theorem B6P {CX:CXT} {C fI:Addr} {k:Nat} {fd:FuncData} {ps:List Str} {sp:Sp} {pins:List (Addr×Obj)} {s:Shared} {σ:L2.St} {H:Hp} {us:List Value} {vs:List V} {Q:XK} (T:OexG X.K C) (iC:PySem.W.findIn X.K (.ref C) "__init__"=some (some (.ref fI)))
    (tI:PySem.W.typeIn X.K (.ref fI)=some (.type "function")) (F1:FnOk X.prog X.w X.K X.mg X.base CX k fI fd ps sp) (hr:Room (k+1) X.A) (hb:Binds X.K fd ps []) (hx:Passes CX X (fun _ _ _=> False)) (I1:L2.Inv X pins σ H s) (r1:Vals vs us) (q1:MkG C sp vs H Q):
    wpAny (model X.prog X.w) X.A (call (.ref C) us) (MkP X pins σ Q) X.xe s:=by
  obtain ⟨nm,q,N,bs,bm,bmB,B,ni,ii,sn,sub,ab,col,dd,k0,k1,k2,k3,k5,hC,FB,hm⟩:=T.cls
  obtain ⟨hz,q1⟩:=q1
  obtain ⟨hp,g,dr,tk,os⟩:=s
  have hsz:hp.objs.size≤hp.objs.size+1:=Nat.le_succ _
  have hn:H (hp.objs.size+1)=none:=I1.hok.fresh hsz
  have hq:=q1 (hp.objs.size+1) hn
  have kk:∀b o,hp.get? b=some o→((hp.push (PySem.W.kdv_tup us)).push (PySem.HandSPX.excO C hp.objs.size)).get? b=some o:=fun b o e=> Heap.get?_push_of_some _ (Heap.get?_push_of_some _ e)
  have hget:((hp.push (PySem.W.kdv_tup us)).push (PySem.HandSPX.excO C hp.objs.size)).get? (hp.objs.size+1)=some (PySem.HandSPX.excO C hp.objs.size):=by heap_get
  have I2:L2.Inv X pins σ (upd H (hp.objs.size+1) (exo (hp.objs.size+1) C none)) ⟨(hp.push (PySem.W.kdv_tup us)).push (PySem.HandSPX.excO C hp.objs.size),g,dr,tk,os⟩:=
    I1.laid (t':=tk) (a:=hp.objs.size+1) (o:=exo (hp.objs.size+1) C none) (h':=(hp.push (PySem.W.kdv_tup us)).push (PySem.HandSPX.excO C hp.objs.size)) kk hsz (exo_ok hget)
  have r2:Vals (V.ref (hp.objs.size+1)::vs) (Value.ref (hp.objs.size+1)::us):= .cons rfl r1
  have hl:((Value.ref (hp.objs.size+1)::us)++[]).length=ps.length:=by
    have e:=r2.length
    rw [F1.len _ _ _ _ hq] at e
    rw [List.append_nil]
    exact e.symm
  have hus:us.length≤sizeLine:=by
    rw [←Paired.length r1,sizeLine_eq]
    omega
  have b2:=hb _ (Value.ref (hp.objs.size+1)::us) I2.kIn hl
  rw [List.append_nil] at b2
  refine wpAny_call (PySem.HandSPX.call_own FB hm.cont (I1.kIn _ _ hC) (PySem.W.looks_findIn I1.kIn iC) (fun self=> PySem.W.bind_fn I1.kIn self tI) hus
    (codeAny_mono (F1.run _ X.stack _ _ ⟨Value.ref (hp.objs.size+1)::us,[]⟩ (Value.ref (hp.objs.size+1)::us) _ _ (fun _ _ _=> False) (hr.make C us []) (I2.env0.make C us []) b2 r2 hq) fun r s' hq'=> ?_))
  cases r with
  | error er=> exact hx pins σ _ _ er s' I2 hq'
  | ok fl=>
    cases fl with
    | ret u=>
      obtain ⟨v,H2,os2,bare2,un2,hok2,rv,ev,d,fs,ea,ed,hd1,q2⟩:=hq'
      subst ev
      obtain ⟨h2,g2,d2,t2,os'⟩:=s'
      exact ⟨rv,mk_end (raises_own T.exC T.tyC) I1 hsz kk un2 hok2 os2 bare2 ea ed hd1 q2⟩
    | next=> exact False.elim hq'
    | brk=> exact False.elim hq'
    | cont=> exact False.elim hq'
def B7b (C:Addr) (sp:Sp) (ta:TA):L2.St→Hp→XK→Prop:=fun σ H Q=> ta σ H fun vs H1=> MkG C sp vs H1 Q
theorem C6S {CX:CXT} {x:Str} {C fI:Addr} {k:Nat} {fd:FuncData} {ps:List Str} {sp:Sp} (T:OexG X.K C) (iC:PySem.W.findIn X.K (.ref C) "__init__"=some (some (.ref fI))) (tI:PySem.W.typeIn X.K (.ref fI)=some (.type "function"))
    (F1:FnOk X.prog X.w X.K X.mg X.base CX k fI fd ps sp) (hr:Room (k+1) X.A) (hb:Binds X.K fd ps []) (hx:Passes CX X (fun _ _ _=> False)) (hg:Gl X x) (hm:X.mg x=some (.ref C)) (ha:PA X (e::es) ta)
    (hdb:(x==("__debug__":Str))=false:=by decide) (he:starEach (e::es) X.env=(false,eval e X.env)::starEach es X.env:=by rfl) (hpl:(backTo pos (starEach es X.env)).any (·.1)=false:=by rfl):
    PMk X (.Call (.Name x p) (e::es) [] pos) (B7b C sp ta):=by
  intro pins s σ H Q I h
  refine wpAny_Call_Name_kw (ld_glob I hg hm ?_ hdb)
  exact PySem.W.callWith_K (h₀:=X.base) I.ok.mod.kin T.kC (thn (ha.run pos pins s σ H _ I h) fun us s1 ⟨vs,H1,I1,r1,q1⟩=> ⟨I1.kIn,B6P T iC tI F1 hr hb hx I1 r1 q1⟩) he hpl
theorem C4i {CX:CXT} {x:Str} {C fI:Addr} {k:Nat} {fd:FuncData} {ps:List Str} {sp:Sp} (T:OexG X.K C) (iC:PySem.W.findIn X.K (.ref C) "__init__"=some (some (.ref fI))) (tI:PySem.W.typeIn X.K (.ref fI)=some (.type "function"))
    (F1:FnOk X.prog X.w X.K X.mg X.base CX k fI fd ps sp) (hr:Room (k+1) X.A) (hb:Binds X.K fd ps []) (hx:Passes CX X (fun _ _ _=> False)) (hg:Gl X x) (hm:X.mg x=some (.ref C)) (hdb:(x==("__debug__":Str))=false:=by decide):
    PMk X (.Call (.Name x p) [] [] pos) (B7b C sp fun σ H K=> K [] H):=by
  intro pins s σ H Q I h
  refine wpAny_Call_Name_kw (ld_glob I hg hm ?_ hdb)
  exact PySem.W.callWith_K0 I.kIn T.kC (B6P T iC tI F1 hr hb hx I .nil h)
end
def initF {α:Type} (word:α) (fs:List Str) (vs:List α):List (Str×α):=(fs.zip vs).reverse++[(("word":Str),word)]
def A8A (C:Addr) (word:Str) (fs:List Str):Sp:=fun vs H Q _=> ∃a us,vs= .ref a::us∧us.length=fs.length∧H a=some (exo a C none)∧
  ∀d H2,H d=none→d≠a→H2 a=some (exo a C (some d))→H2 d=some (exd d (initF (V.str word) fs us))→(∀b,b≠a→b≠d→H2 b=H b)→Q .non H2
section
variable {P:Program} {w:World} {K:PySem.W.Frag} {mg:Str→Option Value} {base:Heap} {qual word f g:Str} {params:Arguments} {scope:Scope} {fI C:Addr} {fd:FuncData} {q1 q2 q3 q4 q5 q6 q7 q8 r5 r6 r7 r8:Pos} {j:Nat}
theorem C6Q (F:FunD K "__init__" qual params [.Assign [.Attribute (.Name "self" q1) "word" q2] (.Constant (.str word) j q3) q4] scope [] [] fI fd) (S:FnScope ["self"] ["self"] scope)
    (T:OexG K C) (nw:PySem.W.findIn K (.ref C) "word"=some none):
    FnOk P w K mg base (L2.CX P w) 1 fI fd ["self"] (A8A C word []):=by
  have v0:Vis scope "self":=(S.par "self" (by simp)).imp id .inl
  refine F.ok S (fun vs H Q E ⟨a,us,e,l,_⟩=> by rw [e];simpa using l) fun cdv A outer s H vs Q E hr ⟨a,us,e,l,ea,q⟩=> ?_
  subst e
  obtain rfl:us=[]:=List.length_eq_zero_iff.mp l
  refine ⟨_,pss_one (A3c (pe_var (i:=0) rfl v0) pe_str),?_⟩
  refine ⟨.ref a,rfl,a,C,rfl,T,nw,.inl ⟨ea,fun d nd da=> ?_⟩⟩
  exact q d _ nd da upd_same (by rw [upd_ne da,upd_same];rfl) fun b h1 h2=> by rw [upd_ne h1,upd_ne h2]
theorem C6T (F:FunD K "__init__" qual params [.Assign [.Attribute (.Name "self" q1) "word" q2] (.Constant (.str word) j q3) q4,.Assign [.Attribute (.Name "self" q5) f q6] (.Name f q7) q8] scope [] [] fI fd) (S:FnScope ["self",f] ["self",f] scope)
    (T:OexG K C) (nw:PySem.W.findIn K (.ref C) "word"=some none) (nf:PySem.W.findIn K (.ref C) f=some none) (hd:(f==("__debug__":Str))=false:=by decide) (hcd:(f==("__classdict__":Str))=false:=by decide):
    FnOk P w K mg base (L2.CX P w) 1 fI fd ["self",f] (A8A C word [f]):=by
  have v0:Vis scope "self":=(S.par "self" (by simp)).imp id .inl
  have v1:Vis scope f:=(S.par f (by simp)).imp id .inl
  refine F.ok S (fun vs H Q E ⟨a,us,e,l,_⟩=> by rw [e];simpa using l) fun cdv A outer s H vs Q E hr ⟨a,us,e,l,ea,q⟩=> ?_
  subst e
  obtain ⟨y,rfl⟩:∃y,us=[y]:=by
    match us,l with
    | [y],_=> exact ⟨y,rfl⟩
  refine ⟨_,pss_cons (A3c (pe_var (i:=0) rfl v0) pe_str) (pss_one (A3c (pe_var (i:=0) rfl v0) (pe_var (i:=1) rfl v1 hd hcd))),?_⟩
  refine ⟨.ref a,rfl,a,C,rfl,T,nw,.inl ⟨ea,fun d nd da=> ?_⟩⟩
  refine ⟨y,rfl,.ref a,rfl,a,C,rfl,T,nf,.inr ⟨d,_,upd_same,by rw [upd_ne da,upd_same],by simp,?_⟩⟩
  exact q d _ nd da (by rw [upd_ne (Ne.symm da),upd_same]) (by rw [upd_same];rfl) fun b h1 h2=> by rw [upd_ne h2,upd_ne h1,upd_ne h2]
theorem C6W (F:FunD K "__init__" qual params [.Assign [.Attribute (.Name "self" q1) "word" q2] (.Constant (.str word) j q3) q4,.Assign [.Attribute (.Name "self" q5) f q6] (.Name f q7) q8,.Assign [.Attribute (.Name "self" r5) g r6] (.Name g r7) r8] scope [] [] fI fd) (S:FnScope ["self",f,g] ["self",f,g] scope)
    (T:OexG K C) (nw:PySem.W.findIn K (.ref C) "word"=some none) (nf:PySem.W.findIn K (.ref C) f=some none) (ng:PySem.W.findIn K (.ref C) g=some none) (hd:(f==("__debug__":Str))=false:=by decide) (hcd:(f==("__classdict__":Str))=false:=by decide)
    (hd':(g==("__debug__":Str))=false:=by decide) (hcd':(g==("__classdict__":Str))=false:=by decide):
    FnOk P w K mg base (L2.CX P w) 1 fI fd ["self",f,g] (A8A C word [f,g]):=by
  have v0:Vis scope "self":=(S.par "self" (by simp)).imp id .inl
  have v1:Vis scope f:=(S.par f (by simp)).imp id .inl
  have v2:Vis scope g:=(S.par g (by simp)).imp id .inl
  refine F.ok S (fun vs H Q E ⟨a,us,e,l,_⟩=> by rw [e];simpa using l) fun cdv A outer s H vs Q E hr ⟨a,us,e,l,ea,q⟩=> ?_
  subst e
  obtain ⟨y,z,rfl⟩:∃y z,us=[y,z]:=by
    match us,l with
    | [y,z],_=> exact ⟨y,z,rfl⟩
  refine ⟨_,pss_cons (A3c (pe_var (i:=0) rfl v0) pe_str) (pss_cons (A3c (pe_var (i:=0) rfl v0) (pe_var (i:=1) rfl v1 hd hcd)) (pss_one (A3c (pe_var (i:=0) rfl v0) (pe_var (i:=2) rfl v2 hd' hcd')))),?_⟩
  refine ⟨.ref a,rfl,a,C,rfl,T,nw,.inl ⟨ea,fun d nd da=> ?_⟩⟩
  refine ⟨y,rfl,.ref a,rfl,a,C,rfl,T,nf,.inr ⟨d,_,upd_same,by rw [upd_ne da,upd_same],by simp,?_⟩⟩
  refine ⟨z,rfl,.ref a,rfl,a,C,rfl,T,ng,.inr ⟨d,_,by rw [upd_ne (Ne.symm da),upd_same],upd_same,by simp,?_⟩⟩
  exact q d _ nd da (by rw [upd_ne (Ne.symm da),upd_ne (Ne.symm da),upd_same]) (by rw [upd_same];rfl) fun b h1 h2=> by rw [upd_ne h2,upd_ne h2,upd_ne h1,upd_ne h2]
end
structure XkOk (P:Program) (w:World) (K:PySem.W.Frag) (mg:Str→Option Value) (base:Heap) (x word:Str) (fs:List Str):Prop where
  gl:mg x=some (.ref (He.ga K x))
  cls:OexG K (He.ga K x)
  ini:∃fI fd ps,PySem.W.findIn K (.ref (He.ga K x)) "__init__"=some (some (.ref fI))∧PySem.W.typeIn K (.ref fI)=some (.type "function")∧Binds K fd ps []∧FnOk P w K mg base (L2.CX P w) 1 fI fd ps (A8A (He.ga K x) word fs)
def u2 (E:AExc→A0→AH→Prop) (x word:Str) (fs:List Str) (t:G2):C0:=fun _ env h=> t env h fun ws env1 h1=> E ⟨x,initF (W.str word) fs ws⟩ env1 h1
theorem RepL.initF {K:PySem.W.Frag} {H:Hp} {word:Str}:∀{fs:List Str} {ws:List W} {vs:List V},RepL K H ws vs→ws.length=fs.length→FRep K H (initF (W.str word) fs ws) (initF (V.str word) fs vs):=fun {fs ws vs} r l=> by
  have lv:vs.length=fs.length:=by rw [←r.length,l]
  refine ⟨?_,?_⟩
  · unfold Ab.initF
    rw [List.map_append,List.map_append,List.map_reverse,List.map_reverse,List.map_fst_zip (by omega),List.map_fst_zip (by omega)]
    rfl
  · unfold Ab.initF
    rw [List.map_append,List.map_append,List.map_reverse,List.map_reverse,List.map_snd_zip (by omega),List.map_snd_zip (by omega)]
    refine RepL.append ?_ (.cons .str .nil)
    clear l lv
    induction ws generalizing vs with
    | nil=> rw [r.of_nil];exact .nil
    | cons w ws ih=>
      obtain ⟨v,t,rfl,a,b⟩:=r.of_cons
      rw [List.reverse_cons,List.reverse_cons]
      exact (ih b).append (.cons a .nil)
section
variable {X:Cx} {G:Gx} {x word:Str} {fs:List Str} {t:G2} {e:Expr} {es:List Expr} {E:AExc→A0→AH→Prop} {p pos pos2:Pos} {k:Nat}
theorem A1x (R:XkOk X.prog X.w X.K X.mg X.base x word fs) (gk:G.K=X.K) (hc:X.calm=true) (tk:Takes X (cW G E)) (hr:Room k X.A) (hk:2≤k) (hg:Gl X x) (ha:AN X G (e::es) fs.length t) (hl:fs.length≤900:=by decide)
    (hdb:(x==("__debug__":Str))=false:=by decide) (he:starEach (e::es) X.env=(false,eval e X.env)::starEach es X.env:=by rfl) (hpl:(backTo pos (starEach es X.env)).any (·.1)=false:=by rfl):
    AS X G (.Raise (some (.Call (.Name x p) (e::es) [] pos)) none pos2) (u2 E x word fs t):=by
  obtain ⟨fI,fd,ps,iC,tI,hb,F⟩:=R.ini
  refine ⟨fun D D' env h l q=> q,PS.imp (ps_raise hc tk (C6S R.cls iC tI F (hr.mono hk) hb (passes_call (W:=fun _ _ _ _=> False) takes0 fun _ _ _ _ z=> z) hg R.gl ha.aa.pa hdb he hpl)) fun D σ H ⟨env,h,Da,S,q,l⟩=> ?_⟩
  refine ⟨env,h,S,ha.aa.mono env h _ _ (fun ws env1 h1 ⟨wl,z⟩ vs H1 S1 x1 r1=> ?_) (ha.ln _ _ _ q)⟩
  have lv:vs.length=fs.length:=by rw [←r1.length,wl]
  refine ⟨by omega,fun a na=> ⟨a,vs,rfl,lv,upd_same,fun d H2 nd da e1 e2 e3=> ⟨rfl,d,_,e1,e2,?_,?_⟩⟩⟩
  · rw [upd_ne da] at nd;exact nd
  · have nd1:H1 d=none:=by rw [upd_ne da] at nd;exact nd
    have nw:New H1 (upd (L2.del H2 a) d (.xd (initF (V.str word) fs vs))):=fun p o ep=> by
      have pa:p≠a:=ne_of_none ep na
      have pd:p≠d:=ne_of_none ep nd1
      rw [upd_ne pd,del_ne pa,e3 p pa pd,upd_ne pa]
      exact ep
    refine ⟨⟨x,initF (W.str word) fs ws⟩,env1,h1,nw.bs S1,⟨by rw [gk],d,_,rfl,upd_same,RepL.initF (RepL.mono nw.keeps _ _ r1) wl⟩,z⟩
theorem C1j (R:XkOk X.prog X.w X.K X.mg X.base x word []) (gk:G.K=X.K) (hc:X.calm=true) (tk:Takes X (cW G E)) (hr:Room k X.A) (hk:2≤k) (hg:Gl X x) (hdb:(x==("__debug__":Str))=false:=by decide):
    AS X G (.Raise (some (.Call (.Name x p) [] [] pos)) none pos2) (u2 E x word [] aNil):=by
  obtain ⟨fI,fd,ps,iC,tI,hb,F⟩:=R.ini
  refine ⟨fun D D' env h l q=> q,PS.imp (ps_raise hc tk (C4i R.cls iC tI F (hr.mono hk) hb (passes_call (W:=fun _ _ _ _=> False) takes0 fun _ _ _ _ z=> z) hg R.gl hdb)) fun D σ H ⟨env,h,Da,S,q,l⟩=> ?_⟩
  refine ⟨Nat.zero_le _,fun a na=> ⟨a,[],rfl,rfl,upd_same,fun d H2 nd da e1 e2 e3=> ⟨rfl,d,_,e1,e2,?_,?_⟩⟩⟩
  · rw [upd_ne da] at nd;exact nd
  · have nd1:H d=none:=by rw [upd_ne da] at nd;exact nd
    have nw:New H (upd (L2.del H2 a) d (.xd (initF (V.str word) [] []))):=fun p o ep=> by
      have pa:p≠a:=ne_of_none ep na
      have pd:p≠d:=ne_of_none ep nd1
      rw [upd_ne pd,del_ne pa,e3 p pa pd,upd_ne pa]
      exact ep
    refine ⟨⟨x,initF (W.str word) [] []⟩,env,h,nw.bs S,⟨by rw [gk],d,_,rfl,upd_same,RepL.initF .nil rfl⟩,q⟩
end
end Ab
namespace Ab
open PySem PySem.Spec PyProof.Rows L2
abbrev A15:=Addr→Value→Option Addr→TS
def A6O (K:PySem.W.Frag) (Wout:WX) (D:Ends):List (Value×Nat×A15)→WX
  | []=> Wout
  | (c,i,u)::r=> fun cls d σ H=> ∃b,PySem.W.exmOne K cls c=some b∧
      (b=true→∀x,H x=none→u x cls d { nx:=fun σ1 H1=> D.nx (σ1.set i none) H1,rt:=D.rt,bk:=fun σ1 H1=> D.bk (σ1.set i none) H1,ct:=fun σ1 H1=> D.ct (σ1.set i none) H1 } (σ.set i (some (.ref x))) H)∧
      (b=false→A6O K Wout D r cls d σ H)
inductive HdsAs (X:Cx):List ExceptHandler→List (Value×Nat×A15)→Prop where
  | nil:HdsAs X [] []
  | cons {x n:Str} {c:Value} {i:Nat} {b:Stmt} {suite:List Stmt} {np pos:Pos} {u:A15} {hds:List ExceptHandler} {l:List (Value×Nat×A15)} (hi:X.N[i]? =some n) (hln:X.env.kindOf n=some .local) (hc:Names X x c)
      (hsu:∀(a:Addr) (oe:Obj) (cls:Value) (d:Option Addr) (pn:List (Addr×Obj)),Zc cls d oe→(∃vs,oe.data= .fields vs)→PSs (X.suite a ((a,oe)::pn)) (b::suite) (u a cls d)) (t:HdsAs X hds l):
      HdsAs X (.ExceptHandler (some (.Name x np)) (some n) (b::suite) pos::hds) ((c,i,u)::l)
section
variable {X:Cx} {pins:List (Addr×Obj)} {s:Shared} {Wout:WX} {D:Ends}
theorem C6k {B h:Heap} {sI:Shared} {pinsI:List (Addr×Obj)} {σ:L2.St} {H:Hp} {a:Addr} {cls:Value} {d:Option Addr} (stk:X.stack=X.env::X.outer) (fr:X.env.frame=some X.env.locals) (nd:X.N.Nodup) (tk:Takes X Wout) (ok:X.Ok)
    (J:L2.Inv X pins σ H sI) (kb:∀b o,sI.heap.get? b=some o→b∉frs X.stack→B.get? b=some o) (up:sI.heap.UpToSlots s.heap) (na:H a=none) (os:s.os=sI.os) (ag:AllBare s.gens)
    (fl:HandSPX.FlyingZ B (X.env::X.outer) a (Zc cls d) h) (uph:s.heap.UpToSlots h) (hk:X.A.frames=some (X.env::X.outer)):
    ∀{hds:List ExceptHandler} {l:List (Value×Nat×A15)},HdsAs X hds l→A6O X.K Wout D l cls d σ H→wpAny (model X.prog X.w) X.A (handleBy (.ref a) X.env hds) (SP X pins D) X.xe { s with heap:=h }:=by
  intro hds l hh
  induction hh with
  | nil=>
    intro wish
    have wish:Wout cls d σ H:=wish
    refine wpAny_handleBy_nil ?_
    obtain ⟨_,_,_,ox,xs,T,oT,_,hx,_,hdx,h1x,_⟩:=id fl
    unfold PySem.passOn
    refine wpAny_bind (wpAny_field hx hdx h1x ?_)
    rw [if_neg (by simp:¬((Value.ref T==Value.none)=true))]
    have away:wpAny (model X.prog X.w) X.A (setFlight (.ref a) X.env.frame) (fun _ r=> wpAny (model X.prog X.w) X.A (throw (.ref a):Sem Flow) (SP X pins D) X.xe r) X.xe { s with heap:=h }:=by
      rw [fr]
      refine HandSPX.setFlight_upZ fl fun g hg ug=> wpAny_throw (tk _ _ ?_)
      exact ⟨a,B,sI,pins,σ,H,cls,d,rfl,J,kb,(up.trans uph).trans ug,.inr (.inr (by rw [stk];exact hg)),na,os,ag,wish⟩
    first
      | exact wpAny_bind (wpAny_pure (wpAny_bind away))
      | exact wpAny_bind away
  | cons hi hln hc hsu t ih=>
    rename_i x n c i b suite np pos u hds l
    intro wish
    obtain ⟨y,hy,yes,no⟩:=wish
    have lc:Loc X.env.scope n:= .inl hln
    have J1:L2.Inv X pins σ H { s with heap:=h }:=J.landed kb fl.1 (up.trans uph) os ag
    obtain ⟨ox,xs,hx,hzx,hdx⟩:=fl.there
    have off:∀{g:Heap} {o:Obj} {vs:Array Value},g.FunFrames B (X.env::X.outer)→g.get? a=some o→o.data= .fields vs→a∉frs (X.env::X.outer):=fun {g o vs} ff e dd hm=> by
      obtain ⟨_,o1,e1,nf⟩:=ff.mem hm
      rw [e] at e1;cases e1
      exact nf _ dd
    have offA:=off fl.2.2.1 hx hdx
    have aL:a≠X.env.locals:=fun z=> offA (List.mem_filterMap.mpr ⟨X.env,List.mem_cons_self,by rw [fr,z]⟩)
    have aF:a∉X.fs:=fun hm=> by
      obtain ⟨e,he,q⟩:=List.mem_filterMap.mp hm
      exact offA (List.mem_filterMap.mpr ⟨e,List.mem_cons_of_mem _ he,q⟩)
    have J2:=J1.suite hx hdx na aL aF
    have ty:PySem.W.Looks (model X.prog X.w) h (typeOf (.ref a)) cls:=fun A Q E s k q=> wpAny_typeOf_ref (k _ _ hx) (by rw [hzx.1];exact q)
    have hit:=PySem.W.exm_one (M:=model X.prog X.w) (J1.kIn) ty hy
    have named:∀{Q:Value→Shared→Prop} {E:Value→Shared→Prop},Q c { s with heap:=h }→wpAny (model X.prog X.w) (X.A.mark (some (.ref a))) (eval (.Name x np) X.env) Q E { s with heap:=h }:=fun {Q E} q=> by
      obtain ⟨g1,g2,g3 | ⟨g3,g4,g5⟩⟩:=hc
      · exact ld_glob (X:=X.suite a ((a,ox)::(X.pn++pins))) J2 g1 g3 q g2
      · exact ld_blt (X:=X.suite a ((a,ox)::(X.pn++pins))) J2 g1 g3 g4 q g5 g2
    refine wpAny_handleBy_cons (codeAny_handlers_test (named (hit.here ?_))) (by intro z;cases z)
    cases y with
    | false=> exact ih (no rfl)
    | true=>
      refine codeAny_handlers_suite_as (HandSPX.lands_againZ fl fun g flg ug=> ?_)
      have J3:L2.Inv X pins σ H { s with heap:=g }:=J.landed kb flg.1 ((up.trans uph).trans ug) os ag
      obtain ⟨oy,ys,hoy,hzy,hdy⟩:=flg.there
      have J4:=J3.suite hoy hdy na aL aF
      refine store_ok (X:=X.suite a ((a,oy)::(X.pn++pins))) (v:= .ref a) J4 nd hi lc rfl (fun s5 J5=> ?_) (.inr hln)
      refine wpAny_mono ((hsu a oy cls d (X.pn++pins) hzy ⟨_,hdy⟩).run [] s5 _ H _ J5 (yes rfl a na)) (fun f s6 done=> ?_) (fun _ _ z=> False.elim z)
      have shut:∀{σ6:L2.St} {H6:Hp} {Q:Shared→Prop},L2.Inv (X.suite a ((a,oy)::(X.pn++pins))) [] σ6 H6 s6→(∀s7,L2.Inv X pins (σ6.set i none) H6 s7→Q s7)→
          wpAny (model X.prog X.w) X.A (do bindName X.env n .none;unbindBehindTheSuite X.env n pos) (fun _ s7=> Q s7) X.xe s6:=fun {σ6 H6 Q} J6 hq=> gone_ok (J6.unsuite ok) nd hi hln hq
      cases f with
      | next=>
        obtain ⟨σ6,H6,J6,q6⟩:=done
        exact shut J6 fun s7 J7=> ⟨_,_,J7,q6⟩
      | brk=>
        obtain ⟨σ6,H6,J6,q6⟩:=done
        exact shut J6 fun s7 J7=> ⟨_,_,J7,q6⟩
      | cont=>
        obtain ⟨σ6,H6,J6,q6⟩:=done
        exact shut J6 fun s7 J7=> ⟨_,_,J7,q6⟩
      | ret v=>
        obtain ⟨v6,σ6,H6,J6,r6,q6⟩:=done
        exact shut J6 fun s7 J7=> ⟨_,_,_,J7,r6,q6⟩
theorem C3M {body:List Stmt} {h₀:ExceptHandler} {hds:List ExceptHandler} {l:List (Value×Nat×A15)} {tb:WX→TS} {pos:Pos} (stk:X.stack=X.env::X.outer) (fr:X.env.frame=some X.env.locals) (nd:X.N.Nodup) (tk:Takes X Wout)
    (hb:∀(W:WX) (pn:List (Addr×Obj)) (xe:Value→Shared→Prop),Takes (X.tr pn xe) W→PSs (X.tr pn xe) body (tb W)) (hh:HdsAs X (h₀::hds) l):
    PS X (.Try body (h₀::hds) [] [] pos) (fun D σ H=> tb (A6O X.K Wout D l) D σ H):=by
  refine ⟨fun pins s σ H D I q=> ?_⟩
  have ok:=I.ok
  have hk:X.A.frames=some (X.env::X.outer):=by rw [ok.frames,stk]
  refine wpAny_Try_except ?_
  have tkb:Takes (X.tr (X.pn++pins) fun e r=> wpAny (model X.prog X.w) X.A (noteFrame e X.env) (fun _ r2=> wpAny (model X.prog X.w) X.A (setFlight e none) (fun _ r3=>
      wpAny (model X.prog X.w) X.A (handleBy e X.env (h₀::hds)) (SP X pins D) X.xe r3) X.xe r2) X.xe r) (A6O X.K Wout D l):=fun e r xx=> by
    obtain ⟨a,B,sI,pinsI,σ1,H1,cls,d,rfl,J1,kb,up,sky,na,os,ag,wish⟩:=xx
    have J:L2.Inv X pins σ1 H1 sI:=J1.ofTry ok
    have sky1:Sky B (X.env::X.outer) a (Zc cls d) X.env.locals r.heap:=by rw [←stk];exact sky
    change wpAny (model X.prog X.w) X.A (noteFrame (.ref a) X.env) _ _ _
    exact Sky.land Zc.steady hk fr sky1 fun h fl uph=> C6k (pinsI:=pinsI) stk fr nd tk ok J kb up na os ag fl uph hk hh wish
  refine wpAny_mono ((hb _ _ _ tkb).run [] s σ H D (I.toTry _) q) (fun f s1 done=> ?_) fun e s1 he=> he
  cases f with
  | next=>
    obtain ⟨σ1,H1,J1,z⟩:=done
    exact wpAny_execs_nil ⟨σ1,H1,J1.ofTry ok,z⟩
  | brk=>
    obtain ⟨σ1,H1,J1,z⟩:=done
    exact ⟨σ1,H1,J1.ofTry ok,z⟩
  | cont=>
    obtain ⟨σ1,H1,J1,z⟩:=done
    exact ⟨σ1,H1,J1.ofTry ok,z⟩
  | ret u=>
    obtain ⟨v,σ1,H1,J1,r,z⟩:=done
    exact ⟨v,σ1,H1,J1.ofTry ok,r,z⟩
end
end Ab
namespace Ab
open PySem PySem.Spec PyProof.Rows L2
abbrev XT:=AExc→(W→Prop)→Prop
def j5 (f:Str):XT:=fun x K=> ∃w,x.fs.lookup f=some w∧K w
abbrev XTs:=AExc→(List W→Prop)→Prop
def B1s (t:XT):Prop:=∀x K K',(∀w,K w→K' w)→t x K→t x K'
def C4e (t:XTs):Prop:=∀x K K',(∀w,K w→K' w)→t x K→t x K'
structure XS (G:Gx) (i:Nat) (a:Addr) (cls:Value) (d:Option Addr) (x:AExc) (env:A0) (h:AH) (σ:L2.St) (H:Hp):Prop where
  bs:BS G env h σ H
  at_:σ[i]? =some (some (V.ref a))
  rep:XRep G.K H x cls d
theorem XRep.new {K:PySem.W.Frag} {H H':Hp} {x:AExc} {cls:Value} {d:Option Addr} (n:New H H') (r:XRep K H x cls d):XRep K H' x cls d:=by
  obtain ⟨e,dd,vs,ed,ea,f1,f2⟩:=r
  exact ⟨e,dd,vs,ed,n _ _ ea,f1,RepL.mono n.keeps _ _ f2⟩
structure XV (X:Cx) (G:Gx) (i:Nat) (ks:List Str) (e:Expr) (t:XT):Prop where
  mono:B1s t
  pe:∀(a:Addr) (oe:Obj) (cls:Value) (d:Option Addr) (pn:List (Addr×Obj)),Zc cls d oe→(∃vs,oe.data= .fields vs)→PE (X.suite a ((a,oe)::pn)) e (fun σ H Q=> ∃x env h,XS G i a cls d x env h σ H∧x.n∈ks∧
    t x fun w=> ∀v H',New H H'→Rep G.K H' w v→Q v H')
structure XVs (X:Cx) (G:Gx) (i:Nat) (ks:List Str) (es:List Expr) (t:XTs):Prop where
  mono:C4e t
  pa:∀(a:Addr) (oe:Obj) (cls:Value) (d:Option Addr) (pn:List (Addr×Obj)),Zc cls d oe→(∃vs,oe.data= .fields vs)→PA (X.suite a ((a,oe)::pn)) es (fun σ H Q=> ∃x env h,XS G i a cls d x env h σ H∧x.n∈ks∧
    t x fun ws=> ∀vs H',New H H'→RepL G.K H' ws vs→Q vs H')
theorem FRep.lookup {K:PySem.W.Frag} {H:Hp}:∀{fs:List (Str×W)} {vs:List (Str×V)} {f:Str} {w:W},FRep K H fs vs→fs.lookup f=some w→∃v,vs.lookup f=some v∧Rep K H w v
  | [],_,_,_,_,e=> by cases e
  | (g,x)::fs,vs,f,w,⟨n,r⟩,e=> by
    obtain ⟨v,t,ev,rv,rt⟩:=RepL.of_cons (K:=K) (H:=H) r
    cases vs with
    | nil=> cases ev
    | cons p vs=>
      obtain ⟨g',y⟩:=p
      simp only [List.map_cons,List.cons.injEq] at n ev
      obtain ⟨n1,n2⟩:=n
      obtain ⟨v1,v2⟩:=ev
      subst n1 v1 v2
      rw [List.lookup_cons] at e ⊢
      cases q:(f==g) with
      | true=>
        rw [q] at e
        cases e
        exact ⟨_,rfl,rv⟩
      | false=>
        rw [q] at e
        exact FRep.lookup (fs:=fs) (vs:=vs) ⟨n2,rt⟩ e
section
variable {X:Cx} {G:Gx} {i:Nat} {ks:List Str} {n f:Str} {p pos:Pos} {e:Expr} {es:List Expr}
theorem A8O (gk:G.K=X.K) (T:∀c∈ks,XfC X.K (He.ga X.K c)∧PySem.W.findIn X.K (.ref (He.ga X.K c)) f=some none) (hi:X.N[i]? =some n) (hv:Vis X.env.scope n) (hd:(n==("__debug__":Str))=false:=by decide) (hcd:(n==("__classdict__":Str))=false:=by decide)
    (hb:attributeBase (.Name n p) f X.env (eval (.Name n p) X.env)=eval (.Name n p) X.env:=by rfl):XV X G i ks (.Attribute (.Name n p) f pos) (j5 f):=by
  refine ⟨fun x K K' k ⟨w,e,q⟩=> ⟨w,e,k _ q⟩,fun a oe cls d pn hz hf=> ⟨fun pins s σ H Q I ⟨x,env,h,S,hk,w,el,q⟩=> ?_⟩⟩
  obtain ⟨t1,t2⟩:=T x.n hk
  obtain ⟨ec,dd,vs,ed,ea,fr⟩:=S.rep
  obtain ⟨v,lv,rv⟩:=FRep.lookup fr el
  refine (pe_xf (C:=He.ga X.K x.n) (n:=f) t1 t2 hz hf (pe_var (X:=X.suite a ((a,oe)::pn)) (i:=i) hi hv hd hcd) hb).run pins s σ H Q I ?_
  exact ⟨.ref a,S.at_,rfl,by rw [ec,gk],dd,vs,v,ed,ea,lv,q v H (New.refl H) rv⟩
end
abbrev HdL:=List (Str×Nat×Nat×XT)
def A16 (ks:List Str):HdL→(AExc→A0→AH→Prop)→AEnds→AExc→A0→AH→Prop
  | [],E,_=> E
  | (c,i,j,sv)::r,E,D=> fun x env h=> x.n∈ks∧i < env.length∧if g7 x.n c=true then sv x (fun w=> D.nx ((env.set j (some (.val w))).set i none) h) else A16 ks r E D x env h
def A58 (env:A0):Bool:=env.all fun o=> match o with
  | some (.own _)=> false
  | _=> true
def A6T (ks:List Str) (hs:HdL) (E:AExc→A0→AH→Prop) (t:(AExc→A0→AH→Prop)→C0):C0:=fun D env h=> A58 env=true∧∃Ein,(∀x e k,Ein x e k→A16 ks hs E D x e k)∧t Ein D env h
theorem B4Y {env:A0} (h:A58 env=true) {i:Nat} {c:Cont} (e:env[i]? =some (some (.own c))):False:=by
  have z:=List.all_eq_true.mp h _ (List.mem_of_getElem? e)
  cases z
theorem BS.unset {G:Gx} {env:A0} {h:AH} {σ:L2.St} {H:Hp} (S:BS G env h σ H) (i:Nat):BS G (env.set i none) h (σ.set i none) H:=by
  have at_:∀{j:Nat} {sv:SV},(env.set i none)[j]? =some (some sv)→j≠i∧env[j]? =some (some sv):=fun {j sv} e=> by
    by_cases z:i=j
    · subst z
      by_cases l:i < env.length
      · rw [List.getElem?_set_self l] at e;cases e
      · rw [List.getElem?_eq_none (by rw [List.length_set];omega)] at e;cases e
    · rw [List.getElem?_set_ne z] at e
      exact ⟨Ne.symm z,e⟩
  have out:∀{j:Nat},j≠i→(σ.set i none)[j]? =σ[j]? :=fun {j} z=> List.getElem?_set_ne (Ne.symm z)
  refine ⟨by rw [List.length_set,List.length_set];exact S.len,fun j w e=> ?_,fun j c e=> ?_,fun j k c c' p e1 e2 f1 f2=> ?_,S.hp,S.fr,S.ext,S.tr,S.tabs⟩
  · obtain ⟨n,e⟩:=at_ e
    rw [out n];exact S.val j w e
  · obtain ⟨n,e⟩:=at_ e
    rw [out n];exact S.own j c e
  · obtain ⟨n1,e1⟩:=at_ e1
    obtain ⟨n2,e2⟩:=at_ e2
    rw [out n1] at f1
    rw [out n2] at f2
    exact S.uni j k c c' p e1 e2 f1 f2
theorem BS.into {G:Gx} {env:A0} {h:AH} {σ:L2.St} {H:Hp} (S:BS G env h σ H) (no:A58 env=true):BS ⟨G.K,h,H⟩ env h σ H:=
  ⟨S.len,S.val,fun i c e=> (B4Y no e).elim,fun i j c c' p e=> (B4Y no e).elim,S.hp,fun p o e _ _=> e,fun a o e n=> (by have n:h a=none:=n;rw [n] at e;cases e),fun p o e=> ⟨o,e⟩,S.tabs⟩
theorem BS.outof {G:Gx} {env env':A0} {h h':AH} {σ σ':L2.St} {H H':Hp} (S:BS G env h σ H) (T:BS ⟨G.K,h,H⟩ env' h' σ' H'):BS G env' h' σ' H':=by
  have up:∀{p:Addr},H p=none→G.H0 p=none:=fun {p} n=> by
    cases q:G.H0 p with
    | none=> rfl
    | some o=> obtain ⟨u,e⟩:=S.tr p o q;rw [n] at e;cases e
  refine ⟨T.len,T.val,fun i c e=> ?_,T.uni,T.hp,fun p o e n y=> ?_,fun a o e n=> ?_,fun p o e=> ?_,T.tabs⟩
  · obtain ⟨p,a,b,x,y⟩:=T.own i c e
    exact ⟨p,a,b,x,up y⟩
  · have hn:h p=none:=by
      cases q:h p with
      | none=> rfl
      | some u=> have z:=S.ext p u q n;rw [z] at e;cases e
    exact T.fr p o (S.fr p o e n y) hn y
  · cases q:h a with
    | some u=> exact S.ext a u q n
    | none=> exact up (T.ext a o e q)
  · obtain ⟨u,q⟩:=S.tr p o e
    exact T.tr p u q
theorem BS.keeps {K:PySem.W.Frag} {G:Gx} {env env':A0} {h h':AH} {σ σ':L2.St} {H H':Hp} (S:BS G env h σ H) (T:BS ⟨K,h,H⟩ env' h' σ' H'):Keeps H H':=fun p o e i=> T.fr p o e (S.imm e i).1 i.nt
inductive HdA (X:Cx) (ks:List Str):List ExceptHandler→HdL→Prop where
  | nil:HdA X ks [] []
  | cons {c n y:Str} {i j:Nat} {e:Expr} {np py pos pos':Pos} {sv:XT} {hds:List ExceptHandler} {l:HdL} (hi:X.N[i]? =some n) (hln:X.env.kindOf n=some .local) (hg:Gl X c) (hm:X.mg c=some (.ref (He.ga X.K c)))
      (ex:∀k∈ks,PySem.W.exmOne X.K (.ref (He.ga X.K k)) (.ref (He.ga X.K c))=some (g7 k c)) (hj:X.N[j]? =some y) (hy:Loc X.env.scope y) (fy:X.fn y=true∨X.env.scope.names.lookup y=some .local) (ne:i≠j)
      (hv:∀G:Gx,G.K=X.K→XV X G i ks e sv) (hs:swapsWithSole [.Name y py] e pos.line X.env=pure false) (hw:swappedStores [.Name y py] e X.env=pure none) (h1:(assignEach [.Name y py] X.env).map (·.2)=[assign (.Name y py) X.env])
      (hdb:(c==("__debug__":Str))=false) (t:HdA X ks hds l):HdA X ks (.ExceptHandler (some (.Name c np)) (some n) [.Assign [.Name y py] e pos] pos'::hds) ((c,i,j,sv)::l)
def uTs (K:PySem.W.Frag) (ks:List Str) (i j:Nat) (sv:XT):A15:=fun a cls d D σ H=> ∃G x env h,G.K=K∧XS G i a cls d x env h σ H∧x.n∈ks∧sv x fun w=> ∀v H',New H H'→Rep G.K H' w v→D.nx (σ.set j (some v)) H'
def B12 (K:PySem.W.Frag) (ks:List Str):HdL→List (Value×Nat×A15)
  | []=> []
  | (c,i,j,sv)::r=> (.ref (He.ga K c),i,uTs K ks i j sv)::B12 K ks r
theorem HdA.low {X:Cx} {ks:List Str} (nd:X.N.Nodup) {hds:List ExceptHandler} {l:HdL} (hh:HdA X ks hds l):HdsAs X hds (B12 X.K ks l):=by
  induction hh with
  | nil=> exact .nil
  | cons hi hln hg hm ex hj hy fy ne hv hs hw h1 hdb t ih=>
    refine .cons hi hln ⟨hg,hdb,.inl hm⟩ (fun a oe cls d pn hz hf=> ?_) ih
    have pe:PE (X.suite a ((a,oe)::pn)) _ (fun σ H Q=> ∃G x env h,G.K=X.K∧XS G _ a cls d x env h σ H∧x.n∈ks∧_):=⟨fun pins s σ H Q I ⟨G,x,env,h,gk,r⟩=> ((hv G gk).pe a oe cls d pn hz hf).run pins s σ H Q I ⟨x,env,h,r⟩⟩
    refine pss_one (PS.imp (ps_asg pe (pg_name (X:=X.suite a ((a,oe)::pn)) nd hj hy fy) hs hw h1) fun D σ H ⟨G,x,env,h,gk,S,hk,q⟩=> ?_)
    exact ⟨G,x,env,h,gk,S,hk,(hv G gk).mono x _ _ (fun w z v H1 n1 r1=> z v H1 n1 r1) q⟩
section
variable {X:Cx} {G:Gx} {ks:List Str} {hs:HdL} {body:List Stmt} {h₀:ExceptHandler} {hds:List ExceptHandler} {t:(AExc→A0→AH→Prop)→C0} {E:AExc→A0→AH→Prop} {pos:Pos}
theorem C0h {D D':AEnds}:∀{hds:List ExceptHandler} {hs:HdL},HdA X ks hds hs→(∀e k,D.nx e k→D'.nx e k)→∀x e k,A16 ks hs E D x e k→A16 ks hs E D' x e k:=by
  intro hds hs hh l
  induction hh with
  | nil=> exact fun x e k z=> z
  | cons hi hln hg hm ex hj hy fy ne hv hs' hw h1 hdb t ih=>
    rename_i c n y i j e' np py pos pos' sv hds l'
    intro x e k ⟨z1,z2,z3⟩
    refine ⟨z1,z2,?_⟩
    by_cases b:g7 x.n c=true
    · rw [if_pos b] at z3 ⊢
      exact (hv ⟨X.K,(fun _=> none),(fun _=> none)⟩ rfl).mono x _ _ (fun w z=> l _ _ z) z3
    · rw [if_neg b] at z3 ⊢
      exact ih x e k z3
theorem C1F (gk:G.K=X.K) {G':Gx} {Da:AEnds} {D:Ends} {env0:A0} {h0:AH} {σ0:L2.St} {H0:Hp} (S0:BS G env0 h0 σ0 H0) (eg:G'=⟨G.K,h0,H0⟩) (l:Link G H0 Da D):
    ∀{hds:List ExceptHandler} {hs:HdL},HdA X ks hds hs→∀(x:AExc) (env:A0) (h:AH) (σ:L2.St) (H:Hp) (cls:Value) (d:Option Addr),BS G' env h σ H→XRep G'.K H x cls d→A16 ks hs E Da x env h→A6O X.K (cW G E) D (B12 X.K ks hs) cls d σ H:=by
  subst eg
  intro hds hs hh
  induction hh with
  | nil=> intro x env h σ H cls d S r z;exact ⟨x,env,h,S0.outof S,r,z⟩
  | cons hi hln hg hm ex hj hy fy ne hv hs' hw h1 hdb t ih=>
    rename_i c n y i j e np py pos pos' sv hds l'
    intro x env h σ H cls d S r z
    obtain ⟨hk,ie,z⟩:=z
    have ec:cls= .ref (He.ga X.K x.n):=by rw [r.1,←gk]
    refine ⟨g7 x.n c,by rw [ec];exact ex _ hk,fun b a na=> ?_,fun b=> ?_⟩
    · rw [if_pos b] at z
      have nAt:BS ⟨G.K,h0,H0⟩ (env.set i (some (.val (.ref a)))) h (σ.set i (some (.ref a))) H:=S.set (r:= .val (.ref a)) i (show Rep G.K H (.ref a) (.ref a) from .ref) trivial
      have il:i < σ.length:=by rw [←S.len];exact ie
      refine ⟨⟨G.K,h0,H0⟩,x,_,h,gk,⟨nAt,List.getElem?_set_self il,r⟩,hk,(hv ⟨G.K,h0,H0⟩ gk).mono x _ _ (fun w z v H1 n1 r1=> ?_) z⟩
      have S1:BS ⟨G.K,h0,H0⟩ env h σ H1:=n1.bs S
      have S2:BS ⟨G.K,h0,H0⟩ (env.set j (some (.val w))) h (σ.set j (some v)) H1:=S1.set (r:= .val w) j r1 trivial
      have S3:=S2.unset i
      have e2:((σ.set i (some (V.ref a))).set j (some v)).set i none=(σ.set j (some v)).set i none:=by
        rw [List.set_comm _ _ ne,List.set_set]
      show D.nx (((σ.set i (some (V.ref a))).set j (some v)).set i none) H1
      rw [e2]
      exact l.nx _ _ _ _ (S0.outof S3) (S0.keeps S3) z
    · rw [if_neg (by rw [b];exact Bool.false_ne_true)] at z
      exact ih x env h σ H cls d S r z
def GLe (G G':Gx):Prop:=∀H:Hp,(∀p o,G'.H0 p=some o→G'.h0 p=none→NT o→H p=some o)→∀p o,G.H0 p=some o→G.h0 p=none→NT o→H p=some o
theorem GLe.refl {G:Gx}:GLe G G:=fun _ h=> h
theorem BS.gle {env:A0} {h:AH} {σ:L2.St} {H:Hp} (S:BS G env h σ H):GLe G ⟨G.K,h,H⟩:=fun H1 k p o e n y=> by
  have hn:h p=none:=by
    cases q:h p with
    | none=> rfl
    | some u=> have z:=S.ext p u q n;rw [z] at e;cases e
  exact k p o (S.fr p o e n y) hn y
theorem _root_.Ab.LamHas.to {Z:Cx} {G':Gx} {f:Addr} {n:Nat} {sp:G1} (L:LamHas Z G f n sp) (g:GLe G G') (pn:List (Addr×Obj)) (xe:Value→Shared→Prop):LamHas (Z.tr pn xe) G' f n sp:=
  ⟨L.m,fun s H k=> L.fn s H (g H k),fun s H us vs Q E k=> L.run s H us vs Q E (g H k)⟩
theorem B6G (gk:G.K=X.K) (stk:X.stack=X.env::X.outer) (fr:X.env.frame=some X.env.locals) (nd:X.N.Nodup) (tk:Takes X (cW G E))
    (hb:∀(pn:List (Addr×Obj)) (xe:Value→Shared→Prop) (G':Gx) (E':AExc→A0→AH→Prop),G'.K=X.K→GLe G G'→Takes (X.tr pn xe) (cW G' E')→ASs (X.tr pn xe) G' body (t E')) (hh:HdA X ks (h₀::hds) hs):
    AS X G (.Try body (h₀::hds) [] [] pos) (A6T ks hs E t):=by
  refine ⟨fun D D' env h l ⟨no,Ein,k,q⟩=> ⟨no,Ein,fun x e g z=> C0h hh l.nx x e g (k x e g z),(hb [] (fun _ _=> True) G Ein gk .refl fun _ _ _=> trivial).mono _ _ _ _ l q⟩,PS.imp (C3M
    (tb:=fun W D σ H=> ∃(env:A0) (h:AH) (Da:AEnds) (G':Gx) (Ein:AExc→A0→AH→Prop),G'.K=X.K∧GLe G G'∧BS G' env h σ H∧t Ein Da env h∧Link G' H Da D∧∀cls d σ' H',cW G' Ein cls d σ' H'→W cls d σ' H')
    stk fr nd tk (fun W pn xe tkW=> ⟨fun pins s σ H D I ⟨env,h,Da,G',Ein,gk',gl,S,q,l,imp⟩=> (hb pn xe G' Ein gk' gl (Takes.imp tkW imp)).ps.run pins s σ H D I ⟨env,h,Da,S,q,l⟩⟩)
    (HdA.low nd hh)) fun D σ H ⟨env,h,Da,S,⟨no,Ein,k,q⟩,l⟩=> ?_⟩
  have up:∀{p:Addr},H p=none→G.H0 p=none:=fun {p} n=> by
    cases q:G.H0 p with
    | none=> rfl
    | some o=> obtain ⟨u,e⟩:=S.tr p o q;rw [n] at e;cases e
  refine ⟨env,h,Da,⟨G.K,h,H⟩,Ein,gk,S.gle,S.into no,q,⟨fun e g σ' H' T y z=> l.nx e g σ' H' (S.outof T) y z,fun r e g σ' H' v T y rr z=> l.rt r e g σ' H' v (S.outof T) y ?_ z,fun e g σ' H' T y z=> l.bk e g σ' H' (S.outof T) y z,fun e g σ' H' T y z=> l.ct e g σ' H' (S.outof T) y z⟩,
    fun cls d σ' H' ⟨x,env1,h1,S1,xr,z⟩=> C1F gk S rfl l hh x env1 h1 σ' H' cls d S1 xr (k x env1 h1 z)⟩
  cases r with
  | val w=> exact rr
  | own c=> obtain ⟨p,e1,cr,n,n0,no2⟩:=rr;exact ⟨p,e1,cr,n,up n0,no2⟩
  | slot i=> exact rr
end
end Ab
namespace Ab
open PySem PySem.Spec PyProof.Rows L2
section
variable {prog:Program} {w:World} {A:Around} {R:Result→Shared→Prop} {I:Addr} {fp wr:List Addr} {n:Nat} {P:Nat→Value→Prop} {St:Nat→Heap→Prop}
end
section
variable {prog:Program} {w:World} {A:Around} {E:Value→Shared→Prop} {s:Shared} {l:Addr} {xs:Array (Int×Tok)}
end
section
variable {X:Cx} {G:Gx} {e:Expr} {p pos kpos cp:Pos} {j:Nat} {t:V4}
end
end Ab
namespace Ab
open PySem PySem.Spec PyProof.Rows L2
section
variable {X:Cx} {G:Gx} {c:Expr} {body:List Stmt} {pos:Pos} {tc:K9} {tb:C0}
end
end Ab
namespace Ab
open PySem PySem.Spec PyProof.Rows L2
section
variable {prog:Program} {w:World} {K:Type} [DecidableEq K] {kd:KeyKind prog w K} {A:Around} {E:Value→Shared→Prop} {s:Shared}
end
section
variable {X:Cx} {pins:List (Addr×Obj)} {σ:L2.St} {H:Hp} {s:Shared} {a:Addr} {kvs:List (List Key×V)} {A:Around} {E:Value→Shared→Prop} {o i e:Expr} {td ty tv:TE} {pos pos':Pos}
end
end Ab
namespace Ab
open PySem PySem.Spec PyProof.Rows L2 RZ
def A35 (l:List (List Int×W)):List (W×W):=(W.lst [],W.non)::l.map fun p=> (W.tup (p.1.map .int),p.2)
def A6D (l:List (List Int×W)) (ns:List Int):Option W:=(l.find? fun p=> decide (p.1=ns)).map (·.2)
section
variable {X:Cx} {G:Gx}
def aInT (neg:Bool) (i:Nat) (tk:D3):AT:=fun env h Q=> tk env h fun w env1 h1=> (∃(l:List (List Int×W)) (ns:List Int),env1[i]? =some (some (.own (.map (A35 l))))∧w= .tup (ns.map .int)∧
  Q (.val (.bl (if neg=true then !(A6D l ns).isSome else (A6D l ns).isSome))) env1 h1)∨neg=false∧(∃l:List (List Int×W),env1[i]? =some (some (.own (.map (A35 l)))))∧w= .non∧Q (.val (.bl false)) env1 h1
theorem aInT.mono {neg:Bool} {i:Nat} {tk:D3} (m:B3 tk):B3 (aInT neg i tk):=fun env h Q Q' k q=> m env h _ _ (fun w e g z=> by
  rcases z with ⟨l,ns,z1,z2,z3⟩ | ⟨z1,z2,z3,z4⟩
  · exact .inl ⟨l,ns,z1,z2,k _ _ _ z3⟩
  · exact .inr ⟨z1,z2,z3,k _ _ _ z4⟩) q
def aGetT (i:Nat) (tk:D3):AT:=fun env h Q=> (∃kvs,env[i]? =some (some (.own (.map kvs))))∧tk env h fun w env1 h1=> ∃(l:List (List Int×W)) (ns:List Int) (v:W),env1[i]? =some (some (.own (.map (A35 l))))∧w= .tup (ns.map .int)∧
  A6D l ns=some v∧Q (.val v) env1 h1
theorem aGetT.mono {i:Nat} {tk:D3} (m:B3 tk):B3 (aGetT i tk):=fun env h Q Q' k q=> ⟨q.1,m env h _ _ (fun w e g ⟨l,ns,v,z1,z2,z3,z4⟩=> ⟨l,ns,v,z1,z2,z3,k _ _ _ z4⟩) q.2⟩
def aGetDT (i:Nat) (tk td:D3):AT:=fun env h Q=> (∃kvs,env[i]? =some (some (.own (.map kvs))))∧tk env h fun w env1 h1=> td env1 h1 fun d env2 h2=>
  ∃(l:List (List Int×W)) (ns:List Int),env2[i]? =some (some (.own (.map (A35 l))))∧w= .tup (ns.map .int)∧Q (.val ((A6D l ns).getD d)) env2 h2
theorem aGetDT.mono {i:Nat} {tk td:D3} (m:B3 tk) (n:B3 td):B3 (aGetDT i tk td):=fun env h Q Q' k q=>
  ⟨q.1,m env h _ _ (fun w e g z=> n e g _ _ (fun d e g ⟨l,ns,z1,z2,z3⟩=> ⟨l,ns,z1,z2,k _ _ _ z3⟩) z) q.2⟩
end
end Ab
namespace Ab
open PySem PySem.Spec PyProof.Rows L2 RZ
section
variable {X:Cx} {G:Gx} {k v:Expr} {pos:Pos} {tk tv:TE}
end
section
variable {X:Cx} {G:Gx} {k v:Expr} {pos:Pos}
def aDispT (tk tv:D3):AT:=fun env h Q=> tk env h fun w env1 h1=> tv env1 h1 fun y env2 h2=> ∃ns:List Int,w= .tup (ns.map .int)∧Q (.own (.map (A35 [(ns,y)]))) env2 h2
theorem aDispT.mono {tk tv:D3} (m:B3 tk) (n:B3 tv):B3 (aDispT tk tv):=fun env h Q Q' k q=> m env h _ _ (fun w e g z=> n e g _ _ (fun y e g ⟨ns,z1,z2⟩=> ⟨ns,z1,k _ _ _ z2⟩) z) q
end
end Ab
namespace Ab
open PySem PySem.Spec PyProof.Rows L2 RZ
def B6r (i j:Int):Prop:=0≤j∧(PySem.Builtin.Int.intBits i:Int)*j≤2 ^ 27
section
variable {X:Cx} {G:Gx} {a b:Expr} {ta tb:AT} {pos:Pos}
end
end Ab
namespace Ab
open PySem PySem.Spec PyProof.Rows L2 RZ
def oIndexW (a:Vw) (ws:List W) (Q:RV→Prop):Prop:=match ws with
  | [.int x]=> ∃ns:List Int,a.seq=some (ns.map W.int)∧x∈ns∧Q (.val (.int (ns.idxOf x)))
  | _=> False
def aIdx (to:AT) (t:G2):AT:=fun env h Q=> to env h fun ro env1 h1=> (∃ns:List Int,(view env1 h1 ro).seq=some (ns.map W.int))∧t env1 h1 fun ws env2 h2=> oIndexW (view env2 h2 ro) ws fun r=> Q r env2 h2
theorem oIndexW.mono {a:Vw} {ws:List W} {Q Q':RV→Prop} (k:∀r,Q r→Q' r) (q:oIndexW a ws Q):oIndexW a ws Q':=by
  unfold oIndexW at q ⊢
  split at q
  · obtain ⟨ns,e,m,q⟩:=q
    exact ⟨ns,e,m,k _ q⟩
  · exact q.elim
theorem aIdx.mono {to:AT} {t:G2} (a:B3 to) (b:B3 t):B3 (aIdx to t):=fun env h Q Q' k q=>
  a env h _ _ (fun ro e g z=> ⟨z.1,b e g _ _ (fun ws e2 g2 z=> z.mono fun r q=> k _ _ _ q) z.2⟩) q
section
variable {X:Cx} {G:Gx} {o e:Expr} {es:List Expr} {to:AT} {t:G2} {apos cpos:Pos}
end
end Ab
namespace Ab
open PySem PySem.Spec PyProof.Rows L2 RZ
structure OkD (P:Program) (w:World) (K:PySem.W.Frag) (mg:Str→Option Value) (base:Heap) (x:Str) (st:Stmt) (k n:Nat) (ps:List Str) (kws:List (Str×V)) (sp:G1):Prop where
  m:Q7 sp
  ex:∃f fd,mg x=some (.ref f)∧FunD K x x (defArgs st) (defBody st) (defScope st) [] kws f fd∧FnOk P w K mg base (L2.CX P w) k f fd ps (P8 K n sp)
theorem OkD.mk' {P:Program} {w:World} {K:PySem.W.Frag} {mg:Str→Option Value} {base:Heap} {x:Str} {st:Stmt} {f:Addr} {fd:FuncData} {N ps:List Str} {k n:Nat} {kws:List (Str×V)} {sp:G1} {t:(AExc→A0→AH→Prop)→C0} (sm:Q7 sp) (hm:mg x=some (.ref f)) (F:FunD K x x (defArgs st) (defBody st) (defScope st) [] kws f fd) (S:FnScope N ps (defScope st)) (hn:ps.length=n)
    (hb:∀(cdv:Value) (A:Around) (outer:List Env) (s:Shared) (H:Hp) (E:XK) (G:Gx) (E':AExc→A0→AH→Prop),Room k (A.deeper (envOfC x (defScope st) s.heap.objs.size f cdv))→G.K=K→Takes (bx P w K mg base N x (defScope st) f cdv A outer s H E) (cW G E')→
      ASs (bx P w K mg base N x (defScope st) f cdv A outer s H E) G (defBody st) (t E'))
    (hq:∀ws h Qa Ea,ws.length=n→sp ws h Qa Ea→t (C4 Ea) (B6 Qa) (G8 N.length ws) h):OkD P w K mg base x st (k+1) n ps kws sp:=
  ⟨sm,f,fd,hm,F,B1O [] kws F S hn hb hq⟩
def A84 {α:Type} (d:α) (n0 m0:Nat) (perm:List Nat) (ds us ws:List α):List α:=if us.length==n0 && ws.length==m0 then perm.map fun i=> (us++(ws++ds)).getD i d else []
abbrev gMx (n0 m0:Nat) (perm:List Nat) (ds:List W):List W→List W→List W:=A84 W.non n0 m0 perm ds
theorem A98:∀{as bs:List V} {us ws:List Value},Vals as us→Vals bs ws→Vals (as++bs) (us++ws)
  | _,_,_,_,.nil,b=> b
  | _,_,_,_,.cons r a,b=> .cons r (A98 a b)
section
variable {X:Cx} {G:Gx} {sp:G1} {st:Stmt} {k j n0:Nat} {ps ks:List Str} {kws0 ms:List (Str×V)} {ds:List W} {x:Str} {p pos:Pos} {e:Expr} {es:List Expr} {kws:List Keyword} {t tk:G2} {E:AExc→A0→AH→Prop} {perm:List Nat}
theorem C4F {CX:CXT} {sp:Sp} {f:Addr} {fd:FuncData} {g:List Value→List Value→List Value} {gV:List V→List V→List V} {pins:List (Addr×Obj)} {σ:L2.St} {H:Hp} {s:Shared} {Q:VK} {E:XK} {us ws:List Value} {vs zs:List V} (F:FnOk X.prog X.w X.K X.mg X.base CX k f fd ps sp) (hr:Room k X.A) (hb:KBn X.K fd ps n0 ks g gV)
    (hx:PassesAt CX X σ E) (I:Inv X pins σ H s) (r:Vals vs us) (rz:Vals zs ws) (l1:vs.length=n0) (l2:zs.length=ks.length) (h:sp (gV vs zs) H Q E):wpAny (model X.prog X.w) X.A (call (.ref f) us (ks.zip ws)) (EP X pins σ Q) X.xe s:=by
  have r2:=hb.rel r rz
  refine wpAny_call (codeAny_mono (F.run X.A X.stack s H ⟨us,ks.zip ws⟩ _ _ Q E hr I.env0 (hb.to s us ws I.kIn (r.length.symm.trans l1) (rz.length.symm.trans l2)) r2 h) fun r s' hq=> ?_)
  cases r with
  | error e=> exact hx pins H s e s' I hq
  | ok fl=> cases fl <;> first | exact I.after hq | exact False.elim hq
theorem C3W {K:PySem.W.Frag} {H:Hp} {ws zs:List W} {vs us ds':List V} {n0 m0:Nat} (l1:ws.length=n0) (l2:zs.length=m0) (r:RepL K H ws vs) (q:RepL K H zs us) (d:RepL K H ds ds'):RepL K H (gMx n0 m0 perm ds ws zs) (perm.map fun i=> (vs++(us++ds')).getD i .non):=by
  unfold gMx A84
  rw [if_pos (by simp [l1,l2])]
  have rr:=r.append (q.append d)
  have:∀t:List Nat,RepL K H (t.map fun i=> (ws++(zs++ds)).getD i W.non) (t.map fun i=> (vs++(us++ds')).getD i V.non):=fun t=> by
    induction t with
    | nil=> exact .nil
    | cons i t ih=> exact .cons (rr.getD' i) ih
  exact this perm
end
section
variable {X:Cx} {G:Gx} {sp:G1} {st:Stmt} {k j:Nat} {ps:List Str} {x:Str} {p pos:Pos} {E:AExc→A0→AH→Prop}
end
def B1x (neg:Bool):M5:=fun a b Q=> ∃x y:Bool,a= .wv (.bl x)∧b= .wv (.bl y)∧Q (.val (.bl (if neg then !decide (x=y) else decide (x=y))))
section
variable {X:Cx} {G:Gx} {a b:Expr} {ta tb:AT} {pos:Pos}
end
def aRevL (ta:AT):AT:=fun env h Q=> ta env h fun r env1 h1=> ∃xs,(view env1 h1 r).seq=some xs∧Q (.own (.seq xs.reverse)) env1 h1
theorem aRevL.mono {ta:AT} (m:B3 ta):B3 (aRevL ta):=fun env h Q Q' k q=> m env h _ _ (fun r e g ⟨xs,z1,z2⟩=> ⟨xs,z1,k _ _ _ z2⟩) q
section
variable {X:Cx} {G:Gx} {a:Expr} {ta:AT} {k:Nat} {p1 p2 p3 pos:Pos}
end
end Ab
namespace Ab
open PySem PySem.Spec PyProof.Rows L2 RZ
def oLenSet:L4:=fun as Q=> match as with
  | [.wv (.tup ws)]=> ∃ns:List Int,ws=ns.map W.int∧ns≠[]∧ns.length≤4000∧∀m:Int,(m=1↔∀x∈ns,∀y∈ns,x=y)→Q (.val (.int m))
  | _=> False
theorem oLenSet.mono {as:List Vw} {Q Q':RV→Prop} (k:∀r,Q r→Q' r) (q:oLenSet as Q):oLenSet as Q':=by
  unfold oLenSet at q ⊢
  split at q
  · obtain ⟨ns,a,b,c,q⟩:=q
    exact ⟨ns,a,b,c,fun m e=> k _ (q m e)⟩
  · exact q.elim
section
variable {X:Cx} {G:Gx} {e:Expr} {p p2 q pos kpos cp:Pos} {j:Nat} {t:V4}
end
end Ab
namespace Ab
open PySem PySem.Spec PyProof.Rows L2 RZ
def v5 (f:Str) (w:W):List (Str×W)→List (Str×W)
  | []=> [(f,w)]
  | (g,x)::r=> if g=f then (g,w)::r else (g,x)::v5 f w r
theorem FRep.look {K:PySem.W.Frag} {H:Hp} {f:Str}:∀{fs:List (Str×W)} {vs:List (Str×V)},FRep K H fs vs→(∀w,fs.lookup f=some w→∃v,vs.lookup f=some v∧Rep K H w v)∧(fs.lookup f=none→vs.lookup f=none)
  | [],[],_=> ⟨fun _ e=> by simp at e,fun _=> rfl⟩
  | [],v::vs,h=> by cases h.1
  | p::fs,[],h=> by cases h.1
  | (g,w)::fs,(g',v)::vs,⟨h1,h2⟩=> by
    rw [List.map_cons,List.map_cons] at h1
    injection h1 with e1 e2
    have e1:g=g':=e1
    subst e1
    obtain ⟨v',r',e3,a,b⟩:=RepL.of_cons (w:=w) (ws:=fs.map (·.2)) h2
    rw [List.map_cons] at e3
    injection e3 with e3 e4
    subst e3 e4
    obtain ⟨i1,i2⟩:=FRep.look (f:=f) (fs:=fs) (vs:=vs) ⟨e2,b⟩
    simp only [List.lookup]
    cases q:f==g with
    | true=> exact ⟨fun w e=> by cases e;exact ⟨_,rfl,a⟩,fun e=> by cases e⟩
    | false=> exact ⟨i1,i2⟩
theorem FRep.put {K:PySem.W.Frag} {H:Hp} {f:Str} {w:W} {v:V} (r:Rep K H w v):∀{fs:List (Str×W)} {vs:List (Str×V)},FRep K H fs vs→FRep K H (v5 f w fs) (putF f v vs)
  | [],[],_=> ⟨rfl,.cons r .nil⟩
  | [],v::vs,h=> by cases h.1
  | p::fs,[],h=> by cases h.1
  | (g,x)::fs,(g',y)::vs,⟨h1,h2⟩=> by
    rw [List.map_cons,List.map_cons] at h1
    injection h1 with e1 e2
    have e1:g=g':=e1
    subst e1
    obtain ⟨v',r',e3,a,b⟩:=RepL.of_cons (w:=x) (ws:=fs.map (·.2)) h2
    rw [List.map_cons] at e3
    injection e3 with e3 e4
    subst e3 e4
    unfold v5 putF
    by_cases q:g=f
    · rw [if_pos q,if_pos q]
      exact ⟨by rw [List.map_cons,List.map_cons,e2],.cons r b⟩
    · rw [if_neg q,if_neg q]
      obtain ⟨i1,i2⟩:=FRep.put r (fs:=fs) (vs:=vs) ⟨e2,b⟩
      exact ⟨by rw [List.map_cons,List.map_cons,i1],.cons a i2⟩
theorem FRep.mono {K:PySem.W.Frag} {H H':Hp} (k:Keeps H H') {fs:List (Str×W)} {vs:List (Str×V)} (h:FRep K H fs vs):FRep K H' fs vs:=⟨h.1,RepL.mono k _ _ h.2⟩
theorem FRep.length {K:PySem.W.Frag} {H:Hp} {fs:List (Str×W)} {vs:List (Str×V)} (h:FRep K H fs vs):fs.length=vs.length:=by have:=congrArg List.length h.1;simpa using this
structure FldOk (K:PySem.W.Frag) (n f:Str):Prop where
  cl:Cls K (He.ga K n)
  no:NoAttr K (He.ga K n) f
section
variable {G:Gx} {env:A0} {h:AH} {σ:L2.St} {H:Hp}
theorem C3x (S:BS G env h σ H) {a:Addr} {n:Str} {fs fs':List (Str×W)} (ha:h a=some (.ins n fs)):∃dx vs,H a=some (.ins (He.ga G.K n) dx vs)∧FRep G.K H fs vs∧
    ∀vs',(Keeps H (upd H a (.ins (He.ga G.K n) dx vs'))→FRep G.K (upd H a (.ins (He.ga G.K n) dx vs')) fs' vs')→BS G env (B9 h a (.ins n fs')) σ (upd H a (.ins (He.ga G.K n) dx vs'))∧Xt env h σ H env (B9 h a (.ins n fs')) (upd H a (.ins (He.ga G.K n) dx vs')):=by
  obtain ⟨dx,vs,e,fr⟩:=S.hp a _ ha
  refine ⟨dx,vs,e,fr,fun vs' hc=> ?_⟩
  have kp:Keeps H (upd H a (.ins (He.ga G.K n) dx vs')):=fun q o eq i=> by
    have ne:q≠a:=fun z=> by subst z;rw [e] at eq;cases eq;exact i.elim
    rw [upd_ne ne];exact eq
  have th:∀q o,H q=some o→∃u,upd H a (.ins (He.ga G.K n) dx vs') q=some u:=fun q o eq=> by
    by_cases z:q=a
    · subst z;exact ⟨_,upd_same⟩
    · exact ⟨o,by rw [upd_ne z];exact eq⟩
  have hc:=hc kp
  have neo:∀{j:Nat} {d:Cont} {q:Addr},env[j]? =some (some (SV.own d))→σ[j]? =some (some (V.ref q))→q≠a:=fun z y x=> by
    obtain ⟨q',a',_,n,_⟩:=S.own _ _ z
    rw [y] at a';cases a'
    rw [x,ha] at n;cases n
  refine ⟨⟨S.len,fun j w z=> ?_,fun j d z=> ?_,S.uni,fun b o z=> ?_,fun q o z y t=> ?_,fun b o z y=> ?_,fun q o z=> ?_,S.tabs.upd fun o z=> (by rw [e] at z;cases z;trivial)⟩,fun q o z y w t=> ?_,fun q o z y=> ?_,th,fun j d z=> ⟨d,z⟩⟩
  · obtain ⟨u,x,y⟩:=S.val j w z;exact ⟨u,x,Rep.mono kp w u y⟩
  · obtain ⟨q,x,y,n,n0⟩:=S.own j d z
    have nq:=neo z x
    exact ⟨q,x,y.mono kp (upd_ne nq),by rw [C1 nq];exact n,n0⟩
  · by_cases hb:b=a
    · subst hb;rw [M6] at z;cases z;exact ⟨dx,vs',upd_same,hc⟩
    · rw [C1 hb] at z;exact (S.hp b o z).mono kp (upd_ne hb)
  · have nq:q≠a:=fun x=> by
      subst x
      have:=S.ext q _ ha y
      rw [this] at z;cases z
    rw [upd_ne nq];exact S.fr q o z y t
  · by_cases hb:b=a
    · subst hb;exact S.ext b _ ha y
    · rw [C1 hb] at z;exact S.ext b o z y
  · obtain ⟨u,y⟩:=S.tr q o z;exact th q u y
  · have nq:q≠a:=fun x=> by rw [x,ha] at y;cases y
    rw [upd_ne nq];exact z
  · have nq:q≠a:=fun x=> by rw [x,ha] at y;cases y
    rw [C1 nq,y] at z;cases z
end
def aFld (n f:Str) (t:AT):AT:=fun env h Q=> t env h fun r env1 h1=> ∃a fs w,r= .val (.ref a)∧h1 a=some (.ins n fs)∧fs.lookup f=some w∧Q (.val w) env1 h1
theorem aFld.mono {n f:Str} {t:AT} (m:B3 t):B3 (aFld n f t):=fun env h Q Q' k q=> m env h _ _ (fun r e g ⟨a,fs,w,z1,z2,z3,z4⟩=> ⟨a,fs,w,z1,z2,z3,k _ _ _ z4⟩) q
def A6R (n f:Str) (to:AT):H9:=fun w env h Q=> to env h fun r env1 h1=> ∃a fs,r= .val (.ref a)∧h1 a=some (.ins n fs)∧fs.length < 1000∧Q env1 (B9 h1 a (.ins n (v5 f w fs)))
section
variable {X:Cx} {G:Gx} {o:Expr} {n f:Str} {to:AT} {pos:Pos}
theorem d8 (gk:G.K=X.K) (F:FldOk X.K n f) (ha:AE X G o to) (hb:attributeBase o f X.env (eval o X.env)=eval o X.env:=by rfl):AE X G (.Attribute o f pos) (aFld n f to):=by
  refine ⟨aFld.mono ha.mono,PE.imp (pe_fld ha.pe hb) fun σ H Q ⟨env,h,S,q⟩=> ?_⟩
  refine ⟨env,h,S,ha.mono env h _ _ (fun r env1 h1 ⟨a,fs,w,z1,z2,z3,z⟩ x H1 S1 x1 r1 _=> ?_) q⟩
  subst z1
  have ex:x= .ref a:=Rep.of_ref (K:=G.K) (H:=H1) r1
  obtain ⟨dx,vs,e,fr⟩:=S1.hp a _ z2
  obtain ⟨v,e2,rv⟩:=fr.look.1 w z3
  exact ⟨a,_,dx,vs,v,ex,gk▸e,F.cl,F.no,e2,z v H1 S1 x1 rv trivial⟩
def C6q (K:PySem.W.Frag) (to:TE) (f:Str):TG:=fun v σ H Q=> to σ H fun x H1=> ∃a C dx fs,x= .ref a∧H1 a=some (.ins C dx fs)∧Cls K C∧NoAttr K C f∧fs.length < 1000∧Q σ (upd H1 a (.ins C dx (putF f v fs)))
theorem C5D {t:TE} (ho:PE X o t):PG X (.Attribute o f pos) (C6q X.K t f):=by
  refine ⟨fun pins s σ H v u Q I r h=> ?_⟩
  refine PySem.W.kas_attr (thn (ho.run pins s σ H _ I h) fun ov s1 ⟨x,H1,I1,rx,a,C,dx,fs,ex,ea,c,n,l,q⟩=> ?_)
  subst ex
  obtain rfl:ov=Value.ref a:=rx
  exact setattr_ok I1 ea c n l r fun s2 I2=> ⟨σ,_,I2,q⟩
theorem B07 (gk:G.K=X.K) (F:FldOk X.K n f) (ho:AE X G o to):AG X G (.Attribute o f pos) [] (A6R n f to):=by
  refine ⟨fun w env h Q Q' k q=> ho.mono env h _ _ (fun r e g ⟨a,fs,z1,z2,z3,z4⟩=> ⟨a,fs,z1,z2,z3,k _ _ z4⟩) q,PG.imp (C5D ho.pe) fun v σ H Q ⟨w,env,h,rv,S,q⟩=> ?_⟩
  refine ⟨env,h,S,ho.mono env h _ _ (fun r env1 h1 ⟨a,fs,z1,z2,z3,z⟩ x H1 S1 x1 r1 _=> ?_) q⟩
  subst z1
  have ex:x= .ref a:=Rep.of_ref (K:=G.K) (H:=H1) r1
  obtain ⟨dx,vs,e,fr,put⟩:=C3x (fs':=v5 f w fs) S1 z2
  have rv1:=Rep.mono (x1.keeps S) w v rv
  obtain ⟨S2,x2⟩:=put (putF f v vs) fun kp=> (fr.mono kp).put (Rep.mono kp w v rv1)
  refine ⟨a,_,dx,vs,ex,gk▸e,F.cl,F.no,by rw [←fr.length];exact z3,?_⟩
  have z:=z σ _ S2 (x1.trans x2).xg
  rw [gk] at z
  exact z
end
structure OkM (P:Program) (w:World) (K:PySem.W.Frag) (mg:Str→Option Value) (base:Heap) (C m:Str) (st:Stmt) (k n:Nat) (ps:List Str) (kws:List (Str×V)) (sp:G1):Prop where
  sm:Q7 sp
  cl:Cls K (He.ga K C)
  ex:∃f fd,Meth K (He.ga K C) m f∧FunD K m (C++"."++m) (defArgs st) (defBody st) (defScope st) [] kws f fd∧FnOk P w K mg base (L2.CX P w) k f fd ps (P8 K n sp)
def V1 (C m:Str) (st:Stmt) (ps:List Str):Prop:=∀(kV doc pm:Value) (an:Option Addr) (cdv ct:Value) (us:List Value),us.length=ps.length→bindArgs (PySem.W.fnOf m (C++"."++m) (defArgs st) (defBody st) (defScope st) .none kV doc pm an cdv ct) ⟨us,[]⟩=pure (ps.zip us)
def kRes (Q:RV→A0→AH→Prop) (env:A0):RR→AH→Prop:=fun r h2=> match r with
  | .val w=> Q (.val w) env h2
  | .own c=> Q (.own c) env h2
def aMeth (C m:Str) (E:AExc→A0→AH→Prop) (sp:G1) (to:AT) (t:G2):AT:=fun env h Q=> to env h fun r env1 h1=> ∃a fs,r= .val (.ref a)∧h1 a=some (.ins C fs)∧fs.lookup m=none∧
  t env1 h1 fun ws env2 h2=> sp (.ref a::ws) h2 (kRes Q env2) fun x h3=> E x env2 h3
theorem kRes.imp {Q Q':RV→A0→AH→Prop} {env:A0} (k:∀r e h,Q r e h→Q' r e h) (r:RR) (h:AH) (z:kRes Q env r h):kRes Q' env r h:=by
  cases r with
  | val w=> exact k _ _ _ z
  | own c=> exact k _ _ _ z
theorem aMeth.mono {C m:Str} {E:AExc→A0→AH→Prop} {sp:G1} {to:AT} {t:G2} (sm:Q7 sp) (a:B3 to) (b:B3 t):B3 (aMeth C m E sp to t):=fun env h Q Q' k q=>
  a env h _ _ (fun r e g ⟨p,fs,z1,z2,z3,z4⟩=> ⟨p,fs,z1,z2,z3,b e g _ _ (fun ws e2 g2 z=> sm _ _ _ _ _ _ (fun r f y=> kRes.imp k r f y) (fun x f y=> y) z) z4⟩) q
section
variable {X:Cx} {G:Gx} {sp:G1} {C m:Str} {st:Stmt} {k j n:Nat} {ps:List Str} {o e:Expr} {es:List Expr} {pos apos:Pos} {to:AT} {t:G2} {E:AExc→A0→AH→Prop}
theorem A99 {ws:List W} {vs:List V} {env env2:A0} {h h2:AH} {σ:L2.St} {H H2:Hp} {Q:VK} (hl:ws.length=n) (S2:BS G env2 h2 σ H2) (x2:Xt env h σ H env2 h2 H2) (r:RepL G.K H2 ws vs)
    (z:sp ws h2 (kRes (fun r e g=> ∀v H',BS G e g σ H'→Xt env h σ H e g H'→RvRep G e g σ H' r v→R0 H r v→Q v H') env2) fun x h3=> E x env2 h3):P8 G.K n sp vs H2 Q (WE (cW G E) σ):=by
  refine ⟨ws,h2,_,_,hl,S2.hp,S2.tabs,r,z,fun r h' v H' y c rr=> ?_,fun x h' cls d H' y c xr=> ?_⟩
  · obtain ⟨S3,x3⟩:=S2.after c
    cases r with
    | val w=> exact y v H' S3 (x2.trans x3) rr trivial
    | own c0=>
      obtain ⟨p,e,cr,a,b⟩:=rr
      have nw:H2 p=none:=b
      obtain ⟨_,g0,no⟩:=S2.noAt nw
      exact y v H' S3 (x2.trans x3) ⟨p,e,cr,a,g0,no⟩ fun p' e'=> by
        rw [e] at e';cases e';exact x2.fresh nw
  · obtain ⟨S3,x3⟩:=S2.after c
    exact ⟨x,env2,h',S3,xr,y⟩
theorem B1K {env:A0} {h:AH} {σ:L2.St} {H:Hp} (gk:G.K=X.K) (S:BS G env h σ H) {a:Addr} {fs:List (Str×W)} (e:h a=some (.ins C fs)) (l:fs.lookup m=none):∃dx vs,H a=some (.ins (He.ga X.K C) dx vs)∧vs.lookup m=none:=by
  obtain ⟨dx,vs,e,fr⟩:=S.hp a _ e
  exact ⟨dx,vs,gk▸e,fr.look.2 l⟩
theorem x9 {pl:Sem Bool} (gk:G.K=X.K) (O:OkM X.prog X.w X.K X.mg X.base C m st k (n+1) ps [] sp) (bd:V1 C m st ps) (hr:Room j X.A) (kj:k≤j) (tk:Takes X (cW G E)) (ho:AE X G o to) (ha:AN X G (e::es) n t)
    (hst:starEach (e::es) X.env=(false,eval e X.env)::starEach es X.env:=by rfl) (hpl:(backTo pos (starEach es X.env)).any (·.1)=false:=by rfl)
    (ht:eval (.Call (.Attribute o m apos) (e::es) [] pos) X.env=(do
      let ov ←eval o X.env
      standAt apos.atName
      let (f,first) ←holding [ov] (getMethod ov m pl)
      callWith pos f first (backTo pos (starEach (e::es) X.env)) (backToKw pos (keywordEach [] X.env))):=by rfl):
    AE X G (.Call (.Attribute o m apos) (e::es) [] pos) (aMeth C m E sp to t):=by
  obtain ⟨f,fd,M,FD,F⟩:=O.ex
  have F:FnOk X.prog X.w X.K X.mg X.base (L2.CX X.prog X.w) k f fd ps (P8 G.K (n+1) sp):=gk▸F
  refine ⟨aMeth.mono O.sm ho.mono ha.aa.mono,⟨fun pins s σ H Q I ⟨env,h,S,q⟩=> ?_⟩⟩
  refine PySem.W.methodCall_KW (pl:=pl) (thn (ho.pe.run pins s σ H (fun x H1=> ∃a dx vs,x= .ref a∧H1 a=some (.ins (He.ga X.K C) dx vs)∧vs.lookup m=none∧cA G t σ H1 fun us H2=> P8 G.K (n+1) sp (.ref a::us) H2 Q (WE (cW G E) σ)) I ⟨env,h,S,ho.mono env h _ _ (fun r env1 h1 ⟨a,fs,z1,z2,z3,z⟩ x H1 S1 x1 r1 _=> ?_) q⟩) fun u s1 ⟨x,H1,I1,rx,a,dx,vs,ex,ea,l,q⟩=> ?_) ht
  · subst ex
    obtain rfl:u=Value.ref a:=rx
    refine getmeth_ok I1 ea O.cl M l ?_
    refine PySem.W.callWith_K (first:=[.ref a]) (h₀:=X.base) I.ok.mod.kin M.kp (thn (ha.aa.pa.run pos pins s1 σ H1 _ I1 q) fun us s2 ⟨vs,H2,I2,r,q2⟩=> ⟨I2.kIn,?_⟩) hst hpl
    exact run_fnSD (us:= .ref a::us) (vs:= .ref a::vs) (dvs:=[]) (ds:=[]) F (hr.mono kj) (FD.bindsN bd) .nil (passAt tk σ) I2 (.cons rfl r) (by rw [List.append_nil];exact q2)
  · subst z1
    obtain ⟨dx,vs,ea,l⟩:=B1K gk S1 z2 z3
    refine ⟨a,dx,vs,Rep.of_ref (K:=G.K) (H:=H1) r1,ea,l,env1,h1,S1,ha.aa.mono env1 h1 _ _ (fun ws env2 h2 ⟨hl,z⟩ us H2 S2 x2 r2=> ?_) (ha.ln env1 h1 _ z)⟩
    exact A99 (by rw [List.length_cons,hl]) S2 (x1.trans x2) (.cons .ref r2) z
theorem C2P {pl:Sem Bool} (gk:G.K=X.K) (O:OkM X.prog X.w X.K X.mg X.base C m st k 1 ps [] sp) (bd:V1 C m st ps) (hr:Room j X.A) (kj:k≤j) (tk:Takes X (cW G E)) (ho:AE X G o to)
    (ht:eval (.Call (.Attribute o m apos) [] [] pos) X.env=(do
      let ov ←eval o X.env
      standAt apos.atName
      let (f,first) ←holding [ov] (getMethod ov m pl)
      callWith pos f first (backTo pos (starEach [] X.env)) (backToKw pos (keywordEach [] X.env))):=by rfl):
    AE X G (.Call (.Attribute o m apos) [] [] pos) (aMeth C m E sp to aNil):=by
  obtain ⟨f,fd,M,FD,F⟩:=O.ex
  have F:FnOk X.prog X.w X.K X.mg X.base (L2.CX X.prog X.w) k f fd ps (P8 G.K 1 sp):=gk▸F
  refine ⟨aMeth.mono O.sm ho.mono aNil.mono,⟨fun pins s σ H Q I ⟨env,h,S,q⟩=> ?_⟩⟩
  refine PySem.W.methodCall_KW (pl:=pl) (thn (ho.pe.run pins s σ H (fun x H1=> ∃a dx vs,x= .ref a∧H1 a=some (.ins (He.ga X.K C) dx vs)∧vs.lookup m=none∧P8 G.K 1 sp [.ref a] H1 Q (WE (cW G E) σ)) I ⟨env,h,S,ho.mono env h _ _ (fun r env1 h1 ⟨a,fs,z1,z2,z3,z⟩ x H1 S1 x1 r1 _=> ?_) q⟩) fun u s1 ⟨x,H1,I1,rx,a,dx,vs,ex,ea,l,q⟩=> ?_) ht
  · subst ex
    obtain rfl:u=Value.ref a:=rx
    refine getmeth_ok I1 ea O.cl M l ?_
    exact PySem.W.callWith_K0 (first:=[.ref a]) I1.kIn M.kp (run_fnSD (us:=[.ref a]) (vs:=[.ref a]) (dvs:=[]) (ds:=[]) F (hr.mono kj) (FD.bindsN bd) .nil (passAt tk σ) I1 (.cons rfl .nil) q)
  · subst z1
    obtain ⟨dx,vs,ea,l⟩:=B1K gk S1 z2 z3
    exact ⟨a,dx,vs,Rep.of_ref (K:=G.K) (H:=H1) r1,ea,l,A99 rfl S1 x1 (.cons .ref .nil) z⟩
end
structure MkC (K:PySem.W.Frag) (mg:Str→Option Value) (n:Str):Prop where
  gl:mg n=some (.ref (He.ga K n))
  makes:PySem.W.makesIn K (He.ga K n)=true
  kp:PySem.W.keepIn K (.ref (He.ga K n))=true
def kMk (Q:RV→A0→AH→Prop) (env:A0) (a:Addr):RR→AH→Prop:=fun r h2=> r= .val .non∧Q (.val (.ref a)) env h2
def aMake (C:Str) (E:AExc→A0→AH→Prop) (sp:G1) (t:G2):AT:=fun env h Q=> t env h fun ws env1 h1=> ∀a,h1 a=none→sp (.ref a::ws) (B9 h1 a (.ins C [])) (kMk Q env1 a) fun x h3=> E x env1 h3
theorem aMake.mono {C:Str} {E:AExc→A0→AH→Prop} {sp:G1} {t:G2} (sm:Q7 sp) (b:B3 t):B3 (aMake C E sp t):=fun env h Q Q' k q=>
  b env h _ _ (fun ws e g z a n=> sm _ _ _ _ _ _ (fun r f y=> ⟨y.1,k _ _ _ y.2⟩) (fun x f y=> y) (z a n)) q
section
variable {G:Gx} {env:A0} {h:AH} {σ:L2.St} {H:Hp}
theorem BS.made (S:BS G env h σ H) {a dx:Addr} {C:Str} (n:H a=none) (nd:H dx=none) (ne:dx≠a):
    BS G env (B9 h a (.ins C [])) σ (upd (upd H dx (.own a)) a (.ins (He.ga G.K C) dx []))∧Xt env h σ H env (B9 h a (.ins C [])) (upd (upd H dx (.own a)) a (.ins (He.ga G.K C) dx [])):=by
  have nw:New H (upd (upd H dx (.own a)) a (.ins (He.ga G.K C) dx [])):=fun p o e=> by
    have n1:p≠a:=fun z=> by rw [z,n] at e;cases e
    have n2:p≠dx:=fun z=> by rw [z,nd] at e;cases e
    rw [upd_ne n1,upd_ne n2];exact e
  have S1:=nw.bs S
  obtain ⟨ha,h0,no⟩:=S.noAt n
  refine ⟨⟨S1.len,S1.val,fun i c e=> ?_,S1.uni,fun b o e=> ?_,S1.fr,fun b o e y=> ?_,S1.tr,S1.tabs⟩,⟨fun p o e _ _ _=> nw p o e,fun p o e y=> ?_,fun p o e=> ⟨o,nw p o e⟩,fun i c e=> ⟨c,e⟩⟩⟩
  · obtain ⟨p,x,y,z,w⟩:=S1.own i c e
    have np:p≠a:=fun q=> no ⟨i,c,e,q▸x⟩
    exact ⟨p,x,y,by rw [C1 np];exact z,w⟩
  · by_cases hb:b=a
    · subst hb;rw [M6] at e;cases e;exact ⟨dx,[],upd_same,rfl,.nil⟩
    · rw [C1 hb] at e;exact S1.hp b o e
  · by_cases hb:b=a
    · subst hb;exact h0
    · rw [C1 hb] at e;exact S1.ext b o e y
  · by_cases hb:p=a
    · subst hb;exact n
    · rw [C1 hb,y] at e;cases e
end
section
variable {X:Cx} {G:Gx} {sp:G1} {C:Str} {st:Stmt} {k j n:Nat} {ps:List Str} {e:Expr} {es:List Expr} {pos p:Pos} {t:G2} {E:AExc→A0→AH→Prop}
theorem C1C {CX:CXT} {sp:Sp} {C f:Addr} {fd:FuncData} {pins:List (Addr×Obj)} {σ:L2.St} {H:Hp} {s:Shared} {Q:VK} {E:XK} {us:List Value} {vs:List V} (M:Mk X.K C f) (F:FnOk X.prog X.w X.K X.mg X.base CX k f fd ps sp) (hr:Room (k+1) X.A) (hb:Binds X.K fd ps [])
    (hx:PassesAt CX X σ E) (I:Inv X pins σ H s) (r:Vals vs us)
    (h:∀x dx,H x=none→H dx=none→dx≠x→sp (.ref x::vs) (upd (upd H dx (.own x)) x (.ins C dx [])) (fun v H2=> v= .non∧Q (.ref x) H2) E):
    wpAny (model X.prog X.w) X.A (call (.ref C) us) (EP X pins σ Q) X.xe s:=by
  have hq:=h (s.heap.objs.size+1) s.heap.objs.size (I.hok.fresh (Nat.le_succ _)) (I.hok.fresh (Nat.le_refl _)) (Nat.ne_of_lt (Nat.lt_succ_self _))
  have I2:=Inv.made (C:=C) I
  have r2:Vals (V.ref (s.heap.objs.size+1)::vs) (Value.ref (s.heap.objs.size+1)::us):= .cons rfl r
  have hl:(Value.ref (s.heap.objs.size+1)::us).length=ps.length:=by
    have e:=r2.length
    rw [F.len _ _ _ _ hq] at e
    exact e.symm
  refine wpAny_call (make_map (f:=f) I.kIn M.makes M.init (beq_iff_eq.mp M.fn) (codeAny_mono (F.run _ X.stack _ _ ⟨Value.ref (s.heap.objs.size+1)::us,[]⟩ (Value.ref (s.heap.objs.size+1)::us) _ _ E (hr.make C us [])
    (I2.env0.make C us []) (by have z:=hb _ (Value.ref (s.heap.objs.size+1)::us) I2.kIn (by rw [List.append_nil];exact hl);rw [List.append_nil] at z;exact z) r2 hq) fun r s' hq'=> ?_))
  cases r with
  | error e=> exact hx pins _ _ e s' I2 hq'
  | ok fl=>
    cases fl with
    | ret u=>
      obtain ⟨v,H',I3,rv,ev,q3⟩:=I2.after hq'
      subst ev
      exact ⟨rv,⟨V.ref (s.heap.objs.size+1),H',I3,rfl,q3⟩⟩
    | next=> exact False.elim hq'
    | brk=> exact False.elim hq'
    | cont=> exact False.elim hq'
theorem C19 {ws:List W} {vs:List V} {env env1:A0} {h h1:AH} {σ:L2.St} {H H1:Hp} {Q:VK} (hl:ws.length=n) (S1:BS G env1 h1 σ H1) (x1:Xt env h σ H env1 h1 H1) (r:RepL G.K H1 ws vs)
    (z:∀a,h1 a=none→sp (.ref a::ws) (B9 h1 a (.ins C [])) (kMk (fun r e g=> ∀v H',BS G e g σ H'→Xt env h σ H e g H'→RvRep G e g σ H' r v→R0 H r v→Q v H') env1 a) fun x h3=> E x env1 h3):
    ∀x dx,H1 x=none→H1 dx=none→dx≠x→P8 G.K (n+1) sp (.ref x::vs) (upd (upd H1 dx (.own x)) x (.ins (He.ga G.K C) dx [])) (fun v H2=> v= .non∧Q (.ref x) H2) (WE (cW G E) σ):=fun a dx na nd ne=> by
  obtain ⟨ha,_,_⟩:=S1.noAt na
  obtain ⟨S2,x2⟩:=S1.made (C:=C) na nd ne
  refine ⟨.ref a::ws,_,_,_,by rw [List.length_cons,hl],S2.hp,S2.tabs,.cons .ref (RepL.mono (x2.keeps S1) _ _ r),z a ha,fun r h' v H' ⟨y1,y⟩ c rr=> ?_,fun x h' cls d H' y c xr=> ?_⟩
  · obtain ⟨S3,x3⟩:=S2.after c
    subst y1
    exact ⟨Rep.of_non (K:=G.K) (H:=H') rr,y (.ref a) H' S3 (x1.trans (x2.trans x3)) (show Rep G.K H' (.ref a) (.ref a) from .ref) trivial⟩
  · obtain ⟨S3,x3⟩:=S2.after c
    exact ⟨x,env1,h',S3,xr,y⟩
theorem C22 (gk:G.K=X.K) (MC:MkC X.K X.mg C) (O:OkM X.prog X.w X.K X.mg X.base C "__init__" st k (n+1) ps [] sp) (bd:V1 C "__init__" st ps) (hr:Room j X.A) (kj:k+1≤j) (hg:Gl X C) (tk:Takes X (cW G E)) (ha:AN X G (e::es) n t)
    (hdb:(C==("__debug__":Str))=false:=by decide) (he:starEach (e::es) X.env=(false,eval e X.env)::starEach es X.env:=by rfl) (hpl:(backTo pos (starEach es X.env)).any (·.1)=false:=by rfl):
    AE X G (.Call (.Name C p) (e::es) [] pos) (aMake C E sp t):=by
  obtain ⟨f,fd,M,FD,F⟩:=O.ex
  have F:FnOk X.prog X.w X.K X.mg X.base (L2.CX X.prog X.w) k f fd ps (P8 G.K (n+1) sp):=gk▸F
  refine ⟨aMake.mono O.sm ha.aa.mono,⟨fun pins s σ H Q I ⟨env,h,S,q⟩=> ?_⟩⟩
  refine wpAny_Call_Name_kw (ld_glob I hg MC.gl ?_ hdb)
  refine PySem.W.callWith_K (h₀:=X.base) I.ok.mod.kin MC.kp (thn (ha.aa.pa.run pos pins s σ H (fun vs H1=> ∀x dx,H1 x=none→H1 dx=none→dx≠x→P8 G.K (n+1) sp (.ref x::vs) (upd (upd H1 dx (.own x)) x (.ins (He.ga X.K C) dx [])) (fun v H2=> v= .non∧Q (.ref x) H2) (WE (cW G E) σ)) I
    ⟨env,h,S,ha.aa.mono env h _ _ (fun ws env1 h1 ⟨hl,z⟩ vs H1 S1 x1 r1=> ?_) (ha.ln env h _ q)⟩) fun us s1 ⟨vs,H1,I1,r,q⟩=> ⟨I1.kIn,?_⟩) he hpl
  · exact C1C ⟨MC.makes,M.at_,M.fn,MC.kp⟩ F (hr.mono kj) (FD.bindsN bd) (passAt tk σ) I1 r q
  · rw [←gk]
    exact C19 hl S1 x1 r1 z
end
section
variable {P:Program} {w:World} {K:PySem.W.Frag} {mg:Str→Option Value} {base:Heap} {C m:Str} {st:Stmt} {f:Addr} {fd:FuncData} {N ps:List Str} {k n:Nat} {kws:List (Str×V)} {sp:G1}
theorem OkM.mk' {t:(AExc→A0→AH→Prop)→C0} (sm:Q7 sp) (cl:Cls K (He.ga K C)) (M:Meth K (He.ga K C) m f) (F:FunD K m (C++"."++m) (defArgs st) (defBody st) (defScope st) [] kws f fd) (S:FnScope N ps (defScope st)) (hn:ps.length=n)
    (hb:∀(cdv:Value) (A:Around) (outer:List Env) (s:Shared) (H:Hp) (E:XK) (G:Gx) (E':AExc→A0→AH→Prop),Room k (A.deeper (envOfC (C++"."++m) (defScope st) s.heap.objs.size f cdv))→G.K=K→Takes (bx P w K mg base N (C++"."++m) (defScope st) f cdv A outer s H E) (cW G E')→
      ASs (bx P w K mg base N (C++"."++m) (defScope st) f cdv A outer s H E) G (defBody st) (t E'))
    (hq:∀ws h Qa Ea,ws.length=n→sp ws h Qa Ea→t (C4 Ea) (B6 Qa) (G8 N.length ws) h):OkM P w K mg base C m st (k+1) n ps kws sp:=
  ⟨sm,cl,f,fd,M,F,B1O [] kws F S hn hb hq⟩
end
end Ab
namespace Ab
open PySem PySem.Spec PyProof.Rows L2 RZ
def smap (l:List (Str×W)):List (W×W):=l.map fun p=> (W.str p.1,p.2)
def Q9 (l:List (Str×W)) (s:Str) (w:W):List (Str×W):=if (l.any fun p=> decide (p.1=s))=true then l.map (fun p=> if p.1=s then (p.1,w) else p) else l++[(s,w)]
def W4 (l:List (Str×W)) (s:Str):List (Str×W):=l.filter fun p=> decide (p.1≠s)
abbrev O2 (l:List (Str×W)):W:=(Cont.map (smap l)).fz
section
variable {K:PySem.W.Frag} {H:Hp}
theorem B4L (l:List (Str×W)):((smap l).map (·.1)).map A0y=l.map fun q=> some (Sum.inr q.1):=by
  simp only [smap,List.map_map];rfl
theorem A5L (l:List (Str×W)):(smap l).map (·.2)=l.map (·.2):=by
  simp only [smap,List.map_map];rfl
theorem B3S {α:Type}:∀{a b:List α},a.map some=b.map some→a=b
  | [],[],_=> rfl
  | [],_::_,e=> by cases e
  | _::_,[],e=> by cases e
  | x::a,y::b,e=> by
    rw [List.map_cons,List.map_cons] at e
    injection e with e1 e2
    rw [Option.some.inj e1,B3S e2]
theorem A72 {l:List (Str×W)} {ks:List (Key×V)} (e:((smap l).map (·.1)).map A0y=ks.map (fun q=> some q.1)):ks.map (·.1)=l.map fun q=> Sum.inr q.1:=by
  rw [B4L] at e
  have z:(ks.map (·.1)).map some=(l.map fun q=> (Sum.inr q.1:Key)).map some:=by
    rw [List.map_map,List.map_map];exact e.symm
  exact B3S z
theorem A8m {l:List (Str×W)} {ks:List (List Key×V)} (e:∃r,(smap l).map (·.1)= .lst []::r∧r.map B2K=ks.map (fun q=> some q.1)):False:=by
  obtain ⟨r,e,_⟩:=e
  cases l with
  | nil=> cases e
  | cons p l=> cases e
theorem A2L {p:Addr} {l:List (Str×W)} (h:CRep K H p (.map (smap l))):∃ks,H p=some (.dK ks)∧ks.map (·.1)=l.map (fun q=> Sum.inr q.1)∧RepL K H (l.map (·.2)) (ks.map (·.2)):=by
  rcases h with ⟨ks,e,a,b⟩ | ⟨ks,e,a,b⟩
  · exact ⟨ks,e,A72 a,A5L l▸b⟩
  · exact (A8m a).elim
theorem A54 {p:Addr} {l:List (Str×W)} {ks:List (Key×V)} (e:H p=some (.dK ks)) (a:ks.map (·.1)=l.map (fun q=> Sum.inr q.1)) (b:RepL K H (l.map (·.2)) (ks.map (·.2))):CRep K H p (.map (smap l)):=by
  refine .inl ⟨ks,e,?_,(A5L l).symm▸b⟩
  rw [B4L]
  have z:=congrArg (List.map some) a
  rw [List.map_map,List.map_map] at z
  exact z.symm
theorem VR.smap {v:Vw} {x:V} {l:List (Str×W)} (r:VR K H v x) (e:v.toW=O2 l):∃p ks,x= .ref p∧Rd H p (.dK ks)∧ks.map (·.1)=l.map (fun q=> Sum.inr q.1)∧RepL K H (l.map (·.2)) (ks.map (·.2)):=by
  cases v with
  | bad=> cases e
  | cv c=>
    cases c with
    | seq ws=> cases e
    | map kvs=>
      obtain ⟨p,ex,c⟩:=r
      have e1:kvs.map (·.1)=(Ab.smap l).map (·.1):=by injection e
      have e2:kvs.map (·.2)=(Ab.smap l).map (·.2):=by injection e
      rcases c with ⟨ks,a,b,d⟩ | ⟨ks,a,b,d⟩
      · rw [e1] at b;rw [e2,A5L] at d
        exact ⟨p,ks,ex,.inl a,A72 b,d⟩
      · rw [e1] at b
        exact (A8m b).elim
  | wv w=>
    have e:w=O2 l:=e
    subst e
    have z:Rep K H (.dct ((Ab.smap l).map (·.1)) ((Ab.smap l).map (·.2))) x:=r
    simp only [Rep] at z
    obtain ⟨p,ex,⟨o,ks,a,b,d⟩ | ⟨o,ks,a,b,d⟩⟩:=z
    · rw [A5L] at d
      exact ⟨p,ks,ex,.inr ⟨o,a⟩,A72 b,d⟩
    · exact (A8m b).elim
theorem A31 {s:Str}:∀{l:List (Str×W)} {ks:List (Key×V)},ks.map (·.1)=l.map (fun q=> Sum.inr q.1)→RepL K H (l.map (·.2)) (ks.map (·.2))→
    (l.lookup s=none∧valV ks (.inr s)=none)∨∃w v,l.lookup s=some w∧valV ks (.inr s)=some v∧Rep K H w v
  | [],[],_,_=> .inl ⟨rfl,rfl⟩
  | [],_::_,e,_=> by cases e
  | _::_,[],e,_=> by cases e
  | p::l,q::ks,e,r=> by
    rw [List.map_cons,List.map_cons] at e
    injection e with e1 e2
    obtain ⟨v,r1,e3,a,b⟩:=RepL.of_cons (w:=p.2) (ws:=l.map (·.2)) r
    rw [List.map_cons] at e3
    injection e3 with e3 e4
    subst e3 e4
    obtain ⟨g,w⟩:=p
    simp only [List.lookup]
    by_cases hs:s=g
    · subst hs
      rw [valV_pos e1]
      simp only [beq_self_eq_true]
      exact .inr ⟨w,q.2,rfl,rfl,a⟩
    · rw [valV_neg (show ¬q.1= .inr s from fun z=> hs (by rw [e1] at z;injection z with z;exact z.symm))]
      have hb:(s==g)=false:=beq_eq_false_iff_ne.mpr hs
      simp only [hb]
      exact A31 e2 b
theorem B4Z {s:Str}:∀{l:List (Str×W)} {ks:List (Key×V)},ks.map (·.1)=l.map (fun q=> Sum.inr q.1)→(ks.any fun kv=> decide (kv.1= .inr s))=l.any fun p=> decide (p.1=s)
  | [],[],_=> rfl
  | [],_::_,e=> by cases e
  | _::_,[],e=> by cases e
  | p::l,q::ks,e=> by
    rw [List.map_cons,List.map_cons] at e
    injection e with e1 e2
    rw [List.any_cons,List.any_cons,B4Z e2,e1]
    simp only [Sum.inr.injEq]
theorem B4c {s:Str} {w:W} {v:V} {l:List (Str×W)} {ks:List (Key×V)} (e:ks.map (·.1)=l.map (fun q=> Sum.inr q.1)) (r:RepL K H (l.map (·.2)) (ks.map (·.2))) (rw0:Rep K H w v):
    (putK ks (.inr s) v).map (·.1)=(Q9 l s w).map (fun q=> Sum.inr q.1)∧RepL K H ((Q9 l s w).map (·.2)) ((putK ks (.inr s) v).map (·.2)):=by
  unfold putK Q9
  rw [B4Z e]
  by_cases g:(l.any fun p=> decide (p.1=s))=true
  · rw [if_pos g,if_pos g]
    clear g
    induction l generalizing ks with
    | nil=>
      cases ks with
      | nil=> exact ⟨rfl,.nil⟩
      | cons q ks=> cases e
    | cons p l ih=>
      cases ks with
      | nil=> cases e
      | cons q ks=>
        rw [List.map_cons,List.map_cons] at e
        injection e with e1 e2
        obtain ⟨v',r1,e3,a,b⟩:=RepL.of_cons (w:=p.2) (ws:=l.map (·.2)) r
        rw [List.map_cons] at e3
        injection e3 with e3 e4
        subst e3 e4
        obtain ⟨i1,i2⟩:=ih e2 b
        by_cases hs:p.1=s
        · have hq:q.1= .inr s:=by rw [e1,hs]
          simp only [List.map_cons,if_pos hs,if_pos hq]
          exact ⟨by rw [i1,e1],.cons rw0 i2⟩
        · have hq:¬q.1= .inr s:=fun z=> hs (by rw [e1] at z;injection z)
          simp only [List.map_cons,if_neg hs,if_neg hq]
          exact ⟨by rw [i1,e1],.cons a i2⟩
  · rw [if_neg g,if_neg g,List.map_append,List.map_append,List.map_append,List.map_append]
    exact ⟨by rw [e];rfl,r.append (.cons rw0 .nil)⟩
theorem A90 {s:Str}:∀{l:List (Str×W)} {ks:List (Key×V)},ks.map (·.1)=l.map (fun q=> Sum.inr q.1)→RepL K H (l.map (·.2)) (ks.map (·.2))→
    (dropK ks (.inr s)).map (·.1)=(W4 l s).map (fun q=> Sum.inr q.1)∧RepL K H ((W4 l s).map (·.2)) ((dropK ks (.inr s)).map (·.2))
  | [],[],_,_=> ⟨rfl,.nil⟩
  | [],_::_,e,_=> by cases e
  | _::_,[],e,_=> by cases e
  | p::l,q::ks,e,r=> by
    rw [List.map_cons,List.map_cons] at e
    injection e with e1 e2
    obtain ⟨v',r1,e3,a,b⟩:=RepL.of_cons (w:=p.2) (ws:=l.map (·.2)) r
    rw [List.map_cons] at e3
    injection e3 with e3 e4
    subst e3 e4
    obtain ⟨i1,i2⟩:=A90 (s:=s) e2 b
    unfold dropK W4 at i1 i2 ⊢
    by_cases hs:p.1=s
    · have hq:q.1= .inr s:=by rw [e1,hs]
      rw [List.filter_cons_of_neg (p:=fun p:Str×W=> decide (p.1≠s)) (by simp [hs]),List.filter_cons_of_neg (p:=fun kv:Key×V=> decide (kv.1≠Sum.inr s)) (by rw [hq];simp)]
      exact ⟨i1,i2⟩
    · have hq:¬q.1= .inr s:=fun z=> hs (by rw [e1] at z;injection z)
      rw [List.filter_cons_of_pos (p:=fun p:Str×W=> decide (p.1≠s)) (by simp [hs]),List.filter_cons_of_pos (p:=fun kv:Key×V=> decide (kv.1≠Sum.inr s)) (decide_eq_true hq)]
      exact ⟨by rw [List.map_cons,List.map_cons,i1,e1],.cons a i2⟩
end
def inM (neg:Bool) (v:Vw) (w:W) (Q:RV→Prop):Prop:=∃l s,v.toW=O2 l∧w= .str s∧Q (.val (.bl (if neg=true then !(l.lookup s).isSome else (l.lookup s).isSome)))
def aInM (neg:Bool) (tk:D3) (to:AT):AT:=fun env h Q=> tk env h fun w env1 h1=> to env1 h1 fun r env2 h2=> inM neg (view env2 h2 r) w fun x=> Q x env2 h2
theorem aInM.mono {neg:Bool} {tk:D3} {to:AT} (m:B3 tk) (n:B3 to):B3 (aInM neg tk to):=fun env h Q Q' k q=> m env h _ _ (fun w e g z=> n e g _ _ (fun r e g ⟨l,s,z1,z2,z3⟩=> ⟨l,s,z1,z2,k _ _ _ z3⟩) z) q
section
variable {X:Cx} {G:Gx} {o k e:Expr} {pos pos':Pos} {tk tv:D3} {to:AT}
theorem B5Y {neg:Bool} {σ:L2.St} {H:Hp} {Q:VK} (mk:B3 tk) (mo:B3 to) (q:cE G (aInM neg tk to) σ H Q):
    cV G tk σ H fun y H1=> cE G to σ H1 fun x H2=> ∃a o,x= .ref a∧DGet H2 a y o∧Q (.bl (if neg=true then !o.isSome else o.isSome)) H2:=by
  obtain ⟨env,h,S,q⟩:=q
  refine ⟨env,h,S,mk env h _ _ (fun w env1 h1 z y H1 S1 x1 r1=> ?_) q⟩
  refine ⟨env1,h1,S1,mo env1 h1 _ _ (fun r env2 h2 ⟨l,s,z1,z2,zz⟩ x H2 S2 x2 r2 f2=> ?_) z⟩
  obtain ⟨p,ks,ex,rd,e1,e2⟩:=(r2.vr S2).smap z1
  subst z2
  have ey:y= .str s:=Rep.of_str (K:=G.K) (H:=H1) r1
  subst ey
  refine ⟨p,valV ks (.inr s),ex,.inl ⟨ks,.inr s,rd,rfl,rfl⟩,?_⟩
  have eq:(valV ks (.inr s)).isSome=(l.lookup s).isSome:=by
    rcases A31 (s:=s) e1 e2 with ⟨a,b⟩ | ⟨w,v,a,b,_⟩ <;> rw [a,b] <;> rfl
  rw [eq]
  exact zz _ H2 S2 (x1.trans x2) (Rep.bl (K:=G.K) (H:=H2)) trivial
theorem B5A {neg:Bool} {σ:L2.St} {H:Hp} {Q:Bool→Hp→Prop} (mk:B3 tk) (mo:B3 to) (q:cT G (aTst (aInM neg tk to)) σ H Q):cE G (aInM neg tk to) σ H fun v H'=> ∃b,v= .bl b∧Q b H':=by
  obtain ⟨env,h,S,q⟩:=q
  refine ⟨env,h,S,mk env h _ _ (fun w env1 h1 z=> mo env1 h1 _ _ (fun r env2 h2 ⟨l,s,z1,z2,z⟩=> ⟨l,s,z1,z2,fun v H1 S1 x1 r1 _=> ?_⟩) z) q⟩
  exact ⟨_,Rep.of_bl (K:=G.K) (H:=H1) r1,z H1 S1 x1⟩
theorem B6E (hu:X.A.units+64 < cLine) (hk:AV X G k tk) (ho:AE X G o to) (h1:behindInMarks .In o=false:=by rfl):AP X G (.Compare k [.In] [o] pos) (aTst (aInM false tk to)):=
  ⟨aTst.mono (aInM.mono hk.mono ho.mono),PT.imp (pt_cmp (pc_din (by omega) hk.pe ho.pe) h1) fun σ H Q q=> B5Y hk.mono ho.mono (B5A hk.mono ho.mono q)⟩
theorem B5v (hu:X.A.units+64 < cLine) (hk:AV X G k tk) (ho:AE X G o to) (h1:behindInMarks .NotIn o=false:=by rfl):AP X G (.Compare k [.NotIn] [o] pos) (aTst (aInM true tk to)):=
  ⟨aTst.mono (aInM.mono hk.mono ho.mono),PT.imp (pt_cmp (pc_dnotin (by omega) hk.pe ho.pe) h1) fun σ H Q q=> B5Y hk.mono ho.mono (B5A hk.mono ho.mono q)⟩
def A6P (v:Vw) (w:W) (Q:RV→Prop):Prop:=∃l s u,v.toW=O2 l∧w= .str s∧l.lookup s=some u∧Q (.val u)
def aGetM (to:AT) (tk:D3):AT:=fun env h Q=> to env h fun r env1 h1=> tk env1 h1 fun w env2 h2=> A6P (view env2 h2 r) w fun x=> Q x env2 h2
theorem aGetM.mono {tk:D3} {to:AT} (n:B3 to) (m:B3 tk):B3 (aGetM to tk):=fun env h Q Q' k q=> n env h _ _ (fun r e g z=> m e g _ _ (fun w e g ⟨l,s,u,z1,z2,z3,z4⟩=> ⟨l,s,u,z1,z2,z3,k _ _ _ z4⟩) z) q
theorem A1z (hu:X.A.units+64 < cLine) (ho:AE X G o to) (hk:AV X G k tk) (hs:NoSl k):AE X G (.Subscript o k pos) (aGetM to tk):=by
  refine ⟨aGetM.mono ho.mono hk.mono,PE.imp (pe_dget (by omega) ho.pe hk.pe hs) fun σ H Q ⟨env,h,S,q⟩=> ?_⟩
  refine ⟨env,h,S,ho.mono env h _ _ (fun r env1 h1 z x H1 S1 x1 r1 f1=> ?_) q⟩
  refine ⟨env1,h1,S1,hk.mono env1 h1 _ _ (fun w env2 h2 ⟨l,s,u,z1,z2,z3,z⟩ y H2 S2 x2 r2=> ?_) z⟩
  obtain ⟨p,ks,ex,rd,e1,e2⟩:=((r1.xt S1 x2).vr S2).smap z1
  subst z2
  have ey:y= .str s:=Rep.of_str (K:=G.K) (H:=H2) r2
  subst ey
  rcases A31 (s:=s) e1 e2 with ⟨a,b⟩ | ⟨w,v,a,b,rv⟩
  · rw [a] at z3;cases z3
  · rw [a] at z3;cases z3
    exact ⟨p,v,ex,.inl ⟨ks,.inr s,rd,rfl,b.symm⟩,z v H2 S2 (x1.trans x2) rv trivial⟩
def B18 (env:A0) (h:AH) (r:RV) (w v:W) (K:A0→AH→Prop):Prop:=∃l s,O3 env h r=some (.map (smap l))∧w= .str s∧l.length < sizeLine∧K (v4 env r (.map (smap (Q9 l s v)))) (v7 h r (.map (smap (Q9 l s v))))
def A8n (tv:D3) (to:AT) (tk:D3):C0:=fun D env h=> tv env h fun v env1 h1=> to env1 h1 fun r env2 h2=> tk env2 h2 fun w env3 h3=> B18 env3 h3 r w v D.nx
theorem B5N (hu:X.A.units+64 < cLine) (hv:AV X G e tv) (ho:AE X G o to) (hk:AV X G k tk) (hs:swapsWith e (some (.Subscript o k pos')) pos.line X.env=pure false:=by rfl):
    AS X G (.Assign [.Subscript o k pos'] e pos) (A8n tv to tk):=by
  refine ⟨fun D D' env h l q=> hv.mono env h _ _ (fun v e1 h1 z=> ho.mono e1 h1 _ _ (fun r e2 h2 z=> hk.mono e2 h2 _ _ (fun w e3 h3 ⟨l',s,z1,z2,z3,z4⟩=> ⟨l',s,z1,z2,z3,l.nx _ _ z4⟩) z) z) q,PS.imp (ps_dput (by omega) ho.pe hk.pe hv.pe hs) fun D σ H ⟨env,h,Da,S,q,l⟩=> ?_⟩
  refine ⟨env,h,S,hv.mono env h _ _ (fun v env1 h1 z vv H1 S1 x1 r1=> ?_) q⟩
  refine ⟨env1,h1,S1,ho.mono env1 h1 _ _ (fun r env2 h2 z x H2 S2 x2 r2 f2=> ?_) z⟩
  refine ⟨env2,h2,S2,hk.mono env2 h2 _ _ (fun w env3 h3 ⟨l',s,z1,z2,z3,z⟩ y H3 S3 x3 r3=> ?_) z⟩
  subst z2
  have ey:y= .str s:=Rep.of_str (K:=G.K) (H:=H3) r3
  subst ey
  obtain ⟨p,ex,cr,put⟩:=A0m S3 (r2.xt S2 x3) z1
  obtain ⟨ks,e0,e1,e2⟩:=A2L cr
  have lk:ks.length=l'.length:=by have:=congrArg List.length e1;simpa using this
  have rv:Rep G.K H3 v vv:=Rep.mono ((x2.keeps S1).trans (x3.keeps S2)) v vv r1
  obtain ⟨S4,x4⟩:=put (.dK (putK ks (.inr s) vv)) (.map (smap (Q9 l' s v))) fun kp=> by
    obtain ⟨a,b⟩:=B4c (s:=s) e1 (RepL.mono kp _ _ e2) (Rep.mono kp v vv rv)
    exact A54 upd_same a b
  exact ⟨p,_,ex,DPut.k (k:= .inr s) e0 (by omega),l.nx _ _ _ _ S4 ((x1.trans (x2.trans (x3.trans x4))).keeps S) z⟩
def C7D (env:A0) (h:AH) (r:RV) (w:W) (K:A0→AH→Prop):Prop:=∃l s,O3 env h r=some (.map (smap l))∧w= .str s∧(l.lookup s).isSome=true∧K (v4 env r (.map (smap (W4 l s)))) (v7 h r (.map (smap (W4 l s))))
def A8b (to:AT) (tk:D3):C0:=fun D env h=> to env h fun r env1 h1=> tk env1 h1 fun w env2 h2=> C7D env2 h2 r w D.nx
theorem B5K (ho:AE X G o to) (hk:AV X G k tk):AS X G (.Delete [.Subscript o k pos'] pos) (A8b to tk):=by
  refine ⟨fun D D' env h l q=> ho.mono env h _ _ (fun r e2 h2 z=> hk.mono e2 h2 _ _ (fun w e3 h3 ⟨l',s,z1,z2,z3,z4⟩=> ⟨l',s,z1,z2,z3,l.nx _ _ z4⟩) z) q,PS.imp (ps_ddel ho.pe hk.pe) fun D σ H ⟨env,h,Da,S,q,l⟩=> ?_⟩
  refine ⟨env,h,S,ho.mono env h _ _ (fun r env2 h2 z x H2 S2 x2 r2 f2=> ?_) q⟩
  refine ⟨env2,h2,S2,hk.mono env2 h2 _ _ (fun w env3 h3 ⟨l',s,z1,z2,z3,z⟩ y H3 S3 x3 r3=> ?_) z⟩
  subst z2
  have ey:y= .str s:=Rep.of_str (K:=G.K) (H:=H3) r3
  subst ey
  obtain ⟨p,ex,cr,put⟩:=A0m S3 (r2.xt S2 x3) z1
  obtain ⟨ks,e0,e1,e2⟩:=A2L cr
  obtain ⟨S4,x4⟩:=put (.dK (dropK ks (.inr s))) (.map (smap (W4 l' s))) fun kp=> by
    obtain ⟨a,b⟩:=A90 (s:=s) e1 (RepL.mono kp _ _ e2)
    exact A54 upd_same a b
  refine ⟨p,ks,.inr s,ex,e0,rfl,?_,l.nx _ _ _ _ S4 ((x2.trans (x3.trans x4)).keeps S) z⟩
  rcases A31 (s:=s) e1 e2 with ⟨a,b⟩ | ⟨w,v,a,b,rv⟩
  · rw [a] at z3;cases z3
  · rw [b];rfl
def A3r:AT:=fun env h Q=> Q (.own (.map (smap []))) env h
theorem A7g {pos:Pos}:AE X G (.Dict [] [] pos) A3r:=by
  refine ⟨fun env h Q Q' k q=> k _ _ _ q,PE.imp pe_dnewK fun σ H Q ⟨env,h,S,q⟩ p n=> ?_⟩
  obtain ⟨S2,x2,r2,f2⟩:=B0D S .refl n (o:= .dK []) (c:= .map (smap [])) fun nw=> A54 upd_same rfl .nil
  exact q _ _ S2 x2 r2 f2
end
def n8:L4:=fun as Q=> match as with
  | [.cv (.map kvs)]=> ∃l,kvs=smap l∧Q (.val (.int l.length))
  | _=> False
theorem B0n {K:PySem.W.Frag}:CallA K (fun xs H Q=> ∃a kvs,xs=[V.ref a]∧H a=some (.dK kvs)∧Q (.int kvs.length) H) n8:=
  ⟨fun as Q Q' k q=> by
    unfold n8 at q ⊢
    split at q
    · obtain ⟨l,e,q⟩:=q;exact ⟨l,e,k _ q⟩
    · exact q,fun as vs H Q0 Q r q k=> by
    unfold n8 at q
    split at q
    · rename_i kvs
      obtain ⟨l,rfl,q⟩:=q
      obtain ⟨v,rfl,p,ex,c⟩:=r.one
      obtain ⟨ks,e0,e1,e2⟩:=A2L c
      subst ex
      have lk:ks.length=l.length:=by have:=congrArg List.length e1;simpa using this
      exact ⟨p,ks,rfl,e0,k _ _ (.val q (by rw [lk];exact .int))⟩
    · exact q.elim⟩
def A1H:L4:=fun as Q=> match as with
  | [.cv (.map kvs)]=> ∃l,kvs=smap l∧Q (.own (.seq (l.map fun p=> W.str p.1)))
  | _=> False
theorem B4q {K:PySem.W.Frag} {H:Hp}:∀{l:List (Str×W)} {ks:List (Key×V)},ks.map (·.1)=l.map (fun q=> Sum.inr q.1)→RepL K H (l.map fun p=> W.str p.1) (ks.map fun kv=> kV kv.1)
  | [],[],_=> .nil
  | [],_::_,e=> by cases e
  | _::_,[],e=> by cases e
  | p::l,q::ks,e=> by
    rw [List.map_cons,List.map_cons] at e
    injection e with e1 e2
    rw [List.map_cons,List.map_cons,e1]
    exact .cons .str (B4q e2)
theorem C1x {K:PySem.W.Frag}:CallA K rListD A1H:=
  ⟨fun as Q Q' k q=> by
    unfold A1H at q ⊢
    split at q
    · obtain ⟨l,e,q⟩:=q;exact ⟨l,e,k _ q⟩
    · exact q,fun as vs H Q0 Q r q k=> by
    unfold A1H at q
    split at q
    · rename_i kvs
      obtain ⟨l,rfl,q⟩:=q
      obtain ⟨v,rfl,p,ex,c⟩:=r.one
      obtain ⟨ks,e0,e1,e2⟩:=A2L c
      subst ex
      exact ⟨p,ks,rfl,e0,fun l' n=> k _ _ (.lst n q (B4q e1))⟩
    · exact q.elim⟩
end Ab
namespace Ab
open PySem PySem.Spec PyProof.Rows L2 RZ
theorem B1S {a b:Vw} {neg:Bool} {Q:RV→Prop}:O7 neg a b Q=(match b.items with
  | some xs=> a.ok=true∧xs.all (W.dat 60)=true∧Q (.val (.bl (if neg then !p8 a.toW xs else p8 a.toW xs)))
  | none=> False):=by
  unfold O7
  cases b.items <;> simp
theorem C1E {x y:W} {ys:List W}:p8 x (y::ys)=(N3 y x || p8 x ys):=rfl
def A3e (casks:Int):List Int→List Int→Int→Option Int
  | _,[],_=> none
  | seen,c::r,k=> if ¬(0≤c∧c < casks)∨c∈seen then some k else A3e casks (seen++[c]) r (k+1)
theorem C7H {x:W} {xs:List W}:atI (x::xs) 0=some x:=atI_nat (j:=0) rfl
theorem C6x {x y:W} {xs:List W}:atI (x::y::xs) 1=some y:=atI_nat (j:=1) rfl
theorem C66 {x y z:W} {xs:List W}:atI (x::y::z::xs) 2=some z:=atI_nat (j:=2) rfl
end Ab
namespace Ab
open PySem PySem.Spec PyProof.Rows L2 RZ
def C7G (K:PySem.W.Frag) (tl:TE):TI:=fun σ H R=> tl σ H fun x H1=>
  ∃a,x= .ref a∧(((∃xs,SqL K H1 a xs)∧R (Itl K a) H1)∨((∃xs,SqT K H1 a xs)∧R (Itt K a) H1))
theorem B6s {X:Cx} {tg l:Expr} {tl:TE} (hl:PE X l tl):PI X tg l (C7G X.K tl):=by
  constructor
  intro pins s σ H R I h
  refine thn (hl.run pins s σ H _ I h) ?_
  rintro v s1 ⟨x,H1,I1,r1,a,rfl,q⟩
  cases r1
  have fp:∀b∈[s1.heap.objs.size],FpOk X pins H1 b:=by
    intro b hb
    obtain rfl:b=s1.heap.objs.size:=by simpa using hb
    exact I1.fpOk (Nat.le_refl _) (I1.hok.fresh (Nat.le_refl _))
  rcases q with ⟨⟨xs,hq⟩,q⟩ | ⟨⟨xs,hq⟩,q⟩
  · obtain ⟨its,rv,p,hz⟩:=I1.list hq
    apply wpAny_pyIter_list p.isList
    exact ⟨_,[s1.heap.objs.size],_,_,H1,rfl,
      I1.kept (t':=s1.toks) fun b o e=> Heap.get?_push_of_some _ e,turn_list a _,⟨_,Heap.get?_push_size _ rfl,rfl,rfl⟩,fp,q⟩
  · obtain ⟨its,rv,p,hz⟩:=I1.tuple hq
    apply wpAny_pyIter_tuple (show s1.heap.IsTuple a its.toArray from p)
    exact ⟨_,[s1.heap.objs.size],_,_,H1,rfl,
      I1.kept (t':=s1.toks) fun b o e=> Heap.get?_push_of_some _ e,turn_tuple a _,⟨_,Heap.get?_push_size _ rfl,rfl,rfl⟩,fp,q⟩
def iSq (t:D3):U5:=fun env h Q=> t env h fun w env' h'=> match w with
  | .lst ws=> Q ws env' h'
  | .tup ws=> Q ws env' h'
  | _=> False
theorem iSq.mono {t:D3} (m:B3 t):B3 (iSq t):=fun env h Q Q' k q=> m env h _ _ (fun w e g z=> by
  split at z
  · exact k _ _ _ z
  · exact k _ _ _ z
  · exact z) q
section
variable {X:Cx} {G:Gx} {tg e:Expr} {st:Stmt}
theorem A56 {t:D3} (gk:G.K=X.K) (a:AV X G e t):AI X G tg e (iSq t):=by
  refine ⟨iSq.mono a.mono,PI.imp (B6s a.pe) fun σ H R ⟨env,h,S,q⟩=> ?_⟩
  refine ⟨env,h,S,a.mono env h _ _ (fun w env1 h1 z v H1 S1 x1 r1=> ?_) q⟩
  cases w with
  | lst ws=>
    obtain ⟨p,vs,rfl,l,r⟩:=Rep.of_lst r1
    exact ⟨p,rfl,.inl ⟨⟨vs,l.sq⟩,z _ H1 S1 x1 (gk▸B3y l r)⟩⟩
  | tup ws=>
    obtain ⟨p,vs,rfl,l,r⟩:=Rep.of_tup r1
    exact ⟨p,rfl,.inr ⟨⟨vs,gk▸l⟩,z _ H1 S1 x1 (gk▸B4S l r)⟩⟩
  | _=> exact z.elim
def aFrz (i:Nat) (t:C0):C0:=fun D env h=> match env[i]? with
  | some (some (.own c))=> t D (env.set i (some (.val c.fz))) h
  | some (some (.val _))=> t D env h
  | _=> False
theorem aFrz.mono {i:Nat} {t:C0} (m:u5 t):u5 (aFrz i t):=fun D D' env h l q=> by
  unfold aFrz at q ⊢
  split at q
  · exact m _ _ _ _ l q
  · exact m _ _ _ _ l q
  · exact q
theorem A3v (i:Nat) {t:C0} (a:AS X G st t):AS X G st (aFrz i t):=by
  refine ⟨aFrz.mono a.mono,⟨fun pins s σ H Q I ⟨env,h,Da,S,q,l⟩=> ?_⟩⟩
  unfold aFrz at q
  split at q
  · rename_i c e
    obtain ⟨p,H2,es,I2,S2,x2,r2⟩:=A9i (env:=env) (env':=env) (H:=H) (H1:=H) S .refl I e
    exact a.ps.run pins s σ H2 Q I2 ⟨_,h,Da,S2,q,l.from (x2.keeps S)⟩
  · exact a.ps.run pins s σ H Q I ⟨env,h,Da,S,q,l⟩
  · exact q.elim
end
theorem C16 {prog:Program} {w:World} {A:Around} {E:Value→Shared→Prop} {s:Shared} {l:Addr} {its:List Value} {ns:List Int} {Q:Value→Shared→Prop} (hh:A.handled=none)
    (hl:s.heap.IsTuple l its.toArray) (hi:IntsAre its ns)
    (hq:∀h' tk t',(∀b o,s.heap.get? b=some o→h'.get? b=some o)→Q (.int ns.sum t') { s with heap:=h',toks:=tk }):
    wpAny (model prog w) A (call (.builtin "sum") [.ref l]) Q E s:=by
  obtain ⟨xs,e⟩:=hi.allInts.items
  have hn:=hi.numsOf
  have hn2:numsOf (intItems xs).toList=ns:=by rw [←e];exact hn
  rw [nums_intItems] at hn2
  rw [e] at hl
  have lt:l < s.heap.objs.size:=by
    obtain ⟨_,e,_⟩:=hl
    exact Heap.lt_size e
  refine call_sum_walkG (wpAny_pyIter_tuple hl ?_)
  refine ⟨_,_,_,_,_,_,numAt xs,rfl,Walks.tuple (A:=A.in1) hh s.heap.objs.size l (Nat.ne_of_lt lt) (intItems xs),⟨⟨_,Heap.get?_push_size _ rfl,rfl,rfl⟩,hl.push _⟩,fun b hb=> ?_,fun _ _=> intItems_at,fun h' tk t' hk=> ?_⟩
  · show b < (s.heap.push _).objs.size
    rw [Heap.size_push]
    simp only [List.mem_cons,List.not_mem_nil,or_false] at hb
    rcases hb with rfl | rfl
    · exact Nat.lt_succ_self _
    · exact Nat.lt_succ_of_lt lt
  · have k:∀b o,s.heap.get? b=some o→h'.get? b=some o:=fun b o e=> hk b o (fun hm=> by
      have:b=s.heap.objs.size:=by simpa using hm
      have h2:=Heap.lt_size e
      rw [this] at h2
      exact Nat.lt_irrefl _ h2) (Heap.get?_push_of_some _ e)
    have z:=hq h' tk t' k
    rw [preSum_eq,List.take_of_length_le (by simp [intItems]),hn2]
    exact z
section
variable {X:Cx}
def B67 (K:PySem.W.Frag):List V→Hp→VK→Prop:=fun vs H Q=> ∃(a:Addr) (ns:List Int),vs=[V.ref a]∧(SqL K H a (ns.map V.int)∨SqT K H a (ns.map V.int))∧Q (.int ns.sum) H
theorem C2y (hc:X.calm=true):CallR X (.builtin "sum") (B67 X.K):=by
  intro pins s σ H vs us Q I r h
  obtain ⟨a,ns,rfl,hs | hs,q⟩:=h
  · exact cr_sum hc pins s σ H _ us Q I r ⟨a,ns,rfl,hs,q⟩
  · obtain ⟨its,rv,hl,_⟩:=I.tuple hs
    rw [Vals.ref1 r]
    exact C16 (I.ok.hd hc) (show s.heap.IsTuple a its.toArray from hl) rv.ints fun h' tk t' hk=> ⟨.int _,H,I.kept hk,⟨_,rfl⟩,q⟩
def u7:L4:=fun as Q=> match as with
  | [a]=> ∃ns:List Int,a.items=some (ns.map W.int)∧Q (.val (.int ns.sum))
  | _=> False
theorem C2x {K:PySem.W.Frag}:CallA K (B67 K) u7:=
  ⟨fun as Q Q' k q=> by
    unfold u7 at q ⊢
    split at q
    · obtain ⟨ns,e,q⟩:=q
      exact ⟨ns,e,k _ q⟩
    · exact q,fun as vs H Q0 Q r q k=> by
    unfold u7 at q
    split at q
    · obtain ⟨ns,e,q⟩:=q
      obtain ⟨v,rfl,r1⟩:=r.one
      obtain ⟨p,us,rfl,hs,rl⟩:=r1.items e
      rw [rl.of_ints] at hs
      exact ⟨p,ns,rfl,hs.imp_left u6,k _ _ (.val q .int)⟩
    · exact q.elim⟩
end
end Ab
namespace Ab
open PySem PySem.Spec PyProof.Rows L2 RZ
abbrev W7:=A0→AH→((AH→Prop)→List W→A0→AH→Prop)→Prop
def A6E (t:W7):Prop:=∀env h Q Q',(∀ok ws e k,Q ok ws e k→Q' ok ws e k)→t env h Q→t env h Q'
def A5w (G:Gx) (J:It) (H1:Hp) (ok:AH→Prop) (ws:List W):Prop:=∀h H,(∀a o,h a=some o→ORep G.K H a o)→Keeps H1 H→ok h→∀i:Nat,(ws.length≤i→J.stop i H)∧∀w,ws[i]? =some w→J.go i H∧∀x H',J.yld i H x H'→New H H'∧Rep G.K H' w x
def cIL (G:Gx) (t:W7):TI:=fun σ H R=> ∃env h,BS G env h σ H∧t env h fun ok ws env' h'=> ∀J H',BS G env' h' σ H'→Xt env h σ H env' h' H'→A5w G J H' ok ws→R J H'
structure AI2 (X:Cx) (G:Gx) (tg iter:Expr) (t:W7):Prop where
  mono:A6E t
  pi:PI X tg iter (cIL G t)
def C64 (t:U5):W7:=fun env h Q=> t env h fun ws e k=> Q (fun _=> True) ws e k
theorem AI.two {X:Cx} {G:Gx} {tg e:Expr} {t:U5} (a:AI X G tg e t):AI2 X G tg e (C64 t):=
  ⟨fun env h Q Q' k q=> a.mono env h _ _ (fun ws e g z=> k _ _ _ _ z) q,PI.imp a.pi fun σ H R ⟨env,h,S,q⟩=> ⟨env,h,S,a.mono env h _ _ (fun ws e g z J H' S1 x1 gv=> z J H' S1 x1 fun _ H'' _ kk _=> gv H'' kk) q⟩⟩
def srcW (h:AH) (r:RV) (Q:(AH→Prop)→List W→Prop):Prop:=match r with
  | .val (.ref a)=> ∃ws,h a=some (.cont (.seq ws))∧Q (fun k=> k a=some (.cont (.seq ws))) ws
  | .val (.lst ws)=> Q (fun _=> True) ws
  | .val (.tup ws)=> Q (fun _=> True) ws
  | _=> False
def iLive (t:AT):W7:=fun env h Q=> t env h fun r env1 h1=> srcW h1 r fun ok ws=> Q ok ws env1 h1
def iLvE (t:AT):W7:=fun env h Q=> t env h fun r env1 h1=> srcW h1 r fun ok ws=> Q ok (T8 ws) env1 h1
theorem srcW.imp {h:AH} {r:RV} {Q Q':(AH→Prop)→List W→Prop} (k:∀ok ws,Q ok ws→Q' ok ws) (z:srcW h r Q):srcW h r Q':=by
  unfold srcW at z ⊢
  split at z
  · obtain ⟨ws,e,z⟩:=z;exact ⟨ws,e,k _ _ z⟩
  · exact k _ _ z
  · exact k _ _ z
  · exact z
theorem iLive.mono {t:AT} (m:B3 t):A6E (iLive t):=fun env h Q Q' k q=> m env h _ _ (fun r e g z=> srcW.imp (fun ok ws y=> k _ _ _ _ y) z) q
theorem iLvE.mono {t:AT} (m:B3 t):A6E (iLvE t):=fun env h Q Q' k q=> m env h _ _ (fun r e g z=> srcW.imp (fun ok ws y=> k _ _ _ _ y) z) q
section
variable {X:Cx} {G:Gx} {tg e:Expr}
theorem A7z {h:AH} {H:Hp} {a:Addr} {ws:List W} (hp:∀a o,h a=some o→ORep G.K H a o) (e:h a=some (.cont (.seq ws))):∃vs,SqL G.K H a vs∧RepL G.K H ws vs:=by
  obtain ⟨vs,l,r⟩:=hp a _ e
  exact ⟨vs,.inl (.inl l),r⟩
theorem C00 {H1:Hp} {a:Addr} {ws:List W}:A5w G (Itl G.K a) H1 (fun k=> k a=some (.cont (.seq ws))) ws:=fun h H hp kk e i=> by
  obtain ⟨vs,l',r'⟩:=A7z hp e
  refine ⟨fun h=> ⟨vs,l',by rw [←r'.length];exact h⟩,fun w e=> ?_⟩
  obtain ⟨v,ev,rv⟩:=r'.get e
  exact ⟨⟨vs,v,l',ev⟩,fun x H2 ⟨e1,q⟩=> by
    subst e1
    have z:=q vs l'
    rw [ev] at z;cases z
    exact ⟨.refl _,rv⟩⟩
theorem C0D {H1:Hp} {a:Addr} {ws:List W}:A5w G (Ite G.K a) H1 (fun k=> k a=some (.cont (.seq ws))) (T8 ws):=fun h H hp kk e i=> by
  obtain ⟨vs,l,r⟩:=A7z hp e
  have l':SqL G.K H a vs:=l
  refine ⟨fun h=> ⟨vs,l',by rw [←r.length];rwa [B0J] at h⟩,fun w e=> ?_⟩
  obtain ⟨u,eu,rfl⟩:=B0H e
  obtain ⟨v,ev,rv⟩:=r.get eu
  refine ⟨⟨vs,v,l',ev⟩,fun x H2 ⟨T,y,e1,n,e2,q⟩=> ?_⟩
  subst e1 e2
  have z:=q vs l'
  rw [ev] at z;cases z
  have nw:New H (upd H T (.tup [.int i,v])):=New.upd n
  exact ⟨nw,.tup (.inl upd_same) (.cons .int (.cons (Rep.mono nw.keeps _ _ rv) .nil))⟩
theorem A7V {J:It} {H:Hp} {ws:List W} (g:A1R G.K J H ws):A5w G J H (fun _=> True) ws:=fun _ H' _ kk _=> g H' kk
theorem A3d {t:AT} (gk:G.K=X.K) (a:AE X G e t):AI2 X G tg e (iLive t):=by
  refine ⟨iLive.mono a.mono,PI.imp (B6s a.pe) fun σ H R ⟨env,h,S,q⟩=> ?_⟩
  refine ⟨env,h,S,a.mono env h _ _ (fun r env1 h1 z v H1 S1 x1 r1 f1=> ?_) q⟩
  clear f1
  unfold srcW at z
  split at z
  · rename_i p
    obtain ⟨ws,e,z⟩:=z
    have ex:v= .ref p:=Rep.of_ref (K:=G.K) (H:=H1) r1
    obtain ⟨vs,l,r⟩:=A7z S1.hp e
    exact ⟨p,ex,.inl ⟨⟨vs,gk▸l⟩,gk▸z _ H1 S1 x1 C00⟩⟩
  · obtain ⟨p,vs,rfl,l,r⟩:=Rep.of_lst (K:=G.K) (H:=H1) r1
    exact ⟨p,rfl,.inl ⟨⟨vs,l.sq⟩,z _ H1 S1 x1 (A7V (gk▸B3y l r))⟩⟩
  · obtain ⟨p,vs,rfl,l,r⟩:=Rep.of_tup (K:=G.K) (H:=H1) r1
    exact ⟨p,rfl,.inr ⟨⟨vs,gk▸l⟩,z _ H1 S1 x1 (A7V (gk▸B4S l r))⟩⟩
  · exact z.elim
theorem C5E {t:AT} {p pos tpos:Pos} {elts:List Expr} {kk:Nat} (gk:G.K=X.K) (hg:Gl X "enumerate") (hm:X.mg "enumerate"=none) (a:AE X G e t) (hs:starEach [e] X.env=[(false,eval e X.env)]:=by rfl):
    AI2 X G (.Tuple elts kk tpos) (.Call (.Name "enumerate" p) [e] [] pos) (iLvE t):=by
  refine ⟨iLvE.mono a.mono,PI.imp (B6V hg hm (pa_cons a.pe pa_nil hs) hs) fun σ H R ⟨env,h,S,q⟩=> ?_⟩
  refine ⟨env,h,S,a.mono env h _ _ (fun r env1 h1 z v H1 S1 x1 r1 f1=> ?_) q⟩
  clear f1
  unfold srcW at z
  split at z
  · rename_i p
    obtain ⟨ws,e,z⟩:=z
    have ex:v= .ref p:=Rep.of_ref (K:=G.K) (H:=H1) r1
    subst ex
    obtain ⟨vs,l,r⟩:=A7z S1.hp e
    exact ⟨p,vs,rfl,.inr ⟨gk▸l,gk▸z _ H1 S1 x1 C0D⟩⟩
  · obtain ⟨p,vs,rfl,l,r⟩:=Rep.of_lst (K:=G.K) (H:=H1) r1
    exact ⟨p,vs,rfl,.inr ⟨l.sq,z _ H1 S1 x1 (A7V (gk▸B4N l r))⟩⟩
  · obtain ⟨p,vs,rfl,l,r⟩:=Rep.of_tup (K:=G.K) (H:=H1) r1
    exact ⟨p,vs,rfl,.inl ⟨gk▸l,z _ H1 S1 x1 (A7V (gk▸B4J l r))⟩⟩
  · exact z.elim
end
def aLoopL (ok:AH→Prop) (g:H9) (tb:C0) (D:AEnds):List W→A0→AH→Prop
  | []=> fun env h=> ok h∧D.nx env h
  | w::ws=> fun env h=> ok h∧g w env h fun env1 h1=> tb { D with nx:=aLoopL ok g tb D ws,ct:=aLoopL ok g tb D ws,bk:=D.nx } env1 h1
def A6C (ti:W7) (g:H9) (tb:C0):C0:=fun D env h=> ti env h fun ok ws env1 h1=> aLoopL ok g tb D ws env1 h1
theorem aLoopL.mono {ok:AH→Prop} {g:H9} {tb:C0} (mg:o0 g) (mt:u5 tb) {D D':AEnds} (l:D.Le D'):∀(ws:List W) env h,aLoopL ok g tb D ws env h→aLoopL ok g tb D' ws env h
  | [],env,h,q=> ⟨q.1,l.nx _ _ q.2⟩
  | w::ws,env,h,q=> ⟨q.1,mg w env h _ _ (fun e k z=> mt { D with nx:=aLoopL ok g tb D ws,ct:=aLoopL ok g tb D ws,bk:=D.nx } { D' with nx:=aLoopL ok g tb D' ws,ct:=aLoopL ok g tb D' ws,bk:=D'.nx } e k ⟨aLoopL.mono mg mt l ws,l.rt,l.nx,aLoopL.mono mg mt l ws⟩ z) q.2⟩
section
variable {X:Cx} {G:Gx} {tg iter:Expr} {body:List Stmt} {pos:Pos}
theorem B0T {ti:W7} {g:H9} {tb:C0} {sl:List Nat} (hp:PassesOwn (model X.prog X.w) X.A X.env X.xe) (hc:X.calm=true) (hi:AI2 X G tg iter ti) (hg:AG X G tg sl g) (hb:ASs X G body tb)
    (hs:∀x,foldedSetIterable iter X.env x=pure x:=by intro _;rfl):AS X G (.For tg iter body [] pos) (A6C ti g tb):=by
  refine ⟨fun D D' env h l q=> hi.mono env h _ _ (fun ok ws e k z=> aLoopL.mono hg.mono hb.mono l ws e k z) q,PS.imp (ps_for hp hc hi.pi hg.pg hb.ps hs) fun D σ H ⟨env,h,Da,S,q,l⟩=> ?_⟩
  refine ⟨env,h,S,hi.mono env h _ _ (fun ok ws env1 h1 z J H1 S1 x1 gv=> ?_) q⟩
  have kp:=x1.keeps S
  refine ⟨fun i m σ' H'=> ws.length≤i+m∧Keeps H1 H'∧∃e k,BS G e k σ' H'∧aLoopL ok g tb Da (ws.drop i) e k,⟨ws.length,by omega,.refl H1,env1,h1,S1,by simpa using z⟩,?_⟩
  rintro i m σ2 H2 ⟨hm,k2,e2,g2,S2,z2⟩
  cases e:ws[i]? with
  | none=>
    have hl:=List.getElem?_eq_none_iff.mp e
    rw [List.drop_eq_nil_of_le hl] at z2
    have gi:=gv g2 H2 S2.hp k2 z2.1 i
    exact .inl ⟨gi.1 hl,l.nx _ _ _ _ S2 (kp.trans k2) z2.2⟩
  | some w=>
    obtain ⟨hl,ew⟩:=List.getElem?_eq_some_iff.mp e
    have ed:ws.drop i=w::ws.drop (i+1):=by rw [List.drop_eq_getElem_cons hl,ew]
    rw [ed] at z2
    have gi:=gv g2 H2 S2.hp k2 z2.1 i
    obtain ⟨go,yl⟩:=gi.2 w e
    refine .inr ⟨go,fun σ' H'=> Keeps H1 H'∧∃e k,BS G e k σ' H'∧aLoopL ok g tb Da (ws.drop (i+1)) e k,fun σ' H' n=> ⟨m - 1,by omega,by omega,n.1,n.2⟩,fun x H3 y=> ?_⟩
    obtain ⟨nw,rx⟩:=yl x H3 y
    have k3:=k2.trans nw.keeps
    refine ⟨w,e2,g2,rx,nw.bs S2,hg.mono w e2 g2 _ _ (fun e4 g4 z4 σ4 H4 S4 x4=> ?_) z2.2⟩
    have k4:=x4.keeps (nw.bs S2)
    refine ⟨e4,g4,_,S4,z4,⟨fun e k σ H S' kk y=> ⟨(k3.trans k4).trans kk,e,k,S',y⟩,fun r e k σ H v S' kk=> l.rt r e k σ H v S' (kp.trans ((k3.trans k4).trans kk)),fun e k σ H S' kk=> l.nx e k σ H S' (kp.trans ((k3.trans k4).trans kk)),fun e k σ H S' kk y=> ⟨(k3.trans k4).trans kk,e,k,S',y⟩⟩⟩
end
def lcLoopL (ok:AH→Prop) (vs:List Nat) (g:H9) (tt:K9) (te:D3) (Q:List W→A0→AH→Prop):List W→List W→A0→AH→Prop
  | [],acc=> fun env h=> ok h∧Q acc env h
  | w::ws,acc=> fun env h=> ok h∧g w (T5 env vs) h fun e1 h1=> tt e1 h1 fun b e2 h2=> if b=true then te e2 h2 fun y e3 h3=> acc.length < sizeLine∧lcLoopL ok vs g tt te Q ws (acc++[y]) (mend env e3 vs) h3 else lcLoopL ok vs g tt te Q ws acc (mend env e2 vs) h2
def A0D (vs:List Nat) (ti:W7) (g:H9) (tt:K9) (te:D3):AT:=fun env h Q=> ti env h fun ok ws e1 h1=> lcLoopL ok vs g tt te (fun acc e h=> Q (.own (.seq acc)) e h) ws [] e1 h1
theorem lcLoopL.mono {ok:AH→Prop} {vs:List Nat} {g:H9} {tt:K9} {te:D3} (mg:o0 g) (mt:B3 tt) (me:B3 te) {Q Q':List W→A0→AH→Prop} (k:∀a e h,Q a e h→Q' a e h):∀(ws acc:List W) env h,lcLoopL ok vs g tt te Q ws acc env h→lcLoopL ok vs g tt te Q' ws acc env h
  | [],acc,env,h,q=> ⟨q.1,k _ _ _ q.2⟩
  | w::ws,acc,env,h,q=> ⟨q.1,mg _ _ _ _ _ (fun e1 h1 z=> mt _ _ _ _ (fun b e2 h2 z=> by
    cases b with
    | true=> rw [if_pos rfl] at z ⊢;exact me _ _ _ _ (fun y e3 h3 z=> ⟨z.1,lcLoopL.mono mg mt me k ws _ _ _ z.2⟩) z
    | false=> rw [if_neg Bool.false_ne_true] at z ⊢;exact lcLoopL.mono mg mt me k ws _ _ _ z) z) q.2⟩
def del (H:Hp) (D:Addr):Hp:=fun p=> if p=D then none else H p
theorem B0A {H:Hp} {D:Addr}:del H D D=none:=by unfold del;rw [if_pos rfl]
theorem del_ne {H:Hp} {D p:Addr} (n:p≠D):del H D p=H p:=by unfold del;rw [if_neg n]
theorem A7h {H:Hp} {D p:Addr} {o:HO} (e:del H D p=some o):p≠D∧H p=some o:=by
  have n:p≠D:=fun z=> by rw [z,B0A] at e;cases e
  exact ⟨n,(del_ne n).symm.trans e⟩
theorem Xt.del {env env':A0} {h h':AH} {σ:L2.St} {H H':Hp} {D:Addr} (x:Xt env h σ H env' h' H'):Xt env h σ (del H D) env' h' H':=
  ⟨fun p o e n w t=> x.fr p o (A7h e).2 n w t,fun p o e n=> by
    by_cases q:p=D
    · rw [q];exact B0A
    · rw [del_ne q];exact x.hn p o e n,fun p o e=> x.th p o (A7h e).2,x.sl⟩
theorem Xg.transD {sl:List Nat} {env env1 env2:A0} {h h1 h2:AH} {σ σ1:L2.St} {H H1 H2:Hp} {D:Addr} (a:Xg sl env h σ H env1 h1 σ1 H1) (b:Xt env1 h1 σ1 (Ab.del H1 D) env2 h2 H2):Xg sl env h σ (Ab.del H D) env2 h2 σ1 H2:=by
  refine ⟨fun p o e n w t=> ?_,fun p o e n=> ?_,fun p o e=> ?_,fun p q=> a.ow p (b.own q),fun i c e=> ?_,a.bt⟩
  · obtain ⟨ne,e⟩:=A7h e
    have e1:=a.fr p o e n w t
    refine b.fr p o ((del_ne ne).trans e1) ?_ (fun q=> w (a.ow p q)) t
    cases q:h1 p with
    | none=> rfl
    | some u=> rw [a.hn p u q n] at e;cases e
  · by_cases ne:p=D
    · rw [ne];exact B0A
    · rw [del_ne ne]
      cases q:h1 p with
      | some u=> exact a.hn p u q n
      | none=>
        have z:=b.hn p o e q
        rw [del_ne ne] at z
        cases q2:H p with
        | none=> rfl
        | some u=> obtain ⟨o',e'⟩:=a.th p u q2;rw [z] at e';cases e'
  · obtain ⟨ne,e⟩:=A7h e
    obtain ⟨o',e'⟩:=a.th p o e
    exact b.th p o' ((del_ne ne).trans e')
  · obtain ⟨c1,z⟩:=b.sl i c e
    exact a.so i c1 z
section
variable {X:Cx} {G:Gx} {elt tg iter:Expr} {ifs:List Expr} {scope:Scope} {own:List (Str×Nat)} {pos:Pos} {ti:W7} {g:H9} {tt:K9} {te:D3} {sl:List Nat}
theorem C4T {env e2 e6:A0} {h g2 g6:AH} {σ σ4:L2.St} {H H2 H3 H6:Hp} {D:Addr} {vacc:List V} {vs:List Nat} (hsl:∀i∈sl,i∈vs) (hD:H D=none) (d2:H2 D=some (.lst vacc)) (S2:BS G e2 g2 σ H2) (x2:Xt env h σ H e2 g2 H2) (n2:g2 D=none) (no2:¬OwnAt e2 σ D) (nw:New H2 H3)
    (bt:But sl (wipe σ vs) σ4) (S6:BS G e6 g6 σ4 H6) (xx:Xg sl (T5 e2 vs) g2 (wipe σ vs) (Ab.del H3 D) e6 g6 σ4 H6) (no6:¬OwnAt e6 σ4 D) (n6:g6 D=none) (t6:∃o,H6 D=some o):
    Keeps H2 H6∧BS G (mend e2 e6 vs) g6 σ H6∧¬OwnAt (mend e2 e6 vs) σ D∧∀ys,Xt env h σ H (mend e2 e6 vs) g6 (upd H6 D (.lst ys)):=by
  have f6:∀p o,H2 p=some o→p≠D→g2 p=none→¬OwnAt e2 σ p→NT o→H6 p=some o:=fun p o e ne n q t=> xx.fr p o ((del_ne ne).trans (nw p o e)) n (fun q'=> q q'.wiped) t
  have kk:Keeps H2 H6:=fun p o e i=> f6 p o e (fun z=> by rw [z,d2] at e;cases e;exact i.elim) (S2.imm e i).1 (S2.imm e i).2 i.nt
  have Sm:=BS.mend (sl:=sl) S2 S6 kk bt hsl
  have sameOut:∀{j:Nat},j∉vs→σ4[j]? =σ[j]? :=fun {j} hj=> (bt.2 j fun q=> hj (hsl j q)).trans (A0h hj)
  have oM:∀p,OwnAt (mend e2 e6 vs) σ p→OwnAt e6 σ4 p:=fun p ⟨j,c,a,b⟩=> by
    by_cases hj:j∈vs
    · obtain ⟨w',e0,_⟩:=A1B hj a;cases e0
    · rw [A06 hj] at a
      exact ⟨j,c,a,(sameOut hj).trans b⟩
  refine ⟨kk,Sm,fun q=> no6 (oM D q),fun ys=> ⟨fun p o e n q t=> ?_,fun p o e n=> ?_,fun p o e=> ?_,fun j c e=> ?_⟩⟩
  · have np:p≠D:=fun z=> by rw [z,hD] at e;cases e
    rw [upd_ne np]
    refine f6 p o (x2.fr p o e n q t) np ?_ (fun y=> q (x2.own y)) t
    cases y:g2 p with
    | none=> rfl
    | some u=> rw [x2.hn p u y n] at e;cases e
  · by_cases np:p=D
    · rw [np];exact hD
    cases y:g2 p with
    | some u=> exact x2.hn p u y n
    | none=>
      have y3:=xx.hn p o e y
      rw [del_ne np] at y3
      cases y4:H p with
      | none=> rfl
      | some u=>
        obtain ⟨u',y5⟩:=x2.th p u y4
        rw [nw p u' y5] at y3;cases y3
  · by_cases hp:p=D
    · subst hp;exact ⟨_,upd_same⟩
    · obtain ⟨u,y⟩:=x2.th p o e
      obtain ⟨u',y'⟩:=xx.th p u ((del_ne hp).trans (nw p u y))
      exact ⟨u',by rw [upd_ne hp];exact y'⟩
  · by_cases hj:j∈vs
    · obtain ⟨w',e0,_⟩:=A1B hj e;cases e0
    · rw [A06 hj] at e
      obtain ⟨c1,y⟩:=xx.so j _ e
      obtain ⟨y1,_⟩:=A1v y
      exact x2.sl j c1 y1
theorem C5Y {H:Hp} {D:Addr} {o:HO} (e:H D=some o):upd H D o=H:=by
  funext p
  by_cases hp:p=D
  · subst hp;rw [upd_same,e]
  · rw [upd_ne hp]
theorem C4w {R:Hp→Prop} {J:It} {ok:AH→Prop} {ws acc0:List W} {vacc0:List V} {env env1:A0} {h h1:AH} {σ:L2.St} {H Hb H1:Hp} {D:Addr} {vs:List Nat} (hsl:∀i∈sl,i∈vs) (mg:o0 g) (mt:B3 tt) (me:B3 te)
    (hD:H D=none) (hd0:G.H0 D=none) (gv:A5w G J Hb ok ws) (k0:Keeps Hb H1) (d1:H1 D=some (.lst vacc0)) (r1:RepL G.K H1 acc0 vacc0) (S1:BS G env1 h1 σ H1) (x1:Xt env h σ H env1 h1 H1) (n1:h1 D=none) (no1:¬OwnAt env1 σ D)
    (z:lcLoopL ok vs g tt te (fun acc e h'=> ∀vacc H',BS G e h' σ H'→Xt env h σ H e h' H'→H' D=some (.lst vacc)→RepL G.K H' acc vacc→h' D=none→¬OwnAt e σ D→Keeps H1 H'→R H') ws acc0 env1 h1):
    ∃W:Nat→Nat→Hp→Prop,(∃m,W 0 m H1)∧∀i m H2,W i m H2→(J.stop i H2∧R H2)∨(J.go i H2∧∃Nx:Hp→Prop,(∀H',Nx H'→∃m',m' < m∧W (i+1) m' H')∧∀x H3,J.yld i H2 x H3→cG G sl g x (wipe σ vs) H3 fun σ4 H4=> wipe σ4 vs=wipe σ vs∧cT G tt σ4 H4 fun b H5=>
      if b=true then cV G te σ4 H5 fun y H6=> ∃acc,H6 D=some (.lst acc)∧acc.length < sizeLine∧Nx (upd H6 D (.lst (acc++[y]))) else Nx H5):=by
  refine ⟨fun i m H'=> ws.length≤i+m∧Keeps H1 H'∧∃acc vacc e k,H' D=some (.lst vacc)∧RepL G.K H' acc vacc∧BS G e k σ H'∧Xt env h σ H e k H'∧k D=none∧¬OwnAt e σ D∧
    lcLoopL ok vs g tt te (fun acc e h'=> ∀vacc H',BS G e h' σ H'→Xt env h σ H e h' H'→H' D=some (.lst vacc)→RepL G.K H' acc vacc→h' D=none→¬OwnAt e σ D→Keeps H1 H'→R H') (ws.drop i) acc e k,
    ⟨ws.length,by omega,.refl _,acc0,vacc0,env1,h1,d1,r1,S1,x1,n1,no1,by simpa using z⟩,?_⟩
  rintro i m H2 ⟨hm,k2,acc,vacc,e2,g2,d2,r2,S2,x2,n2,no2,z2⟩
  cases e:ws[i]? with
  | none=>
    have hl:=List.getElem?_eq_none_iff.mp e
    rw [List.drop_eq_nil_of_le hl] at z2
    have gi:=gv g2 H2 S2.hp (k0.trans k2) z2.1 i
    exact .inl ⟨gi.1 hl,z2.2 vacc H2 S2 x2 d2 r2 n2 no2 k2⟩
  | some w=>
    obtain ⟨hl,ew⟩:=List.getElem?_eq_some_iff.mp e
    have ed:ws.drop i=w::ws.drop (i+1):=by rw [List.drop_eq_getElem_cons hl,ew]
    rw [ed] at z2
    simp only [lcLoopL] at z2
    have gi:=gv g2 H2 S2.hp (k0.trans k2) z2.1 i
    obtain ⟨go,yl⟩:=gi.2 w e
    refine .inr ⟨go,fun H'=> Keeps H1 H'∧∃acc vacc e k,H' D=some (.lst vacc)∧RepL G.K H' acc vacc∧BS G e k σ H'∧Xt env h σ H e k H'∧k D=none∧¬OwnAt e σ D∧
      lcLoopL ok vs g tt te (fun acc e h'=> ∀vacc H',BS G e h' σ H'→Xt env h σ H e h' H'→H' D=some (.lst vacc)→RepL G.K H' acc vacc→h' D=none→¬OwnAt e σ D→Keeps H1 H'→R H') (ws.drop (i+1)) acc e k,fun H' n=> ⟨m - 1,by omega,by omega,n.1,n.2⟩,fun x H3 y=> ?_⟩
    obtain ⟨nw,rx⟩:=yl x H3 y
    have S3:=nw.bs S2
    refine ⟨w,T5 e2 vs,g2,rx,S3.wipe,mg _ _ _ _ _ (fun e4 g4 z4 σ4 H4 S4 x4=> ?_) z2.2⟩
    refine ⟨B48 x4.bt hsl,e4,g4,S4,mt _ _ _ _ (fun b e5 g5 z5 H5 S5 x5=> ?_) z4⟩
    have noW:¬OwnAt (T5 e2 vs) (wipe σ vs) D:=fun q=> no2 q.wiped
    have fin:∀{e6:A0} {g6:AH} {H6:Hp},BS G e6 g6 σ4 H6→Xt e4 g4 σ4 H4 e6 g6 H6→H6 D=some (.lst vacc)∧Keeps H2 H6∧BS G (mend e2 e6 vs) g6 σ H6∧g6 D=none∧¬OwnAt (mend e2 e6 vs) σ D∧∀ys,Xt env h σ H (mend e2 e6 vs) g6 (upd H6 D (.lst ys)):=fun {e6 g6 H6} S6 x6=> by
      have xx:=x4.trans x6.xg
      have d6:H6 D=some (.lst vacc):=xx.fr D _ (nw D _ d2) n2 noW (Mu.nt (o:= .lst vacc) trivial)
      have g6D:g6 D=none:=by
        cases q:g6 D with
        | none=> rfl
        | some u=> have y:=xx.hn D u q n2;rw [nw D _ d2] at y;cases y
      have no6:¬OwnAt e6 σ4 D:=fun q=> noW (xx.ow D q)
      obtain ⟨a,b,c,d⟩:=C4T (sl:=sl) hsl hD d2 S2 x2 n2 no2 nw x4.bt S6 (x4.transD x6.del) no6 g6D ⟨_,d6⟩
      exact ⟨d6,a,b,g6D,c,d⟩
    cases b with
    | true=>
      rw [if_pos rfl] at z5
      refine iteT ⟨e5,g5,S5,me _ _ _ _ (fun y e6 g6 ⟨hz,z6⟩ v H6 S6 x6 r6=> ?_) z5⟩
      obtain ⟨d6,k6,Sm,n6,no6,xm⟩:=fin S6 (x5.trans x6)
      obtain ⟨k7,S7⟩:=Sm.unseen (o':= .lst (vacc++[v])) d6 trivial n6 hd0 no6
      exact ⟨vacc,d6,by rw [←r2.length];exact hz,(k2.trans k6).trans k7,acc++[y],vacc++[v],_,g6,upd_same,(RepL.mono (k6.trans k7) _ _ r2).append (.cons (Rep.mono k7 _ _ r6) .nil),S7,xm _,n6,no6,z6⟩
    | false=>
      rw [if_neg Bool.false_ne_true] at z5
      refine iteF ?_
      obtain ⟨d6,k6,Sm,n6,no6,xm⟩:=fin S5 x5
      have xm':=xm vacc
      rw [C5Y d6] at xm'
      exact ⟨k2.trans k6,acc,vacc,_,g5,d6,RepL.mono k6 _ _ r2,Sm,xm',n6,no6,z5⟩
theorem B4g {σ:L2.St} {H:Hp} {Q:VK} (hi:A6E ti) (hsl:∀i∈sl,i∈own.map (·.2)) (mg:o0 g) (mt:B3 tt) (me:B3 te) (q:cE G (A0D (own.map (·.2)) ti g tt te) σ H Q):
    tLc (cIL G ti) (cG G sl g) (cT G tt) (cV G te) (own.map (·.2)) σ H Q:=by
  obtain ⟨env,h,S,q⟩:=q
  refine ⟨env,h,S,hi env h _ _ (fun ok ws env1 h1 z J H1 S1 x1 gv=> ?_) q⟩
  intro D nD
  have hD:H D=none:=x1.fresh nD
  obtain ⟨hd1,hd0,hdo⟩:=S1.noAt nD
  have nw0:New H1 (upd H1 D (.lst [])):=New.upd nD
  exact C4w (R:=fun H'=> Q (.ref D) H') hsl mg mt me hD hd0 gv nw0.keeps upd_same .nil (nw0.bs S1) (x1.trans nw0.xt) hd1 hdo
    (lcLoopL.mono mg mt me (fun acc e h' z vacc H' S2 x2 d2 r2 n2 no2 _=> z _ H' S2 x2 ⟨D,rfl,⟨vacc,d2,r2⟩,n2,hd0,no2⟩ fun p ep=> by cases ep;exact hD) ws [] env1 h1 z)
theorem C4g (hc:X.calm=true) (hN:X.N.Nodup) (hi:AI2 X G tg iter ti) (ok:BlkOk X.N X.env.scope scope own) (hsl:∀i∈sl,i∈own.map (·.2))
    (hg:∀(s:Shared) (H:Hp) (C:Addr) (cl:List (Str×Addr)) (fp:List Addr),AG (X.blk s H scope (compEnvC scope cl C X.env) fp) G tg sl g) (ht:∀(s:Shared) (H:Hp) (C:Addr) (cl:List (Str×Addr)) (fp:List Addr),APs (X.blk s H scope (compEnvC scope cl C X.env) fp) G ifs tt)
    (he:∀(s:Shared) (H:Hp) (C:Addr) (cl:List (Str×Addr)) (fp:List Addr),AV (X.blk s H scope (compEnvC scope cl C X.env) fp) G elt te) (mg:o0 g) (mt:B3 tt) (me:B3 te) (hs:∀x,foldedSetIterable iter X.env x=pure x:=by intro _;rfl):
    AE X G (.ListComp elt [⟨tg,iter,ifs,0⟩] scope pos) (A0D (own.map (·.2)) ti g tt te):=
  ⟨fun env h Q Q' k q=> hi.mono env h _ _ (fun ok ws e1 h1 z=> lcLoopL.mono mg mt me (fun a e h q=> k _ _ _ q) ws [] e1 h1 z) q,PE.imp (pe_lc hc hN hi.pi ok (fun s H C cl fp=> (hg s H C cl fp).pg) (fun s H C cl fp=> (ht s H C cl fp).pts) (fun s H C cl fp=> (he s H C cl fp).pe) hs) fun σ H Q q=> B4g hi.mono hsl mg mt me q⟩
def lc2Loop (ok:AH→Prop) (vs:List Nat) (g:H9) (tt:K9) (ti1:W7) (vs1:List Nat) (g1:H9) (tt1:K9) (te:D3) (Q:List W→A0→AH→Prop):List W→List W→A0→AH→Prop
  | [],acc=> fun env h=> ok h∧Q acc env h
  | w::ws,acc=> fun env h=> ok h∧g w (T5 env vs) h fun e1 h1=> tt e1 h1 fun b e2 h2=> if b=true then ti1 e2 h2 fun ok1 ws1 e3 h3=> lcLoopL ok1 vs1 g1 tt1 te (fun acc' e4 h4=> lc2Loop ok vs g tt ti1 vs1 g1 tt1 te Q ws acc' (mend env e4 vs) h4) ws1 acc e3 h3 else lc2Loop ok vs g tt ti1 vs1 g1 tt1 te Q ws acc (mend env e2 vs) h2
variable {ti1:W7} {g1:H9} {tt1:K9} {vs1 sl1:List Nat} {tg1 iter1:Expr} {ifs1:List Expr}
theorem lc2Loop.mono {ok:AH→Prop} {vs:List Nat} (mg:o0 g) (mt:B3 tt) (mi:A6E ti1) (mg1:o0 g1) (mt1:B3 tt1) (me:B3 te) {Q Q':List W→A0→AH→Prop} (k:∀a e h,Q a e h→Q' a e h):∀(ws acc:List W) env h,lc2Loop ok vs g tt ti1 vs1 g1 tt1 te Q ws acc env h→lc2Loop ok vs g tt ti1 vs1 g1 tt1 te Q' ws acc env h
  | [],acc,env,h,q=> ⟨q.1,k _ _ _ q.2⟩
  | w::ws,acc,env,h,q=> ⟨q.1,mg _ _ _ _ _ (fun e1 h1 z=> mt _ _ _ _ (fun b e2 h2 z=> by
    cases b with
    | true=> rw [if_pos rfl] at z ⊢;exact mi _ _ _ _ (fun ok1 ws1 e3 h3 z=> lcLoopL.mono mg1 mt1 me (fun acc' e4 h4 z=> lc2Loop.mono mg mt mi mg1 mt1 me k ws _ _ _ z) _ _ _ _ z) z
    | false=> rw [if_neg Bool.false_ne_true] at z ⊢;exact lc2Loop.mono mg mt mi mg1 mt1 me k ws _ _ _ z) z) q.2⟩
end
end Ab
namespace Ab
open PySem PySem.Spec PyProof.Rows L2 RZ
mutual
def W.nodct:W→Bool
  | .dct _ _=> false
  | .tup ws=> W.nodcts ws
  | .lst ws=> W.nodcts ws
  | _=> true
def W.nodcts:List W→Bool
  | []=> true
  | w::ws=> w.nodct && W.nodcts ws
end
def SV.nodct:SV→Bool
  | .val w=> w.nodct
  | .own (.seq ws)=> W.nodcts ws
  | .own (.map kvs)=> W.nodcts (kvs.map (·.2))
def X8 (e:A0):Bool:=e.all fun x=> match x with
  | some sv=> sv.nodct
  | none=> true
def noE (env:A0):A0:=env.map fun x=> match x with
  | some (.own _)=> none
  | x=> x
theorem C3X (env:A0):(noE env).length=env.length:=by unfold noE;rw [List.length_map]
theorem A8D {env:A0} {i:Nat} {sv:SV} (e:(noE env)[i]? =some (some sv)):∃w,sv= .val w∧env[i]? =some (some (.val w)):=by
  unfold noE at e
  rw [List.getElem?_map] at e
  cases q:env[i]? with
  | none=> rw [q] at e;cases e
  | some x=>
    rw [q] at e
    cases x with
    | none=> cases e
    | some s=>
      cases s with
      | val w=> cases e;exact ⟨w,rfl,rfl⟩
      | own c=> cases e
section
variable {K:PySem.W.Frag} {H H':Hp} {q:Addr} {od:Obj} {u:HO} {kq:List (Key×V)}
theorem B4P (hq:H q=some (.frz od (.dK kq))) {p:Addr} {o:HO} (e:H p=some o) (n:∀od',o≠ .frz od' (.dK kq)):p≠q:=fun z=> by
  rw [z,hq] at e;exact n od (Option.some.inj e).symm
mutual
theorem Rep.unlock (hq:H q=some (.frz od (.dK kq))) (kp:∀p o,H p=some o→Imm o→p≠q→H' p=some o):∀(w:W) (v:V),w.nodct=true→Rep K H w v→Rep K H' w v
  | .non,_,_,h=> by simpa only [Rep] using h
  | .bl _,_,_,h=> by simpa only [Rep] using h
  | .int _,_,_,h=> by simpa only [Rep] using h
  | .str _,_,_,h=> by simpa only [Rep] using h
  | .ref _,_,_,h=> by simpa only [Rep] using h
  | .ty _,_,_,h=> by simpa only [Rep] using h
  | .tup ws,v,d,h=> by
    simp only [Rep] at h ⊢
    obtain ⟨a,vs,e,s,r⟩:=h
    refine ⟨a,vs,e,s.imp (fun e=> kp _ _ e trivial (B4P hq e fun _ z=> by cases z)) id,RepL.unlock hq kp ws vs ?_ r⟩
    simpa only [W.nodct] using d
  | .lst ws,v,d,h=> by
    simp only [Rep] at h ⊢
    obtain ⟨a,vs,e,⟨o,s⟩,r⟩:=h
    refine ⟨a,vs,e,⟨o,kp _ _ s trivial (B4P hq s fun _ z=> by cases z)⟩,RepL.unlock hq kp ws vs ?_ r⟩
    simpa only [W.nodct] using d
  | .dct ks ws,v,d,h=> by simp only [W.nodct] at d;cases d
theorem RepL.unlock (hq:H q=some (.frz od (.dK kq))) (kp:∀p o,H p=some o→Imm o→p≠q→H' p=some o):∀(ws:List W) (vs:List V),W.nodcts ws=true→RepL K H ws vs→RepL K H' ws vs
  | [],vs,_,h=> by simpa only [RepL] using h
  | w::ws,vs,d,h=> by
    simp only [W.nodcts,Bool.and_eq_true] at d
    simp only [RepL] at h ⊢
    obtain ⟨v,r,e,a,b⟩:=h
    exact ⟨v,r,e,Rep.unlock hq kp w v d.1 a,RepL.unlock hq kp ws r d.2 b⟩
end
theorem CRep.unlock (hq:H q=some (.frz od (.dK kq))) (kp:∀p o,H p=some o→Imm o→p≠q→H' p=some o) {p:Addr} (s:H' p=H p):∀{c:Cont},(SV.own c).nodct=true→CRep K H p c→CRep K H' p c
  | .seq ws,d,⟨vs,e,r⟩=> ⟨vs,s.trans e,RepL.unlock hq kp _ _ d r⟩
  | .map kvs,d,.inl ⟨ks,e,t,r⟩=> .inl ⟨ks,s.trans e,t,RepL.unlock hq kp _ _ d r⟩
  | .map kvs,d,.inr ⟨ks,e,t,r⟩=> .inr ⟨ks,s.trans e,t,RepL.unlock hq kp _ _ d r⟩
theorem TabsK.unlock {o o':HO} (t:TabsK K H) (e:H q=some o) (n:∀ps,o≠ .tbl ps) (n2:∀φ,o≠ .ext φ):TabsK K (L2.upd H q o'):=fun p hp=> by
  obtain ⟨ps,h1,h2,h3⟩:=t p hp
  refine ⟨ps,?_,h2,fun pos cv hc=> ?_⟩
  · rw [upd_ne (fun z=> by rw [z,e] at h1;exact n _ (Option.some.inj h1))];exact h1
  · obtain ⟨c,e1,e2⟩:=h3 pos cv hc
    refine ⟨c,e1,?_⟩
    rw [upd_ne (fun z=> by rw [z,e] at e2;exact n2 _ (Option.some.inj e2))];exact e2
end
section
variable {G:Gx} {env e:A0} {h:AH} {σ σ':L2.St} {H Hk:Hp} {q:Addr} {od:Obj} {kq:List (Key×V)}
open Classical
noncomputable def A1I (G:Gx) (env:A0) (σ:L2.St) (H:Hp):Gx:=⟨G.K,fun _=> none,fun p=> if OwnAt env σ p then none else H p⟩
theorem A3W {p:Addr} {o:HO} (n:¬OwnAt env σ p) (e:H p=some o):(A1I G env σ H).H0 p=some o:=by
  show (if OwnAt env σ p then none else H p)=_
  rw [if_neg n];exact e
theorem B4B {p:Addr} {o:HO} (e:(A1I G env σ H).H0 p=some o):¬OwnAt env σ p∧H p=some o:=by
  have e:(if OwnAt env σ p then none else H p)=some o:=e
  by_cases n:OwnAt env σ p
  · rw [if_pos n] at e;cases e
  · rw [if_neg n] at e;exact ⟨n,e⟩
theorem BS.lock (S:BS G env h σ H) {l:List (Str×W)} (hq:h q=some (.cont (.map (smap l)))):∃kq,H q=some (.dK kq)∧kq.map (·.1)=l.map (fun p=> Sum.inr p.1)∧RepL G.K H (l.map (·.2)) (kq.map (·.2))∧¬OwnAt env σ q∧
    ∀od,BS (A1I G env σ (upd H q (.frz od (.dK kq)))) env (fun _=> none) σ (upd H q (.frz od (.dK kq)))∧Keeps H (upd H q (.frz od (.dK kq))):=by
  obtain ⟨kq,e0,e1,e2⟩:=A2L (S.hp q _ hq)
  have noq:¬OwnAt env σ q:=fun ⟨i,c,a,b⟩=> by
    obtain ⟨p,x,_,n,_⟩:=S.own i c a
    rw [b] at x;cases x
    rw [hq] at n;cases n
  refine ⟨kq,e0,e1,e2,noq,fun od=> ?_⟩
  have kp:Keeps H (upd H q (.frz od (.dK kq))):=fun p o e i=> by
    have n:p≠q:=fun z=> by rw [z,e0] at e;cases e;exact i.elim
    rw [upd_ne n];exact e
  refine ⟨⟨S.len,fun i w z=> ?_,fun i c z=> ?_,S.uni,fun _ _ z=> (by cases z),fun p o z _ _=> (B4B z).2,fun _ _ z=> (by cases z),fun p o z=> ⟨o,(B4B z).2⟩,S.tabs.upd fun o z=> (by rw [e0] at z;cases z;trivial)⟩,kp⟩
  · obtain ⟨v,a,b⟩:=S.val i w z;exact ⟨v,a,Rep.mono kp w v b⟩
  · obtain ⟨p,a,b,_,_⟩:=S.own i c z
    have np:p≠q:=fun y=> noq ⟨i,c,z,y▸a⟩
    refine ⟨p,a,b.mono kp (upd_ne np),rfl,?_⟩
    show (if OwnAt env σ p then none else _)=none
    rw [if_pos ⟨i,c,z,a⟩]
theorem BS.open (S:BS G env h σ H) {l:List (Str×W)} (hq:h q=some (.cont (.map (smap l)))) (e0:H q=some (.dK kq)) (Sk:BS (A1I G env σ (upd H q (.frz od (.dK kq)))) e (fun _=> none) σ' Hk) (nd:X8 e=true):
    Hk q=some (.frz od (.dK kq))∧BS G e h σ' (upd Hk q (.dK kq))∧Keeps H (upd Hk q (.dK kq)):=by
  have noq:¬OwnAt env σ q:=fun ⟨i,c,a,b⟩=> by
    obtain ⟨p,x,_,n,_⟩:=S.own i c a
    rw [b] at x;cases x
    rw [hq] at n;cases n
  have fr:∀p o,H p=some o→p≠q→¬OwnAt env σ p→NT o→Hk p=some o:=fun p o e n w t=> Sk.fr p o (A3W w (by rw [upd_ne n];exact e)) rfl t
  have hk:Hk q=some (.frz od (.dK kq)):=Sk.fr q _ (A3W noq upd_same) rfl (fun _ z=> (by cases z))
  have kp:Keeps H (upd Hk q (.dK kq)):=fun p o e i=> by
    have n:p≠q:=fun z=> by rw [z,e0] at e;cases e;exact i.elim
    rw [upd_ne n]
    exact fr p o e n (S.imm e i).2 i.nt
  have up:∀p o,Hk p=some o→Imm o→p≠q→upd Hk q (.dK kq) p=some o:=fun p o e _ n=> by rw [upd_ne n];exact e
  have at_:∀{j:Nat} {sv:SV},e[j]? =some (some sv)→sv.nodct=true:=fun {j sv} z=> by
    have:=List.all_eq_true.mp nd (some sv) (List.mem_of_getElem? z)
    exact this
  have not_own:∀{p:Addr} {o:HO},H p=some o→(A1I G env σ (upd H q (.frz od (.dK kq)))).H0 p=none→p≠q→OwnAt env σ p:=fun {p o} e n ne=> Classical.byContradiction fun y=> by
    rw [A3W y (show upd H q _ p=some o by rw [upd_ne ne];exact e)] at n;cases n
  refine ⟨hk,⟨Sk.len,fun i w z=> ?_,fun i c z=> ?_,Sk.uni,fun a o z=> ?_,fun p o z y t=> ?_,S.ext,fun p o z=> ?_,Sk.tabs.unlock hk (fun _ z=> (by cases z)) (fun _ z=> (by cases z))⟩,kp⟩
  · obtain ⟨v,a,b⟩:=Sk.val i w z
    exact ⟨v,a,Rep.unlock hk up w v (at_ z) b⟩
  · obtain ⟨p,a,b,_,d⟩:=Sk.own i c z
    have np:p≠q:=fun y=> by
      obtain ⟨o,eo,m⟩:=b.there
      rw [y,hk] at eo;cases eo;exact m
    refine ⟨p,a,b.unlock hk up (upd_ne np) (at_ z),?_,?_⟩
    · cases x:h p with
      | none=> rfl
      | some o=>
        obtain ⟨u,eu,_⟩:=(S.hp p o x).there
        obtain ⟨j,c',f1,f2⟩:=not_own eu d np
        obtain ⟨p',f3,_,f4,_⟩:=S.own j c' f1
        rw [f2] at f3;cases f3
        rw [f4] at x;cases x
    · cases x:G.H0 p with
      | none=> rfl
      | some o=>
        obtain ⟨u,eu⟩:=S.tr p o x
        obtain ⟨j,c',f1,f2⟩:=not_own eu d np
        obtain ⟨p',f3,_,_,f4⟩:=S.own j c' f1
        rw [f2] at f3;cases f3
        rw [f4] at x;cases x
  · by_cases ha:a=q
    · subst ha
      rw [hq] at z;cases z
      exact CRep.mono kp (upd_same.trans e0.symm) (show CRep G.K H a (.map (smap l)) from S.hp a _ hq)
    · obtain ⟨u,eu,m⟩:=(S.hp a o z).there
      have no:¬OwnAt env σ a:=fun ⟨j,c',f1,f2⟩=> by
        obtain ⟨p',f3,_,f4,_⟩:=S.own j c' f1
        rw [f2] at f3;cases f3
        rw [f4] at z;cases z
      exact (S.hp a o z).mono kp (by rw [upd_ne ha,fr a u eu ha no m.nt,eu])
  · have e:=S.fr p o z y t
    have np:p≠q:=fun x=> by
      subst x
      rw [S.ext p _ hq y] at z;cases z
    rw [upd_ne np]
    refine fr p o e np (fun ⟨j,c',f1,f2⟩=> ?_) t
    obtain ⟨p',f3,_,_,f4⟩:=S.own j c' f1
    rw [f2] at f3;cases f3
    rw [f4] at z;cases z
  · by_cases np:p=q
    · subst np;exact ⟨_,upd_same⟩
    · obtain ⟨u,eu⟩:=S.tr p o z
      have no:¬OwnAt env σ p:=fun ⟨j,c',f1,f2⟩=> by
        obtain ⟨p',f3,_,_,f4⟩:=S.own j c' f1
        rw [f2] at f3;cases f3
        rw [f4] at z;cases z
      obtain ⟨u',eu'⟩:=Sk.tr p u (A3W no (by rw [upd_ne np];exact eu))
      exact ⟨u',by rw [upd_ne np];exact eu'⟩
theorem BS.le {G:Gx} {env:A0} {h h':AH} {σ:L2.St} {H:Hp} (S:BS G env h σ H) (l:AH.Le h' h):BS G env h' σ H:=
  ⟨S.len,S.val,fun i c e=> (by
    obtain ⟨p,a,b,d,f⟩:=S.own i c e
    refine ⟨p,a,b,?_,f⟩
    cases z:h' p with
    | none=> rfl
    | some u=> rw [l p u z] at d;cases d),S.uni,fun a o e=> S.hp a o (l a o e),S.fr,fun a o e=> S.ext a o (l a o e),S.tr,S.tabs⟩
end
def itL (a b:Nat) (tb:C0) (D:A0→Prop):List (Str×W)→A0→Prop
  | [],e=> X8 e=true∧D e
  | p::r,e=> tb ⟨fun e' _=> itL a b tb D r e',fun _ _ _=> False,fun _ _=> False,fun e' _=> itL a b tb D r e'⟩ ((e.set a (some (.val (.str p.1)))).set b (some (.val p.2))) fun _=> none
theorem itL.mono {a b:Nat} {tb:C0} (m:u5 tb) {D D':A0→Prop} (k:∀e,D e→D' e):∀(l:List (Str×W)) (e:A0),itL a b tb D l e→itL a b tb D' l e
  | [],e,q=> ⟨q.1,k e q.2⟩
  | p::r,e,q=> m ⟨fun e' _=> itL a b tb D r e',fun _ _ _=> False,fun _ _=> False,fun e' _=> itL a b tb D r e'⟩ ⟨fun e' _=> itL a b tb D' r e',fun _ _ _=> False,fun _ _=> False,fun e' _=> itL a b tb D' r e'⟩ _ _ ⟨fun e' _ z=> itL.mono m k r e' z,fun _ _ _ z=> z,fun _ _ z=> z,fun e' _ z=> itL.mono m k r e' z⟩ q
def C5n (i:Nat) (n f:Str) (env:A0) (h:AH) (s q:Addr) (l:List (Str×W)):Prop:=∃fs,env[i]? =some (some (.val (.ref s)))∧h s=some (.ins n fs)∧fs.lookup f=some (.ref q)∧h q=some (.cont (.map (smap l)))
def B1H (i:Nat) (n f:Str) (a b:Nat) (tb:C0):C0:=fun D env h=> ∃s q l,C5n i n f env h s q l∧itL a b tb (fun e=> D.nx e h) l env
section
variable {X:Cx} {G:Gx} {i a b:Nat} {n f A B Sn:Str} {body:List Stmt} {pos p1 p2 p3 p4 p5 p6 p7:Pos} {k0:Nat} {tb:C0}
theorem C2b (gk:G.K=X.K) (hp:PassesOwn (model X.prog X.w) X.A X.env X.xe) (hc:X.calm=true) (hN:X.N.Nodup) (F:FldOk X.K n f) (ho:PE X (.Name Sn p1) (tVar i)) (ga:PG X (.Name A p4) (gName a)) (gb:PG X (.Name B p5) (gName b))
    (hb:∀(G':Gx),G'.K=X.K→ASs X G' body tb)
    (hfb:attributeBase (.Name Sn p1) f X.env (eval (.Name Sn p1) X.env)=eval (.Name Sn p1) X.env:=by rfl) (hbase:attributeBase (.Attribute (.Name Sn p1) f p2) "items" X.env (eval (.Attribute (.Name Sn p1) f p2) X.env)=eval (.Attribute (.Name Sn p1) f p2) X.env:=by rfl) (hline:(p3.endLine==p6.line)=true:=by rfl)
    (ht:(assignEach [.Name A p4,.Name B p5] X.env).map (·.2)=[assign (.Name A p4) X.env,assign (.Name B p5) X.env]:=by rfl) (hn:(assignEach [.Name A p4,.Name B p5] X.env).length=2:=by rfl) (hst:(assignEach [.Name A p4,.Name B p5] X.env).findIdx? (·.1)=none:=by rfl)
    (ht2:(assignEach [.Name B p5] X.env).map (·.2)=[assign (.Name B p5) X.env]:=by rfl)
    (hs:∀x,foldedSetIterable (.Call (.Attribute (.Attribute (.Name Sn p1) f p2) "items" p3) [] [] p6) X.env x=pure x:=by intro _;rfl):
    AS X G (.For (.Tuple [.Name A p4,.Name B p5] k0 p7) (.Call (.Attribute (.Attribute (.Name Sn p1) f p2) "items" p3) [] [] p6) body [] pos) (B1H i n f a b tb):=by
  have mb:=(hb G gk).mono
  refine ⟨fun D D' env h l ⟨s,q,kvs,z1,z2⟩=> ⟨s,q,kvs,z1,itL.mono mb (fun e y=> l.nx e h y) _ _ z2⟩,?_⟩
  have pb:PSs X body (fun D σ H=> ∃G':Gx,G'.K=X.K∧cS G' tb D σ H):=⟨fun pins s σ H D I ⟨G',g,q⟩=> (hb G' g).ps.run pins s σ H D I q⟩
  refine PS.imp (ps_lock (ps_for hp hc (pi_items (pe_fld ho hfb) hbase hline) (pg_tup hc (pgs_cons ga (pgs_cons gb pgs_nil ht2) ht) hn hst) pb hs)) fun D σ H ⟨env,h,Da,S,⟨s,q,l,⟨fs,z1,z2,z3,z4⟩,z⟩,lk⟩=> ?_
  obtain ⟨kq,e0,e1,e2,noq,lock⟩:=S.lock z4
  refine ⟨q,.dK kq,e0,trivial,fun od=> ?_⟩
  obtain ⟨S1,k1⟩:=lock od
  obtain ⟨v,ev,rv⟩:=S.val i _ z1
  have ev2:v= .ref s:=Rep.of_ref (K:=G.K) (H:=H) rv
  subst ev2
  obtain ⟨dx,vs,ei,fr⟩:=S.hp s _ z2
  obtain ⟨v2,e3,rv2⟩:=fr.look.1 _ z3
  have ev3:v2= .ref q:=Rep.of_ref (K:=G.K) (H:=H) rv2
  subst ev3
  have nsq:s≠q:=fun y=> by rw [y,e0] at ei;cases ei
  refine ⟨_,ev,s,_,dx,vs,_,rfl,by rw [upd_ne nsq,←gk];exact ei,F.cl,F.no,e3,q,od,kq,rfl,upd_same,?_⟩
  have hlen:kq.length=l.length:=by have:=congrArg List.length e1;simpa using this
  have gk':(A1I G env σ (upd H q (.frz od (.dK kq)))).K=X.K:=gk
  have key:∀(j:Nat) (σ':L2.St) (H':Hp) (e:A0),BS (A1I G env σ (upd H q (.frz od (.dK kq)))) e (fun _=> none) σ' H'→itL a b tb (fun e=> Da.nx e h) [] e→H' q=some (.frz od (.dK kq))∧D.nx σ' (upd H' q (.dK kq)):=fun j σ' H' e Sk ze=> by
    obtain ⟨y1,y2,y3⟩:=S.open z4 e0 Sk ze.1
    exact ⟨y1,lk.nx _ _ _ _ y2 y3 ze.2⟩
  refine ⟨fun j m σ' H'=> l.length≤j+m∧∃e,BS (A1I G env σ (upd H q (.frz od (.dK kq)))) e (fun _=> none) σ' H'∧itL a b tb (fun e=> Da.nx e h) (l.drop j) e,⟨l.length,by omega,env,S1,by simpa using z⟩,?_⟩
  rintro j m σ2 H2 ⟨hm,e,S2,ze⟩
  have hq2:H2 q=some (.frz od (.dK kq)):=S2.fr q _ (A3W noq upd_same) rfl (fun _ z=> (by cases z))
  have kk:Keeps H H2:=fun p o eo im=> by
    have np:p≠q:=fun z=> by rw [z,e0] at eo;cases eo;exact im.elim
    exact S2.fr p o (A3W (S.imm eo im).2 (by rw [upd_ne np];exact eo)) rfl im.nt
  cases el:l[j]? with
  | none=>
    have hl:=List.getElem?_eq_none_iff.mp el
    rw [List.drop_eq_nil_of_le hl] at ze
    exact .inl ⟨⟨hq2,by omega⟩,key j σ2 H2 e S2 ze⟩
  | some p=>
    obtain ⟨hl,ew⟩:=List.getElem?_eq_some_iff.mp el
    have ed:l.drop j=p::l.drop (j+1):=by rw [List.drop_eq_getElem_cons hl,ew]
    rw [ed] at ze
    refine .inr ⟨⟨hq2,by omega⟩,fun σ' H'=> ∃e,BS (A1I G env σ (upd H q (.frz od (.dK kq)))) e (fun _=> none) σ' H'∧itL a b tb (fun e=> Da.nx e h) (l.drop (j+1)) e,fun σ' H' n=> ⟨m - 1,by omega,by omega,n⟩,fun x H3 y=> ?_⟩
    obtain ⟨T,kk1,v1,ek,ex,nT,e3'⟩:=y
    subst ex e3'
    have ekey:kk1= .inr p.1:=by
      have z1:(kq.map (·.1))[j]? =some kk1:=by rw [List.getElem?_map,ek];rfl
      rw [e1,List.getElem?_map,el] at z1
      exact (Option.some.inj z1).symm
    subst ekey
    have rv1:Rep G.K H p.2 v1:=by
      obtain ⟨u,y1,y2⟩:=e2.get (i:=j) (w:=p.2) (by rw [List.getElem?_map,el];rfl)
      rw [List.getElem?_map,ek] at y1
      cases y1;exact y2
    have nw:New H2 (upd H2 T (.tup [kV (.inr p.1),v1])):=New.upd nT
    refine ⟨T,_,rfl,.inl (.inl upd_same),rfl,_,_,rfl,_,_,rfl,rfl,?_⟩
    have S3:=(nw.bs S2).set (r:= .val (.str p.1)) a (show Rep G.K (upd H2 T (.tup [kV (.inr p.1),v1])) (.str p.1) (kV (.inr p.1)) from .str) trivial
    have S4:=S3.set (r:= .val p.2) b (show Rep G.K (upd H2 T (.tup [kV (.inr p.1),v1])) p.2 v1 from Rep.mono (kk.trans nw.keeps) _ _ rv1) trivial
    refine ⟨_,gk',_,_,⟨fun e' _=> itL a b tb (fun e=> Da.nx e h) (l.drop (j+1)) e',fun _ _ _=> False,fun _ _=> False,fun e' _=> itL a b tb (fun e=> Da.nx e h) (l.drop (j+1)) e'⟩,S4,ze,⟨fun e' h' σ' H' S' _ y=> ⟨e',S'.le (fun _ _ z=> (by cases z)),y⟩,fun _ _ _ _ _ _ _ _ _ z=> z.elim,fun _ _ _ _ _ _ z=> z.elim,fun e' h' σ' H' S' _ y=> ⟨e',S'.le (fun _ _ z=> (by cases z)),y⟩⟩⟩
end
end Ab
namespace Ab
open PySem PySem.Spec PyProof.Rows L2 RZ
def Sta (H H':Hp):Prop:=∀p o,H p=some o→NT o→H' p=some o
section
variable {G:Gx} {env e:A0} {h:AH} {σ σ':L2.St} {H H':Hp}
theorem Sta.keeps (s:Sta H H'):Keeps H H':=fun p o e i=> s p o e i.nt
theorem BS.same (S:BS G env h σ H) (s:Sta H H') (th:∀p o,H p=some o→∃u,H' p=some u) (tb:TabsK G.K H'):BS G env h σ H'∧Xt env h σ H env h H':=by
  refine ⟨⟨S.len,fun i w z=> ?_,fun i c z=> ?_,S.uni,fun a o z=> ?_,fun p o z y t=> s p o (S.fr p o z y t) t,S.ext,fun p o z=> ?_,tb⟩,⟨fun p o e _ _ t=> s p o e t,fun p o e n=> (by rw [n] at e;cases e),th,fun i c e=> ⟨c,e⟩⟩⟩
  · obtain ⟨v,a,b⟩:=S.val i w z;exact ⟨v,a,Rep.mono s.keeps w v b⟩
  · obtain ⟨p,a,b,d,f⟩:=S.own i c z
    obtain ⟨u,eu,m⟩:=b.there
    exact ⟨p,a,b.mono s.keeps ((s p u eu m.nt).trans eu.symm),d,f⟩
  · obtain ⟨u,eu,m⟩:=(S.hp a o z).there
    exact (S.hp a o z).mono s.keeps ((s a u eu m.nt).trans eu.symm)
  · obtain ⟨u,eu⟩:=S.tr p o z;exact th p u eu
theorem BS.small (S:BS G env h σ H):BS ⟨G.K,fun _=> none,H⟩ (noE env) (fun _=> none) σ H:=by
  refine ⟨(C3X env).trans S.len,fun i w z=> ?_,fun i c z=> ?_,fun i j c c' p a b _ _=> ?_,fun _ _ z=> (by cases z),fun p o z _ _=> z,fun _ _ z=> (by cases z),fun p o z=> ⟨o,z⟩,S.tabs⟩
  · obtain ⟨w',e1,e2⟩:=A8D z
    cases e1
    exact S.val i w e2
  · obtain ⟨w',e1,_⟩:=A8D z;cases e1
  · obtain ⟨w',e1,_⟩:=A8D a;cases e1
def VOnly (e:A0):Prop:=∀(i:Nat) (c:Cont),e[i]? ≠some (some (.own c))
theorem VOnly.noE:VOnly (noE env):=fun i c z=> by obtain ⟨w',e1,_⟩:=A8D z;cases e1
theorem VOnly.set (v:VOnly e) {a:Nat} {w:W}:VOnly (e.set a (some (.val w))):=fun i c z=> by
  by_cases hi:a=i
  · subst hi
    by_cases hl:a < e.length
    · rw [List.getElem?_set_self hl] at z;cases z
    · rw [List.getElem?_eq_none (by rw [List.length_set];omega)] at z;cases z
  · rw [List.getElem?_set_ne hi] at z;exact v i c z
theorem VOnly.no (v:VOnly e) {p:Addr}:¬OwnAt e σ p:=fun ⟨i,c,z,_⟩=> v i c z
end
def B1f (a b:Nat) (e0:A0) (p:Str×W):A0:=(e0.set a (some (.val (.str p.1)))).set b (some (.val p.2))
def dcL (a b:Nat) (tk tv:D3) (Q:List (Str×W)→Prop) (e0:A0):List (Str×W)→List (Str×W)→Prop
  | [],acc=> W.nodcts (acc.map (·.2))=true∧Q acc
  | p::r,acc=> tk (B1f a b e0 p) (fun _=> none) fun w e2 _=> e2=B1f a b e0 p∧tv (B1f a b e0 p) (fun _=> none) fun u _ _=> ∃s,w= .str s∧acc.length < sizeLine∧dcL a b tk tv Q e0 r (Q9 acc s u)
theorem dcL.mono {a b:Nat} {tk tv:D3} {e0:A0} (mk:B3 tk) (mv:B3 tv) {Q Q':List (Str×W)→Prop} (k:∀l,Q l→Q' l):∀(l acc:List (Str×W)),dcL a b tk tv Q e0 l acc→dcL a b tk tv Q' e0 l acc
  | [],acc,q=> ⟨q.1,k _ q.2⟩
  | p::r,acc,q=> mk _ _ _ _ (fun w e2 _ ⟨z1,z2⟩=> ⟨z1,mv _ _ _ _ (fun u _ _ ⟨s,y1,y2,y3⟩=> ⟨s,y1,y2,dcL.mono mk mv k r _ y3⟩) z2⟩) q
section
variable {X:Cx} {G:Gx} {i a b:Nat} {n f A B Sn:Str} {kx vx:Expr} {pos p1 p2 p3 p4 p5 p6 p7:Pos} {k0:Nat} {tk tv:D3} {scope:Scope} {own:List (Str×Nat)}
end
end Ab
namespace Ab
open PySem PySem.Spec PyProof.Rows L2 RZ
abbrev EF:XK:=fun _ _ _=> False
theorem B7J {X:Cx} {σ:L2.St}:PassesAt (L2.CX X.prog X.w) X σ EF:=fun _ _ _ _ _ _ ⟨_,_,_,_,_,_,_,_,_,_,_,_,z⟩=> False.elim z
section
variable {X:Cx} {CX:CXT} {k:Nat} {f C:Addr} {fd:FuncData} {ps:List Str} {sp:Sp} {E:XK}
theorem B56 {pins:List (Addr×Obj)} {σ:L2.St} {H:Hp} {s:Shared} {Q:VK} {us:List Value} {vs:List V} (F:FnOk X.prog X.w X.K X.mg X.base CX k f fd ps sp) (hr:Room (k+1) X.A) (hb:Binds X.K fd ps []) (hx:PassesAt CX X σ E)
    (I:Inv X pins σ H s) (r:Vals vs us) (h:sp vs H Q E):wpAny (model X.prog X.w) X.A.in1 (call (.ref f) us) (EP X pins σ Q) X.xe s:=by
  have hl:us.length=ps.length:=by rw [←r.length];exact F.len _ _ _ _ h
  refine wpAny_call (codeAny_mono (F.run X.A.in1 X.stack s H ⟨us,[]⟩ us vs Q E hr.in1 I.env0.in1 (by have z:=hb s us I.kIn (by rw [List.append_nil];exact hl);rw [List.append_nil] at z;exact z) r h) fun r s' hq=> ?_)
  cases r with
  | error e=> exact hx pins H s e s' I hq
  | ok fl=> cases fl <;> first | exact I.after hq | exact False.elim hq
def B2A (C:Addr) (sp:Sp) (po:V→Prop):List V→Hp→VK→Prop:=fun xs H Q=> ∃a dx fs,xs=[.ref a]∧H a=some (.ins C dx fs)∧sp [.ref a] H (fun v H'=> po v∧Q v H') EF
def B7F:V→Prop:=fun v=> ∃n:Int,v= .int n∧0≤n∧n < 2 ^ 63
def B6v:V→Prop:=fun v=> ∃s,v= .str s
theorem C30 (F:FnOk X.prog X.w X.K X.mg X.base (L2.CX X.prog X.w) k f fd ps sp) (M:Meth X.K C "__len__" f) (hr:Room (k+1) X.A) (hb:Binds X.K fd ps []):CallR X (.builtin "len") (B2A C sp B7F):=by
  intro pins s σ H xs us Q I r h
  obtain ⟨a,dx,fs,rfl,e,q⟩:=h
  rw [Vals.ref1 r]
  obtain ⟨mA,J,_⟩:=ins_get I.hok e
  obtain ⟨od,J,_⟩:=J.look
  obtain ⟨m,hF⟩:=I.fr
  refine PySem.W.len_K hF I.ok.mod.kin J M.at_ M.fn (thn (B56 (us:=[.ref a]) (vs:=[.ref a]) F hr hb B7J I (.cons rfl .nil) q) fun u s' ⟨v,H',I',rv,⟨n,ev,h0,h1⟩,q⟩=> ?_)
  subst ev
  obtain ⟨t,rfl⟩:=(show ∃t,u=Value.int n t from rv)
  exact ⟨⟨h0,h1⟩,.int n,H',I'.tok _,⟨_,rfl⟩,q⟩
theorem C1q (F:FnOk X.prog X.w X.K X.mg X.base (L2.CX X.prog X.w) k f fd ps sp) (M:Meth X.K C "__repr__" f) (hr:Room (k+1) X.A) (hb:Binds X.K fd ps []):CallR X (.builtin "repr") (B2A C sp B6v):=by
  intro pins s σ H xs us Q I r h
  obtain ⟨a,dx,fs,rfl,e,q⟩:=h
  rw [Vals.ref1 r]
  obtain ⟨mA,J,_⟩:=ins_get I.hok e
  obtain ⟨od,J,_⟩:=J.look
  obtain ⟨m,hF⟩:=I.fr
  refine PySem.W.repr_K hr.in1.units0 hF I.ok.mod.kin J M.at_ M.fn (thn (B56 (us:=[.ref a]) (vs:=[.ref a]) F hr hb B7J I (.cons rfl .nil) q) fun u s' ⟨v,H',I',rv,⟨n,ev⟩,q⟩=> ?_)
  subst ev
  obtain ⟨t,rfl⟩:=(show ∃t,u=Value.str n t from rv)
  exact ⟨.str n,H',I',⟨_,rfl⟩,q⟩
open Builtin in
structure NeOk (K:PySem.W.Frag) (C:Addr):Prop where
  ne:PySem.W.findIn K (.ref C) "__ne__"=some (some (.builtin "object.__ne__"))
  mr:PySem.W.mroIn K C (.type "object")=some true
open Builtin in
end
end Ab
namespace Ab
open PySem PySem.Spec PyProof.Rows L2 RZ
def A8a:RR→(RV→Prop)→Prop:=fun r K=> ∃n:Int,r= .val (.int n)∧0≤n∧n < 2 ^ 63∧K (.val (.int n))
def A8s:RR→(RV→Prop)→Prop:=fun r K=> ∃s:Str,r= .val (.str s)∧K (.val (.str s))
def aOwn (C:Str) (sp:G1) (po:RR→(RV→Prop)→Prop) (to:AT):AT:=fun env h Q=> to env h fun r env1 h1=> ∃a fs,r= .val (.ref a)∧h1 a=some (.ins C fs)∧sp [.ref a] h1 (fun x h2=> po x fun y=> Q y env1 h2) fun _ _=> False
def A6G (po:RR→(RV→Prop)→Prop):Prop:=∀r K K',(∀y,K y→K' y)→po r K→po r K'
theorem B0W:A6G A8a:=fun r K K' k ⟨n,a,b,c,d⟩=> ⟨n,a,b,c,k _ d⟩
theorem B0Q:A6G A8s:=fun r K K' k ⟨n,a,d⟩=> ⟨n,a,k _ d⟩
theorem aOwn.mono {C:Str} {sp:G1} {po:RR→(RV→Prop)→Prop} {to:AT} (sm:Q7 sp) (pm:A6G po) (m:B3 to):B3 (aOwn C sp po to):=fun env h Q Q' k q=>
  m env h _ _ (fun r e g ⟨a,fs,z1,z2,z⟩=> ⟨a,fs,z1,z2,sm _ _ _ _ _ _ (fun x f y=> pm _ _ _ (fun y' z=> k _ _ _ z) y) (fun _ _ z=> z) z⟩) q
section
variable {X:Cx} {G:Gx} {sp:G1} {C:Str} {st:Stmt} {k j:Nat} {ps:List Str} {o o2:Expr} {p pos:Pos} {to t2:AT}
theorem B4V {isv:V→Prop} {po:RR→(RV→Prop)→Prop} {σ:L2.St} {H:Hp} {Q:VK} (gk:G.K=X.K) (sm:Q7 sp) (pm:A6G po) (mo:B3 to) (hv:∀r (K:RV→Prop),po r K→∃w,r= .val w∧K (.val w)∧∀K' H' v,Rep K' H' w v→isv v)
    (q:cE G (aOwn C sp po to) σ H Q):cE G to σ H fun x H1=> B2A (He.ga X.K C) (P8 G.K 1 sp) isv [x] H1 Q:=by
  obtain ⟨env,h,S,q⟩:=q
  refine ⟨env,h,S,mo env h _ _ (fun r env1 h1 ⟨a,fs,z1,z2,z⟩ x H1 S1 x1 r1 _=> ?_) q⟩
  subst z1
  have ex:x= .ref a:=Rep.of_ref (K:=G.K) (H:=H1) r1
  subst ex
  obtain ⟨dx,vs,ea,_⟩:=S1.hp a _ z2
  refine ⟨a,dx,vs,rfl,gk▸ea,[.ref a],h1,_,_,rfl,S1.hp,S1.tabs,.cons .ref .nil,z,fun r h' v H' y c rr=> ?_,fun _ _ _ _ _ z _ _=> z.elim⟩
  obtain ⟨S3,x3⟩:=S1.after c
  obtain ⟨w,e,yy,hw⟩:=hv _ _ y
  clear y
  subst e
  exact ⟨hw _ _ _ rr,yy v H' S3 (x1.trans x3) rr trivial⟩
theorem C3u (gk:G.K=X.K) (O:OkM X.prog X.w X.K X.mg X.base C "__len__" st k 1 ps [] sp) (bd:V1 C "__len__" st ps) (hr:Room j X.A) (kj:k+1≤j) (hg:Gl X "len") (hm:X.mg "len"=none) (ho:AE X G o to) (hs:starEach [o] X.env=[(false,eval o X.env)]:=by rfl):
    AE X G (.Call (.Name "len" p) [o] [] pos) (aOwn C sp A8a to):=by
  obtain ⟨f,fd,M,FD,F⟩:=O.ex
  have F:FnOk X.prog X.w X.K X.mg X.base (L2.CX X.prog X.w) k f fd ps (P8 G.K 1 sp):=gk▸F
  refine ⟨aOwn.mono O.sm B0W ho.mono,PE.imp (pe_callB (C30 F M (hr.mono kj) (FD.bindsN bd)) hg hm O1 (pa_cons ho.pe pa_nil hs) (by decide) (by decide) hs (by rw [show starEach [] X.env=[] from rfl];rfl)) fun σ H Q q=> ?_⟩
  exact B4V (isv:=B7F) gk O.sm B0W ho.mono (fun r K ⟨n,a,b,c,d⟩=> ⟨.int n,a,d,fun K' H' v rv=> ⟨n,Rep.of_int rv,b,c⟩⟩) q
theorem C2z:bootBuiltins "repr"=some (.builtin "repr"):=by decide+kernel
theorem C2M (gk:G.K=X.K) (O:OkM X.prog X.w X.K X.mg X.base C "__repr__" st k 1 ps [] sp) (bd:V1 C "__repr__" st ps) (hr:Room j X.A) (kj:k+1≤j) (hg:Gl X "repr") (hm:X.mg "repr"=none) (ho:AE X G o to) (hs:starEach [o] X.env=[(false,eval o X.env)]:=by rfl):
    AE X G (.Call (.Name "repr" p) [o] [] pos) (aOwn C sp A8s to):=by
  obtain ⟨f,fd,M,FD,F⟩:=O.ex
  have F:FnOk X.prog X.w X.K X.mg X.base (L2.CX X.prog X.w) k f fd ps (P8 G.K 1 sp):=gk▸F
  refine ⟨aOwn.mono O.sm B0Q ho.mono,PE.imp (pe_callB (C1q F M (hr.mono kj) (FD.bindsN bd)) hg hm C2z (pa_cons ho.pe pa_nil hs) (by decide) (by decide) hs (by rw [show starEach [] X.env=[] from rfl];rfl)) fun σ H Q q=> ?_⟩
  exact B4V (isv:=B6v) gk O.sm B0Q ho.mono (fun r K ⟨n,a,d⟩=> ⟨.str n,a,d,fun K' H' v rv=> ⟨n,Rep.of_str rv⟩⟩) q
def aEqO (C:Str) (neg:Bool) (sp:G1) (ta tb:AT):AT:=fun env h Q=> ta env h fun r env1 h1=> tb env1 h1 fun r2 env2 h2=> ∃a b fs gs,r= .val (.ref a)∧r2= .val (.ref b)∧h2 a=some (.ins C fs)∧h2 b=some (.ins C gs)∧
  sp [.ref a,.ref b] h2 (fun x h3=> ∃k:Bool,x= .val (.bl k)∧Q (.val (.bl (if neg=true then !k else k))) env2 h3) fun _ _=> False
theorem aEqO.mono {C:Str} {neg:Bool} {sp:G1} {ta tb:AT} (sm:Q7 sp) (m:B3 ta) (n:B3 tb):B3 (aEqO C neg sp ta tb):=fun env h Q Q' k q=>
  m env h _ _ (fun r e g z=> n e g _ _ (fun r2 e2 g2 ⟨a,b,fs,gs,z1,z2,z3,z4,z⟩=> ⟨a,b,fs,gs,z1,z2,z3,z4,sm _ _ _ _ _ _ (fun x f ⟨b,y1,y2⟩=> ⟨b,y1,k _ _ _ y2⟩) (fun _ _ z=> z) z⟩) z) q
section
variable (gk:G.K=X.K) (O:OkM X.prog X.w X.K X.mg X.base C "__eq__" st k 2 ps [] sp) (bd:V1 C "__eq__" st ps) (hr:Room j X.A) (kj:k+1≤j) (ho:AE X G o to) (h2:AE X G o2 t2)
include gk O bd hr kj ho h2
end
structure IsO (K:PySem.W.Frag) (mg:Str→Option Value) (n C:Str) (b:Bool):Prop where
  gl:mg C=some (.ref (He.ga K C))
  cl:Cls K (He.ga K n)
  ca:PySem.W.findIn K (.ref (He.ga K n)) "__class__"=some (some (.builtin "object.__class__"))
  cn:PySem.W.specialIn K (.builtin "object.__class__") "__get__"=some (some (.builtin "getset_descriptor.__get__"))
  ct:PySem.W.takesIn K (.builtin "object.__class__")=some true
  cm:PySem.W.mroIn K (He.ga K n) (.type "object")=some true
  ko:PySem.W.kitOne K (.ref (He.ga K n)) (.ref (He.ga K C))=some b
end
end Ab
namespace Ab
open PySem PySem.Spec PyProof.Rows L2 RZ
def KwA (m q:Str) (st:Stmt) (ps ks:List Str) (n0:Nat) (perm:List Nat):Prop:=∀(kV doc pm:Value) (an:Option Addr) (cdv ct:Value) (us ws:List Value),us.length=n0→ws.length=ks.length→
  bindArgs (PySem.W.fnOf m q (defArgs st) (defBody st) (defScope st) .none kV doc pm an cdv ct) ⟨us,ks.zip ws⟩=pure (ps.zip (perm.map fun i=> (us++ws).getD i .none))
def MB (m q:Str) (st:Stmt) (kws:List (Str×V)) (ps ks:List Str) (n0:Nat) (perm:List Nat) (mz:List V):Prop:=∀(K:PySem.W.Frag) (f:Addr) (fd:FuncData),FunD K m q (defArgs st) (defBody st) (defScope st) [] kws f fd→
  ∃mv:List Value,KBn K fd ps n0 ks (fun us ws=> perm.map fun i=> (us++(ws++mv)).getD i .none) (fun vs zs=> perm.map fun i=> (vs++(zs++mz)).getD i .non)
theorem C1g {perm:List Nat} {vs zs mz:List V} {us ws mv:List Value} (r1:Vals vs us) (r2:Vals zs ws) (rk:Vals mz mv):Vals (perm.map fun i=> (vs++(zs++mz)).getD i V.non) (perm.map fun i=> (us++(ws++mv)).getD i Value.none):=by
  have r:=A98 r1 (A98 r2 rk)
  induction perm with
  | nil=> exact .nil
  | cons i t ih=> exact .cons (Vals.getD' i r) ih
theorem B6I {m q:Str} {st:Stmt} {ps ks:List Str} {n0:Nat} {perm:List Nat} (h:KwA m q st ps ks n0 perm):MB m q st [] ps ks n0 perm []:=fun K f fd F=> by
  obtain ⟨oc,od,dV,kV,doc,pm,an,cdv,ct,osl,rfl,lk,hcd,hD,hK⟩:=F.ex
  rcases hD with ⟨_,rfl⟩ | ⟨e,_⟩
  · refine ⟨[],⟨fun s us ws X l1 l2=> ?_,fun {vs us zs ws} r1 r2=> C1g r1 r2 .nil⟩⟩
    have z:=h kV doc pm an cdv ct us ws l1 l2
    simp only [List.append_nil]
    exact .of_eq z
  · exact absurd rfl e
def aMethM (C m:Str) (E:AExc→A0→AH→Prop) (sp:G1) (N:Nat) (gW:List W→List W→List W) (to:AT) (t tk:G2):AT:=fun env h Q=> to env h fun r env1 h1=> ∃a fs,r= .val (.ref a)∧h1 a=some (.ins C fs)∧fs.lookup m=none∧
  t env1 h1 fun ws env2 h2=> tk env2 h2 fun zs env3 h3=> (gW (.ref a::ws) zs).length=N∧sp (gW (.ref a::ws) zs) h3 (kRes Q env3) fun x h4=> E x env3 h4
theorem aMethM.mono {C m:Str} {E:AExc→A0→AH→Prop} {sp:G1} {N:Nat} {gW:List W→List W→List W} {to:AT} {t tk:G2} (sm:Q7 sp) (a:B3 to) (b:B3 t) (c:B3 tk):B3 (aMethM C m E sp N gW to t tk):=fun env h Q Q' k q=>
  a env h _ _ (fun r e g ⟨p,fs,z1,z2,z3,z4⟩=> ⟨p,fs,z1,z2,z3,b e g _ _ (fun ws e2 g2 z=> c e2 g2 _ _ (fun zs e3 g3 z=> ⟨z.1,sm _ _ _ _ _ _ (fun r f y=> kRes.imp k r f y) (fun x f y=> y) z.2⟩) z) z4⟩) q
def aMakeM (C:Str) (E:AExc→A0→AH→Prop) (sp:G1) (N:Nat) (gW:List W→List W→List W) (t tk:G2):AT:=fun env h Q=> t env h fun ws env1 h1=> tk env1 h1 fun zs env2 h2=> (∀a:Addr,(gW (.ref a::ws) zs).length=N)∧∀a,h2 a=none→sp (gW (.ref a::ws) zs) (B9 h2 a (.ins C [])) (kMk Q env2 a) fun x h3=> E x env2 h3
theorem aMakeM.mono {C:Str} {E:AExc→A0→AH→Prop} {sp:G1} {N:Nat} {gW:List W→List W→List W} {t tk:G2} (sm:Q7 sp) (b:B3 t) (c:B3 tk):B3 (aMakeM C E sp N gW t tk):=fun env h Q Q' k q=>
  b env h _ _ (fun ws e g z=> c e g _ _ (fun zs e g z=> ⟨z.1,fun a n=> sm _ _ _ _ _ _ (fun r f y=> ⟨y.1,k _ _ _ y.2⟩) (fun x f y=> y) (z.2 a n)⟩) z) q
theorem C3R {n0 m0 N:Nat} {perm:List Nat} {ds ws zs:List W} (h0:0 < perm.length) (z:(gMx n0 m0 perm ds ws zs).length=perm.length):ws.length=n0∧zs.length=m0:=by
  unfold gMx A84 at z
  split at z
  · rename_i hc
    simpa using hc
  · simp at z
    omega
section
variable {X:Cx} {G:Gx} {sp:G1} {C m:Str} {st:Stmt} {k j n0:Nat} {ps ks:List Str} {kws0:List (Str×V)} {mz:List V} {ds:List W} {o e:Expr} {es:List Expr} {kws:List Keyword} {pos apos p:Pos} {to:AT} {t tk:G2} {E:AExc→A0→AH→Prop} {perm:List Nat}
theorem B39 {pl:Sem Bool} (gk:G.K=X.K) (O:OkM X.prog X.w X.K X.mg X.base C m st k perm.length ps kws0 sp) (mb:MB m (C++"."++m) st kws0 ps ks 1 perm mz) (hd:∀H,RepL G.K H ds mz) (hr:Room j X.A) (kj:k≤j) (tkk:Takes X (cW G E)) (ho:AE X G o to) (hkw:AK X G kws tk)
    (h0:0 < perm.length:=by decide) (hall:(backToKw pos (keywordEach kws X.env)).all (·.1.isSome)=true:=by rfl) (hks:(backToKw pos (keywordEach kws X.env)).filterMap (·.1)=ks:=by rfl)
    (hpl:((backTo pos (starEach [] X.env)).any (·.1) || (backToKw pos (keywordEach kws X.env)).any (·.1.isNone))=false:=by rfl)
    (ht:eval (.Call (.Attribute o m apos) [] kws pos) X.env=(do
      let ov ←eval o X.env
      standAt apos.atName
      let (f,first) ←holding [ov] (getMethod ov m pl)
      callWith pos f first (backTo pos (starEach [] X.env)) (backToKw pos (keywordEach kws X.env))):=by rfl):
    AE X G (.Call (.Attribute o m apos) [] kws pos) (aMethM C m E sp perm.length (gMx 1 ks.length perm ds) to aNil tk):=by
  obtain ⟨f,fd,M,FD,F⟩:=O.ex
  have F:FnOk X.prog X.w X.K X.mg X.base (L2.CX X.prog X.w) k f fd ps (P8 G.K perm.length sp):=gk▸F
  obtain ⟨mv,kb⟩:=mb _ _ _ FD
  refine ⟨aMethM.mono O.sm ho.mono aNil.mono hkw.mono,⟨fun pins s σ H Q I ⟨env,h,S,q⟩=> ?_⟩⟩
  have step:cE G to σ H fun x H1=> ∃a dx vs,x= .ref a∧H1 a=some (.ins (He.ga X.K C) dx vs)∧vs.lookup m=none∧cA G tk σ H1 fun zs H3=> zs.length=ks.length∧P8 G.K perm.length sp (perm.map fun i=> ([V.ref a]++(zs++mz)).getD i V.non) H3 Q (WE (cW G E) σ):=by
    refine ⟨env,h,S,ho.mono env h _ _ (fun r env1 h1 ⟨a,fs,z1,z2,z3,z⟩ x H1 S1 x1 r1 _=> ?_) q⟩
    subst z1
    obtain ⟨dx,vs,ea,l⟩:=B1K gk S1 z2 z3
    refine ⟨a,dx,vs,Rep.of_ref (K:=G.K) (H:=H1) r1,ea,l,env1,h1,S1,hkw.mono env1 h1 _ _ (fun zs env3 h3 z vz H3 S3 x3 r3=> ?_) z⟩
    obtain ⟨_,l2⟩:=C3R (N:=0) h0 z.1
    refine ⟨by rw [←r3.length];exact l2,?_⟩
    exact A99 z.1 S3 (x1.trans x3) (C3W (ws:=[.ref a]) (vs:=[.ref a]) rfl l2 (.cons .ref .nil) r3 (hd H3)) z.2
  refine PySem.W.methodCall_KW (pl:=pl) (thn (ho.pe.run pins s σ H _ I step) fun u s1 ⟨x,H1,I1,rx,a,dx,vs,ex,ea,l,q⟩=> ?_) ht
  subst ex
  obtain rfl:u=Value.ref a:=rx
  refine getmeth_ok I1 ea O.cl M l ?_
  refine PySem.W.callWith_KW0 (first:=[.ref a]) (h₀:=X.base) I.ok.mod.kin M.kp hall ?_ hpl
  refine thn (hkw.pk.run pos pins s1 σ H1 _ I1 q) fun ws s3 ⟨zs,H3,I3,rz,l2,q3⟩=> ⟨I3.kIn,?_⟩
  rw [hks,List.append_nil]
  exact C4F (us:=[.ref a]) (vs:=[.ref a]) F (hr.mono kj) kb (passAt tkk σ) I3 (.cons rfl .nil) rz rfl l2 q3
end
end Ab
namespace Ab
open PySem PySem.Spec PyProof.Rows L2 RZ
def B2P (l2:List (Str×W)):List (Str×W)→Bool
  | []=> true
  | p::r=> match l2.lookup p.1 with
    | none=> false
    | some u=> N3 p.2 u && B2P l2 r
def A8z (l:List (Str×W)):Bool:=l.all fun p=> p.2.dat 60
section
variable {X:Cx} {pins:List (Addr×Obj)} {σ:L2.St} {H:Hp} {s:Shared}
end
def oEqM:M5:=fun a b Q=> ∃l1 l2,a.toW=O2 l1∧b.toW=O2 l2∧A8z l1=true∧A8z l2=true∧Q (.val (.bl (l1.length==l2.length && B2P l2 l1)))
theorem oEqM.mono (a b:Vw) (Q Q':RV→Prop) (k:∀r,Q r→Q' r) (q:oEqM a b Q):oEqM a b Q':=
  let ⟨l1,l2,x1,x2,c,d,q⟩:=q
  ⟨l1,l2,x1,x2,c,d,k _ q⟩
def oNeM:M5:=fun a b Q=> ∃l1 l2,a.toW=O2 l1∧b.toW=O2 l2∧A8z l1=true∧A8z l2=true∧Q (.val (.bl (!(l1.length==l2.length && B2P l2 l1))))
theorem oNeM.mono (a b:Vw) (Q Q':RV→Prop) (k:∀r,Q r→Q' r) (q:oNeM a b Q):oNeM a b Q':=
  let ⟨l1,l2,x1,x2,c,d,q⟩:=q
  ⟨l1,l2,x1,x2,c,d,k _ q⟩
section
variable {X:Cx}
end
section
variable {X:Cx}
def B6y:R2:=fun x y H Q=> ∃l k xs,x= .ref l∧y= .int k∧Rd H l (.lst xs)∧ -(2 ^ 63)≤k∧k < 2 ^ 63∧xs.length*k.toNat≤sizeLine∧∀p,H p=none→Q (.ref p) (upd H p (.lst (List.replicate k.toNat xs).flatten))
theorem C31:OpR X (binaryOp .Mult) B6y:=by
  intro pins s σ H x y v u Q I rx ry h
  obtain ⟨l,k,xs,rfl,rfl,hH,h1,h2,hz,q⟩:=h
  cases rx
  obtain ⟨t,rfl⟩:=ry
  obtain ⟨z,its,n,r,e⟩:=B1J I hH
  have hl:=r.length
  have hlen:its.toArray.size*k.toNat≤sizeLine:=by rw [List.size_toArray,←hl];exact hz
  have hcap:¬its.toArray.size*k.toNat > (2 ^ 63 - 1) / 8:=by
    have:(sizeLine:Nat)≤(2 ^ 63 - 1) / 8:=by decide
    omega
  have hfit:¬(!Builtin.List.listFitsIndex k)=true:=by
    rw [fitsIndex_both h1 h2]
    exact Bool.false_ne_true
  have hlong:¬Builtin.List.listTooLong (its.toArray.size*k.toNat)=true:=by
    rw [notLongL hlen]
    exact Bool.false_ne_true
  have hnew:List.foldl (fun x1 x2=> x1++x2) #[] (List.replicate (if its.toArray.isEmpty=true then 0 else k.toNat) its.toArray)=(List.replicate k.toNat its).flatten.toArray:=by
    have f0:∀m:Nat,List.foldl (fun x1 x2=> x1++x2) #[] (List.replicate m its.toArray)=(List.replicate m its).flatten.toArray:=fun m=> by
      have:=foldl_rep its m []
      rw [List.nil_append] at this
      exact this
    rw [f0]
    cases its with
    | nil=> simp
    | cons a r'=> rw [if_neg (by simp)]
  refine wpAny_binaryOp_repeat_ref (T:="list") (U:="int") (by decide) ⟨_,e,rfl⟩ (fun s'=> typeIs_int s' k t) noFill_list_mul F.fills_int_mul F.slot_int_rmul repeat_list F.slot_int_index.lookup
    (call_meets F.slot_int_rmul (typeIs_int s k t) F.entry_int_rmul (F.args_int_rmul_2 _ _) (int___rmul___int_list k t l its.toArray n)
      ⟨e,rfl,⟨_,e,rfl⟩,call_meets F.slot_list_mul ⟨_,e,rfl⟩ F.entry_list_mul (F.args_list_mul_2 _ _) (AutoListH.list___mul___list_int_3 l its.toArray n k t hfit hcap hlong) ⟨e,?_⟩⟩)
  rw [hnew]
  exact ⟨.ref _,_,I.lnew (t':=s.toks) (r.rep k.toNat) (by rw [PyProof.Rows.lm_len_rep_flat,Nat.mul_comm];exact hz),rfl,q _ I.fresh⟩
def A19 (x:Str) (n:Int):Str:=⟨(List.replicate n.toNat x.cps.toList).flatten.toArray⟩
def B66:R2:=fun x y H Q=> ∃a n,x= .str a∧y= .int n∧0≤n∧n≤1000∧a.length≤1000∧Q (.str (A19 a n)) H
theorem B4A (x:Array Nat):∀(n:Nat) (acc:Array Nat),(List.replicate n x).foldl (· ++ ·) acc=acc++(List.replicate n x.toList).flatten.toArray
  | 0,acc=> by simp
  | n+1,acc=> by
    rw [List.replicate_succ,List.foldl_cons,B4A x n,List.replicate_succ,List.flatten_cons]
    obtain ⟨x⟩:=x
    simp
theorem C3D:OpR X (binaryOp .Mult) B66:=by
  intro pins s σ H x y v u Q I rx ry h
  obtain ⟨a,n,rfl,rfl,n0,n1,la,q⟩:=h
  obtain ⟨t,rfl⟩:=rx
  obtain ⟨t',rfl⟩:=ry
  have hz:a.length*n.toNat≤1000000:=Nat.le_trans (Nat.mul_le_mul la (show n.toNat≤1000 by omega)) (by decide)
  refine PySem.P.mul_str (by
    have h1:¬n < -(2 ^ 63:Int):=by omega
    have h2:¬n≥2 ^ 63:=by omega
    rw [decide_eq_false h1,decide_eq_false h2];rfl) (fun h1 _=> ?_) (fun _ _=> ?_) ?_
  · have h3:(9223372036854775:Int)≤(2 ^ 63 - 1) / n:=by
      have:=Int.le_ediv_of_mul_le (a:=9223372036854775) (b:=2 ^ 63 - 1) (c:=n) (by omega) (by omega)
      exact this
    omega
  · unfold Builtin.Str.tooLong
    rw [decide_eq_false]
    rw [show sizeLine=16777216 from rfl]
    omega
  · by_cases h1:n < 1
    · rw [if_pos h1]
      have e:n=0:=by omega
      subst e
      exact ⟨by decide,.str _,H,I.tok _,⟨_,rfl⟩,q⟩
    · rw [if_neg h1]
      by_cases h2:(n==1 || a.length==0)=true
      · rw [if_pos h2]
        have e:A19 a n=a:=by
          rcases Bool.or_eq_true_iff.mp h2 with e | e
          · have e:n=1:=by simpa using e
            subst e
            show Str.mk _=a
            simp
          · have e:a.length=0:=by simpa using e
            obtain ⟨⟨c⟩⟩:=a
            have:c=[]:=List.eq_nil_of_length_eq_zero e
            subst this
            unfold A19
            simp
        rw [e] at q
        exact ⟨.str a,H,I,⟨t,rfl⟩,q⟩
      · rw [if_neg h2]
        have e:(⟨(List.replicate n.toNat a.cps).foldl (· ++ ·) #[]⟩:Str)=A19 a n:=by
          unfold A19
          rw [B4A]
          simp
        rw [e]
        refine ⟨?_,.str _,H,I.tok _,⟨_,rfl⟩,q⟩
        show (A19 a n).cps.size≤_
        unfold A19
        simp only [List.size_toArray,List.length_flatten,List.map_replicate,List.sum_replicate_nat,Array.length_toList]
        rw [show sizeLine=16777216 from rfl,Nat.mul_comm]
        exact Nat.le_trans hz (by decide)
end
def oMulX:M5:=fun a b Q=> match b with
  | .wv (.int j)=> match a with
    | .wv (.int i)=> CMulW i j∧Q (.val (.int (i*j)))
    | .wv (.str x)=> (0≤j∧j≤1000∧x.length≤1000)∧Q (.val (.str (A19 x j)))
    | a=> ∃xs,a.seq=some xs∧(-(2 ^ 63)≤j∧j < 2 ^ 63∧xs.length*j.toNat≤sizeLine)∧Q (.own (.seq (List.replicate j.toNat xs).flatten))
  | _=> False
theorem oMulX.mono (a b:Vw) (Q Q':RV→Prop) (k:∀r,Q r→Q' r) (q:oMulX a b Q):oMulX a b Q':=by
  unfold oMulX at q ⊢
  split at q
  · split at q
    · exact ⟨q.1,k _ q.2⟩
    · exact ⟨q.1,k _ q.2⟩
    · obtain ⟨xs,e,z,q⟩:=q;exact ⟨xs,e,z,k _ q⟩
  · exact q
theorem C2e {K:PySem.W.Frag}:OpA K (fun x y H Q=> (rI CMulW (fun i j=> .int (i*j)) x y H Q∨B66 x y H Q)∨B6y x y H Q) oMulX:=
  ⟨oMulX.mono,fun a b x y H Q0 Q ra rb q k=> by
    unfold oMulX at q
    split at q
    · rename_i j
      have ey:y= .int j:=rb.int
      split at q
      · rename_i i
        exact .inl (.inl ⟨i,j,ra.int,ey,q.1,k _ _ (.val q.2 .int)⟩)
      · rename_i x
        exact .inl (.inr ⟨x,j,ra.str,ey,q.1.1,q.1.2.1,q.1.2.2,k _ _ (.val q.2 .str)⟩)
      · obtain ⟨xs,e,z,q⟩:=q
        obtain ⟨p,vs,ex,d1,r1⟩:=ra.seq e
        exact .inr ⟨p,j,vs,ex,ey,d1,z.1,z.2.1,by rw [←r1.length];exact z.2.2,fun p' n=> k _ _ (.lst n q (r1.rep _))⟩
    · exact q.elim⟩
section
variable {X:Cx} {G:Gx} {a b:Expr} {ta tb:AT} {pos:Pos}
theorem B5e (ha:AE X G a ta) (hb:AE X G b tb):AE X G (.BinOp a .Mult b pos) (aOp2 oMulX ta tb):=A3D ((op_mulW.or C3D).or C31) C2e ha hb
end
def A1N:L4:=fun as Q=> match as with
  | [.wv (.int i)]=> i.natAbs.log2 < 1920∧Q (.val (.str (toString i)))
  | _=> False
theorem C3C {K:PySem.W.Frag}:CallA K (fun xs H Q=> ∃i:Int,xs=[.int i]∧i.natAbs.log2 < 1920∧Q (.str (toString i)) H) A1N:=
  ⟨fun as Q Q' k q=> by
    unfold A1N at q ⊢
    split at q
    · exact ⟨q.1,k _ q.2⟩
    · exact q,fun as vs H Q0 Q r q k=> by
    unfold A1N at q
    split at q
    · obtain ⟨v,rfl,r1⟩:=r.one
      exact ⟨_,by rw [r1.int],q.1,k _ _ (.val q.2 .str)⟩
    · exact q.elim⟩
abbrev AJT:=A0→AH→(Str→A0→AH→Prop)→Prop
def fmtV (v:Vw) (Q:Str→Prop):Prop:=match v with
  | .wv (.str y)=> y.length≤sizeLine∧Q y
  | .wv (.int i)=> i.natAbs.log2 < 1920∧Q (toString i)
  | _=> False
def aFmt (t:AT):AT:=fun env h Q=> t env h fun r env1 h1=> fmtV (view env1 h1 r) fun y=> Q (.val (.str y)) env1 h1
theorem fmtV.imp {v:Vw} {Q Q':Str→Prop} (k:∀y,Q y→Q' y) (q:fmtV v Q):fmtV v Q':=by
  unfold fmtV at q ⊢
  split at q
  · exact ⟨q.1,k _ q.2⟩
  · exact ⟨q.1,k _ q.2⟩
  · exact q
theorem aFmt.mono {t:AT} (m:B3 t):B3 (aFmt t):=fun env h Q Q' k q=> m env h _ _ (fun r e g z=> z.imp fun y z=> k _ _ _ z) q
def jsL:List AT→Str→AJT
  | [],acc=> fun env h Q=> Q acc env h
  | t::ts,acc=> fun env h Q=> t env h fun r env1 h1=> ∃y:Str,r= .val (.str y)∧(acc++y).length≤sizeLine∧jsL ts (acc++y) env1 h1 Q
def B0F (ts:List AT):AT:=fun env h Q=> jsL ts Str.empty env h fun s env1 h1=> Q (.val (.str s)) env1 h1
inductive AJ (X:Cx) (G:Gx):List Expr→List AT→Prop where
  | nil:AJ X G [] []
  | cons {e:Expr} {t:AT} {es:List Expr} {ts:List AT} (h:AE X G e t) (r:AJ X G es ts):AJ X G (e::es) (t::ts)
section
variable {X:Cx} {G:Gx} {e v1 v2:Expr} {t:AT} {es rest:List Expr} {ts:List AT} {pos:Pos}
theorem C5H (h:AE X G e t):AE X G (.FormattedValue e (-1) none pos) (aFmt t):=by
  refine ⟨aFmt.mono h.mono,PE.imp (pe_fmt h.pe) fun σ H Q ⟨env,k,S,q⟩=> ?_⟩
  refine ⟨env,k,S,h.mono env k _ _ (fun r env1 h1 z x H1 S1 x1 r1 _=> ?_) q⟩
  have rr:=r1.vr S1
  unfold fmtV at z
  split at z
  · rename_i y ev
    rw [ev] at rr
    exact .inl ⟨y,rr.str,z.1,z.2 _ H1 S1 x1 (show Rep G.K H1 (.str y) (.str y) from .str) trivial⟩
  · rename_i i ev
    rw [ev] at rr
    exact .inr ⟨i,rr.int,z.1,z.2 _ H1 S1 x1 (show Rep G.K H1 (.str _) (.str _) from .str) trivial⟩
  · exact z.elim
theorem AJ.mono (a:AJ X G es ts):∀acc,B3 (jsL ts acc):=by
  induction a with
  | nil=> exact fun acc env h Q Q' k q=> k _ _ _ q
  | cons h r ih=> exact fun acc env g Q Q' k q=> h.mono env g _ _ (fun r e g ⟨y,e1,e2,z⟩=> ⟨y,e1,e2,ih _ _ _ _ _ k z⟩) q
theorem AJ.pj (a:AJ X G es ts):PJ X es (ts.map (cE G)):=by
  induction a with
  | nil=> exact .nil
  | cons h r ih=> exact .cons h.pe ih
theorem C5I (a:AJ X G es ts):∀(acc:Str) (env:A0) (h:AH) (σ:L2.St) (H:Hp) (Q:Str→Hp→Prop),BS G env h σ H→(jsL ts acc env h fun s env1 h1=> ∀H',BS G env1 h1 σ H'→Xt env h σ H env1 h1 H'→Q s H')→tJs (ts.map (cE G)) acc σ H Q:=by
  induction a with
  | nil=> exact fun acc env h σ H Q S z=> z H S .refl
  | @cons e t es ts h r ih=>
    intro acc env g σ H Q S z
    refine ⟨env,g,S,h.mono env g _ _ (fun r0 env1 h1 ⟨y,e1,e2,z⟩ v H1 S1 x1 r1 _=> ?_) z⟩
    subst e1
    refine ⟨y,Rep.of_str (K:=G.K) (H:=H1) r1,e2,ih _ env1 h1 σ H1 Q S1 (AJ.mono r _ _ _ _ _ (fun s env2 h2 z H2 S2 x2=> z H2 S2 (x1.trans x2)) z)⟩
theorem C07 (a:AJ X G (v1::v2::rest) ts):AE X G (.JoinedStr (v1::v2::rest) pos) (B0F ts):=by
  refine ⟨fun env h Q Q' k q=> a.mono _ _ _ _ _ (fun s e g z=> k _ _ _ z) q,PE.imp (pe_joined a.pj) fun σ H Q ⟨env,h,S,q⟩=> ?_⟩
  exact C5I a _ env h σ H _ S (a.mono _ _ _ _ _ (fun s env1 h1 z H1 S1 x1=> z _ H1 S1 x1 (show Rep G.K H1 (.str s) (.str s) from .str) trivial) q)
end
end Ab
namespace Ab
open PySem PySem.Spec PyProof.Rows L2 RZ
def A2M (x:Str):List W:=x.cps.toList.map fun c=> .str ⟨#[c]⟩
theorem C2f {x:Str}:(A2M x).length=x.cps.size:=by unfold A2M;simp
theorem C2B {x:Str} {i:Nat} {w:W} (e:(A2M x)[i]? =some w):∃c,x.cps[i]? =some c∧w= .str ⟨#[c]⟩:=by
  unfold A2M at e
  rw [List.getElem?_map] at e
  cases q:x.cps.toList[i]? with
  | none=> rw [q] at e;cases e
  | some c=>
    rw [q] at e
    have e:some (W.str ⟨#[c]⟩)=some w:=e
    cases e
    exact ⟨c,by rw [←Array.getElem?_toList];exact q,rfl⟩
theorem C1T {K:PySem.W.Frag} {H:Hp} {x:Str}:A1R K (Its x) H (A2M x):=fun H' kk i=> by
  refine ⟨fun h=> (by rw [C2f] at h;exact h),fun w e=> ?_⟩
  obtain ⟨c,ec,rfl⟩:=C2B e
  have hi:i < x.cps.size:=by
    by_cases q:i < x.cps.size
    · exact q
    · rw [Array.getElem?_eq_none (by omega)] at ec;cases ec
  exact ⟨hi,fun v H2 ⟨e1,c',ec',ev⟩=> by
    subst e1
    rw [ec] at ec'
    cases ec'
    subst ev
    exact ⟨.refl _,.str⟩⟩
def B2N (t:AT):U5:=fun env h Q=> t env h fun r env1 h1=> ∃x,r= .val (.str x)∧Q (A2M x) env1 h1
section
variable {X:Cx} {G:Gx} {tg e a b o k:Expr} {t ta tb to:AT} {tk:D3} {pos:Pos}
theorem C4b (ha:AE X G e t):AI X G tg e (B2N t):=by
  refine ⟨fun env h Q Q' k q=> ha.mono env h _ _ (fun r e g ⟨x,z1,z2⟩=> ⟨x,z1,k _ _ _ z2⟩) q,PI.imp (pi_str ha.pe) fun σ H R ⟨env,h,S,q⟩=> ?_⟩
  refine ⟨env,h,S,ha.mono env h _ _ (fun r env1 h1 ⟨x,z1,z⟩ v H1 S1 x1 r1 _=> ?_) q⟩
  subst z1
  exact ⟨x,Rep.of_str (K:=G.K) (H:=H1) r1,z _ H1 S1 x1 C1T⟩
def A0t (i j:Str):Bool:= !(Builtin.Str.occurrences j i 0 j.length 1).isEmpty
def B7T (neg:Bool):R2:=fun x y H Q=> ∃i j,x= .str i∧y= .str j∧Q (.bl (if neg=true then !A0t i j else A0t i j)) H
theorem C5f:OpR X (compareOp .In) (B7T false):=op_in_str
def oInS (neg:Bool):M5:=fun a b Q=> match a,b with
  | .wv (.str i),.wv (.str j)=> Q (.val (.bl (if neg=true then !A0t i j else A0t i j)))
  | _,_=> False
theorem oInS.mono {neg:Bool} (a b:Vw) (Q Q':RV→Prop) (k:∀r,Q r→Q' r) (q:oInS neg a b Q):oInS neg a b Q':=by
  unfold oInS at q ⊢
  split at q
  · exact k _ q
  · exact q
theorem C24 {K:PySem.W.Frag} {neg:Bool}:OpA K (B7T neg) (oInS neg):=⟨oInS.mono,fun a b x y H Q0 Q ra rb q k=> by
  unfold oInS at q
  split at q
  · exact ⟨_,_,ra.str,rb.str,k _ _ (.val q .bl)⟩
  · exact q.elim⟩
theorem C4f (ha:AE X G a ta) (hb:AE X G b tb) (h1:behindInMarks .In b=false:=by rfl):AE X G (.Compare a [.In] [b] pos) (aOp2 (oInS false) ta tb):=A5p C5f C24 ha hb h1
theorem C4M {x z:Str} (hg:Gl X x) (hm:∃t,X.mg x=some (.str z t)) (hd:(x==("__debug__":Str))=false:=by decide):AE X G (.Name x pos) (aC (.str z)):=by
  obtain ⟨t,hm⟩:=hm
  exact A2O (v:= .str z) (pe_glob (v:= .str z) hg hm ⟨t,rfl⟩ hd) fun _=> .str
def A33 (to:AT) (tk:D3):H9:=fun v env h Q=> to env h fun r env1 h1=> tk env1 h1 fun w env2 h2=> B18 env2 h2 r w v Q
theorem B5z (ho:AE X G o to) (hk:AV X G k tk) (ha:PG X (.Subscript o k pos) (gSub (cE G to) (cV G tk) rSetD)):AG X G (.Subscript o k pos) [] (A33 to tk):=by
  refine ⟨fun v env h Q Q' kk q=> ho.mono env h _ _ (fun r e g z=> hk.mono e g _ _ (fun w e g ⟨l,s,z1,z2,z3,z4⟩=> ⟨l,s,z1,z2,z3,kk _ _ z4⟩) z) q,PG.imp ha fun vv σ H Q ⟨v,env,h,rv,S,q⟩=> ?_⟩
  refine ⟨env,h,S,ho.mono env h _ _ (fun r env2 h2 z x H2 S2 x2 r2 f2=> ?_) q⟩
  refine ⟨env2,h2,S2,hk.mono env2 h2 _ _ (fun w env3 h3 ⟨l',s,z1,z2,z3,z⟩ y H3 S3 x3 r3=> ?_) z⟩
  subst z2
  have ey:y= .str s:=Rep.of_str (K:=G.K) (H:=H3) r3
  subst ey
  obtain ⟨p,ex,cr,put⟩:=A0m S3 (r2.xt S2 x3) z1
  obtain ⟨ks,e0,e1,e2⟩:=A2L cr
  have lk:ks.length=l'.length:=by have:=congrArg List.length e1;simpa using this
  have rv:Rep G.K H3 v vv:=Rep.mono ((x2.keeps S).trans (x3.keeps S2)) v vv rv
  obtain ⟨S4,x4⟩:=put (.dK (putK ks (.inr s) vv)) (.map (smap (Q9 l' s v))) fun kp=> by
    obtain ⟨a,b⟩:=B4c (s:=s) e1 (RepL.mono kp _ _ e2) (Rep.mono kp v vv rv)
    exact A54 upd_same a b
  exact ⟨p,_,ex,DPut.k (k:= .inr s) e0 (by omega),z _ _ S4 (x2.trans (x3.trans x4)).xg⟩
end
end Ab
namespace Ab
open PySem PySem.Spec PyProof.Rows L2 RZ
theorem B7Z {n:Nat} (h:n+64 < cLine):n+1 < cLine:=by omega
section
variable {X:Cx} {G:Gx} {i a b:Nat} {n f A B Sn:Str} {kx vx:Expr} {pos p1 p2 p3 p4 p5 p6 p7:Pos} {k0:Nat} {tk tv:D3} {scope:Scope} {own:List (Str×Nat)}
end
section
variable {X:Cx} {G:Gx} {elt tg iter:Expr} {ifs:List Expr} {scope:Scope} {own:List (Str×Nat)} {pos:Pos} {ti:W7} {g:H9} {tt:K9} {te:D3} {sl:List Nat}
theorem C3T (hc:X.calm=true) (hN:X.N.Nodup) (hi:AI2 X G tg iter ti) (ok:BlkOk X.N X.env.scope scope own) (hsl:∀i∈sl,i∈own.map (·.2))
    (hg:∀(s:Shared) (H:Hp) (C:Addr) (cl:List (Str×Addr)) (fp:List Addr),AG (X.blk s H scope (compEnvC scope cl C X.env) fp) G tg sl g) (ht:∀(s:Shared) (H:Hp) (C:Addr) (cl:List (Str×Addr)) (fp:List Addr),APs (X.blk s H scope (compEnvC scope cl C X.env) fp) G ifs tt)
    (he:∀(s:Shared) (H:Hp) (C:Addr) (cl:List (Str×Addr)) (fp:List Addr),AV (X.blk s H scope (compEnvC scope cl C X.env) fp) G elt te) (hs:∀x,foldedSetIterable iter X.env x=pure x:=by intro _;rfl):
    AE X G (.ListComp elt [⟨tg,iter,ifs,0⟩] scope pos) (A0D (own.map (·.2)) ti g tt te):=
  C4g hc hN hi ok hsl hg ht he (hg X.s_0 X.H_0 0 [] []).mono (ht X.s_0 X.H_0 0 [] []).mono (he X.s_0 X.H_0 0 [] []).mono hs
theorem A9u {i:Nat} {y:Str} {py spos:Pos} (hc:X.calm=true) (hN:X.N.Nodup) (hy:X.N[i]? =some y) (hk:X.env.scope.kind= .function) (hyl:X.env.scope.names.lookup y=some .local) (hi:AI2 X G tg iter ti) (ok:BlkOk X.N X.env.scope scope own) (hsl:∀i∈sl,i∈own.map (·.2))
    (hg:∀(s:Shared) (H:Hp) (C:Addr) (cl:List (Str×Addr)) (fp:List Addr),AG (X.blk s H scope (compEnvC scope cl C X.env) fp) G tg sl g) (ht:∀(s:Shared) (H:Hp) (C:Addr) (cl:List (Str×Addr)) (fp:List Addr),APs (X.blk s H scope (compEnvC scope cl C X.env) fp) G ifs tt)
    (he:∀(s:Shared) (H:Hp) (C:Addr) (cl:List (Str×Addr)) (fp:List Addr),AV (X.blk s H scope (compEnvC scope cl C X.env) fp) G elt te)
    (hl:(py.line==pos.line)=true:=by rfl) (hany:(scope.names.any fun (n,k)=> n==y && (k== .local || k== .cell))=false:=by rfl) (hs:∀x,foldedSetIterable iter X.env x=pure x:=by intro _;rfl):
    AS X G (.Assign [.Name y py] (.ListComp elt [⟨tg,iter,ifs,0⟩] scope pos) spos) (A2C i (A0D (own.map (·.2)) ti g tt te)):=by
  have mg:=(hg X.s_0 X.H_0 0 [] []).mono
  have mt:=(ht X.s_0 X.H_0 0 [] []).mono
  have me:=(he X.s_0 X.H_0 0 [] []).mono
  have mo:B3 (A0D (own.map (·.2)) ti g tt te):=fun env h Q Q' k q=> hi.mono env h _ _ (fun ok ws e1 h1 z=> lcLoopL.mono mg mt me (fun a e h q=> k _ _ _ q) ws [] e1 h1 z) q
  refine ⟨fun D D' env h l q=> mo env h _ _ (fun r e k z=> ?_) q,PS.imp (ps_setLc hc hN hy hyl (sw_true hk hyl hl hany) hi.pi ok (fun s H C cl fp=> (hg s H C cl fp).pg) (fun s H C cl fp=> (ht s H C cl fp).pts) (fun s H C cl fp=> (he s H C cl fp).pe) hs) fun D σ H ⟨env,h,Da,S,q,l⟩=> ?_⟩
  · split at z
    · exact l.nx _ _ z
    · exact z
  · refine B4g hi.mono hsl mg mt me ⟨env,h,S,mo env h _ _ (fun r env1 h1 z v H1 S1 x1 r1 f1=> ?_) q⟩
    split at z
    · exact l.nx _ _ _ _ (S1.set i r1 trivial) (x1.keeps S) z
    · exact z.elim
variable {ti1:W7} {g1:H9} {tt1:K9} {vs1 sl1:List Nat} {tg1 iter1:Expr} {ifs1:List Expr}
end
end Ab
namespace Ab
open PySem PySem.Spec PyProof.Rows L2 RZ
theorem VRL.three {K:PySem.W.Frag} {H:Hp} {a b c:Vw} {vs:List V} (r:VRL K H [a,b,c] vs):∃v u t,vs=[v,u,t]∧VR K H a v∧VR K H b u∧VR K H c t:=by
  cases r with
  | cons r1 rr=>
    obtain ⟨u,t,rfl,r2,r3⟩:=VRL.two rr
    exact ⟨_,u,t,rfl,r1,r2,r3⟩
def B7a (hi:Int) (n:Nat):List W:=(List.range n).map fun (i:Nat)=> W.int (hi - i)
section
variable {X:Cx} {G:Gx} {tg e:Expr} {pos:Pos} {x:Str}
end
end Ab
namespace Ab
open PySem PySem.Spec PyProof.Rows L2 RZ
section
variable {X:Cx} {G:Gx} {body:List Stmt} {f₀:Stmt} {fs:List Stmt} {pos:Pos} {E:AExc→A0→AH→Prop}
variable {sp:G1} {st:Stmt} {k j n:Nat} {ps:List Str} {x y:Str} {p:Pos} {e:Expr} {es:List Expr} {t:G2}
end
section
variable {P:Program} {w:World} {K:PySem.W.Frag} {mg:Str→Option Value} {base:Heap} {C m:Str} {f:Addr} {fd:FuncData} {N ps:List Str} {k n:Nat} {sp:G1} {st:Stmt} {kws:List (Str×V)}
theorem OkM.mkL {t:(AExc→A0→AH→Prop)→C0} (sm:Q7 sp) (cl:Cls K (He.ga K C)) (M:Meth K (He.ga K C) m f) (F:FunD K m (C++"."++m) (defArgs st) (defBody st) (defScope st) [] kws f fd) (S:FnScope N ps (defScope st)) (hn:ps.length=n)
    (lm:∀cdv,A8L K f cdv→MakesL K mg base ((C++"."++m)++".<locals>."++"<lambda>") cdv)
    (hb:∀(cdv:Value) (A:Around) (outer:List Env) (s:Shared) (H:Hp) (E:XK) (G:Gx) (E':AExc→A0→AH→Prop),MakesL K mg base ((C++"."++m)++".<locals>."++"<lambda>") cdv→Room k (A.deeper (envOfC (C++"."++m) (defScope st) s.heap.objs.size f cdv))→G.K=K→Takes (bx P w K mg base N (C++"."++m) (defScope st) f cdv A outer s H E) (cW G E')→
      ASs (bx P w K mg base N (C++"."++m) (defScope st) f cdv A outer s H E) G (defBody st) (t E'))
    (hq:∀ws h Qa Ea,ws.length=n→sp ws h Qa Ea→t (C4 Ea) (B6 Qa) (G8 N.length ws) h):OkM P w K mg base C m st (k+1) n ps kws sp:=by
  refine ⟨sm,cl,f,fd,M,F,?_⟩
  obtain ⟨oc,od,dV,kV,doc,pm,an,cdv,ct,osl,rfl,lk,hcd,_,_⟩:=F.ex
  refine fn_of lk hcd S (fun vs H Q E ⟨ws,h,Qa,Ea,hl,_,_,r,_⟩=> by rw [←r.length,hl,hn]) fun A outer s H vs Q E hr ⟨ws,h,Qa,Ea,hl,hp,tb,r,q,kq,ke⟩=> ?_
  have hwN:ws.length≤N.length:=by
    have z:=congrArg List.length S.pre
    rw [List.length_take] at z
    omega
  exact B5o hwN (hb cdv A outer s H E ⟨K,h,H⟩ (C4 Ea) (lm cdv ⟨oc,od,_,osl,lk,rfl⟩) hr rfl (B5B ke)) hp tb r (hq ws h Qa Ea hl q) kq
end
end Ab
namespace Ab
open PySem PySem.Spec PyProof.Rows L2 RZ
section
variable {K:PySem.W.Frag}
end
section
variable {X:Cx} {G:Gx} {o k e a b tg:Expr} {to ta tb:AT} {tk:D3} {t:D3} {i j:Nat} {x y:Str} {px py pt pos apos cpos:Pos} {kt:Nat} {k2:Nat} {pt2:Pos}
def C63 (env:A0) (h:AH) (r:RV) (w:W) (Q:RV→A0→AH→Prop):Prop:=∃l s u,O3 env h r=some (.map (smap l))∧w= .str s∧l.lookup s=some u∧Q (.val u) (v4 env r (.map (smap (W4 l s)))) (v7 h r (.map (smap (W4 l s))))
def B1X (to:AT) (tk:D3):AT:=fun env h Q=> to env h fun r env1 h1=> (∃l,O3 env1 h1 r=some (.map (smap l)))∧tk env1 h1 fun w env2 h2=> C63 env2 h2 r w Q
theorem C4R (ho:AE X G o to) (hk:AV X G k tk) (hb:attributeBase o "pop" X.env (eval o X.env)=eval o X.env:=by rfl)
    (hf:((backTo cpos (starEach [k] X.env)).all (fun x=> !x.1) && (backToKw cpos (keywordEach [] X.env)).all (fun x=> x.1.isSome) && decide (([k]:List Expr).length+([]:List Keyword).length+(if ([]:List Keyword).isEmpty then 0 else 1) < 30))=true:=by rfl)
    (hl:(apos.endLine==cpos.line)=true:=by rfl) (ht:backTo cpos (starEach [k] X.env)=[(false,eval k X.env)]:=by rfl):AE X G (.Call (.Attribute o "pop" apos) [k] [] cpos) (B1X to tk):=by
  refine ⟨fun env h Q Q' kk q=> ho.mono env h _ _ (fun r e2 h2 ⟨zz,z⟩=> ⟨zz,hk.mono e2 h2 _ _ (fun w e3 h3 ⟨l',s,u,z1,z2,z3,z4⟩=> ⟨l',s,u,z1,z2,z3,kk _ _ _ z4⟩) z⟩) q,PE.imp (pe_dpop1 ho.pe hk.pe ⟨hb,hf,hl,ht⟩) fun σ H Q ⟨env,h,S,q⟩=> ?_⟩
  refine ⟨env,h,S,ho.mono env h _ _ (fun r env2 h2 z x H2 S2 x2 r2 f2=> ?_) q⟩
  obtain ⟨⟨l0,zz⟩,z⟩:=z
  obtain ⟨p0,ex0,cr0,_⟩:=A0m S2 r2 zz
  subst ex0
  obtain ⟨ks0,e00,_,_⟩:=A2L cr0
  refine ⟨p0,rfl,.inl ⟨ks0,.inl e00⟩,env2,h2,S2,hk.mono env2 h2 _ _ (fun w env3 h3 ⟨l',s,u,z1,z2,z3,z⟩ y H3 S3 x3 r3=> ?_) z⟩
  subst z2
  have ey:y= .str s:=Rep.of_str (K:=G.K) (H:=H3) r3
  subst ey
  obtain ⟨p,ex,cr,put⟩:=A0m S3 (r2.xt S2 x3) z1
  cases ex
  obtain ⟨ks,e0,e1,e2⟩:=A2L cr
  obtain ⟨S4,x4⟩:=put (.dK (dropK ks (.inr s))) (.map (smap (W4 l' s))) fun kp=> by
    obtain ⟨a,b⟩:=A90 (s:=s) e1 (RepL.mono kp _ _ e2)
    exact A54 upd_same a b
  rcases A31 (s:=s) e1 e2 with ⟨a,b⟩ | ⟨w,v,a,b,rv⟩
  · rw [a] at z3;cases z3
  · rw [a] at z3;cases z3
    exact ⟨ks,.inr s,v,e0,rfl,b,z v _ S4 (x2.trans (x3.trans x4)) (Rep.mono (x4.keeps S3) _ _ rv) trivial⟩
def B1I (t:D3):U5:=fun env h Q=> t env h fun w e g=> ∃l,w=O2 l∧Q (l.map fun p=> W.str p.1) e g
theorem C0j {K:PySem.W.Frag} {H:Hp} {d:Addr} {ob:Obj} {l:List (Str×W)} {ks:List (Key×V)} (hd:H d=some (.frz ob (.dK ks))) (e1:ks.map (·.1)=l.map (fun q=> Sum.inr q.1)):A1R K (Itk d ob ks) H (l.map fun p=> W.str p.1):=fun H' kp i=> by
  have hd':H' d=some (.frz ob (.dK ks)):=kp _ _ hd trivial
  have lk:ks.length=l.length:=by have:=congrArg List.length e1;simpa using this
  refine ⟨fun h=> ⟨hd',by rw [List.length_map] at h;omega⟩,fun w e=> ?_⟩
  rw [List.getElem?_map] at e
  cases q:l[i]? with
  | none=> rw [q] at e;cases e
  | some p=>
    rw [q] at e
    cases e
    have hi:=(List.getElem?_eq_some_iff.mp q).1
    refine ⟨⟨hd',by omega⟩,fun x H2 ⟨ee,k,v,g1,g2⟩=> ?_⟩
    subst ee
    have z:=congrArg (fun z=> z[i]?) e1
    simp only [List.getElem?_map,g1,q,Option.map_some] at z
    injection z with z
    have z:k=Sum.inr p.1:=z
    subst z
    subst g2
    exact ⟨.refl _,.str⟩
theorem C2R (gk:G.K=X.K) (hk:AV X G e t):AI X G tg e (B1I t):=by
  refine ⟨fun env h Q Q' k q=> hk.mono env h _ _ (fun w e g ⟨l,z1,z2⟩=> ⟨l,z1,k _ _ _ z2⟩) q,PI.imp (pi_keys hk.pe) fun σ H R ⟨env,h,S,q⟩=> ?_⟩
  refine ⟨env,h,S,hk.mono env h _ _ (fun w env1 h1 ⟨l,ew,z⟩ x H1 S1 x1 r1=> ?_) q⟩
  subst ew
  obtain ⟨p,ex,⟨ob,ks,a1,b1,d1⟩ | ⟨ob,ks,a1,b1,d1⟩⟩:=(show Rep G.K H1 (.dct ((smap l).map (·.1)) ((smap l).map (·.2))) x from r1)
  · exact ⟨p,ob,ex,.inl ⟨ks,a1,z _ H1 S1 x1 (C0j a1 (A72 b1))⟩⟩
  · exact (A8m b1).elim
end
end Ab
namespace Ab
open PySem PySem.Spec PyProof.Rows L2 RZ
def B6o:V→List V→Hp→VK→Prop:=fun x xs H Q=> ∃(l:Addr) (ys:List Str) (k:Str) (j:Nat),x= .ref l∧xs=[.str k]∧H l=some (.lst (ys.map V.str))∧ys[j]? =some k∧(∀m:Nat,m < j→ys[m]? ≠some k)∧Q .non (upd H l (.lst ((ys.eraseIdx j).map V.str)))
def A8e (k:Str):Value→Bool
  | .str y _=> y==k
  | _=> false
theorem A7r:∀{ys:List Str} {us:List Value},Vals (ys.map V.str) us→∀(i:Nat) (h:i < us.length),∃y t,ys[i]? =some y∧us[i]= .str y t
  | [],_,.nil,i,h=> by simp at h
  | y::ys,_,.cons r rs,0,h=> by
    obtain ⟨t,rfl⟩:=r
    exact ⟨y,t,rfl,rfl⟩
  | y::ys,_,.cons r rs,i+1,h=> A7r rs i (by simpa using h)
theorem B38:∀{xs:List V} {us:List Value} (j:Nat),Vals xs us→Vals (xs.eraseIdx j) (us.eraseIdx j)
  | _,_,_,.nil=> .nil
  | _,_,0,.cons r rs=> rs
  | _,_,j+1,.cons r rs=> .cons r (B38 j rs)
theorem B4F {α β:Type} (f:α→β):∀(l:List α) (j:Nat),(l.eraseIdx j).map f=(l.map f).eraseIdx j
  | [],_=> rfl
  | _::_,0=> rfl
  | a::l,j+1=> by rw [List.map_cons,List.eraseIdx_cons_succ,List.eraseIdx_cons_succ,List.map_cons,B4F f l j]
theorem C3A {X:Cx}:MtR X "list.remove" B6o:=by
  intro pins s σ H x xs v us Q I rx rxs h
  obtain ⟨l,ys,k,j,rfl,rfl,e,hj,hb,q⟩:=h
  obtain rfl:v=Value.ref l:=rx
  cases rxs with
  | cons r rs=>
    cases rs
    obtain ⟨t,rfl⟩:=r
    obtain ⟨lim,its,n,vs,len,ho⟩:=I.lstM e
    have jl:j < ys.length:=(List.getElem?_eq_some_iff.mp hj).1
    have li:its.length=ys.length:=by rw [←len,List.length_map]
    have eq:∀y∈its.toArray,MeetsSeq.EqGives y (.str k t) (A8e k y):=fun y hy=> by
      have hy:y∈its:=by simpa using hy
      obtain ⟨i,hi,rfl⟩:=List.getElem_of_mem hy
      obtain ⟨z,u,_,e2⟩:=A7r vs i hi
      rw [e2]
      intro prog w A E s Q q
      exact PyProof.Rows.eqBool_str q
    refine call_meets PySem.F.slot_list_remove ⟨_,ho,rfl⟩ PySem.F.entry_list_remove (PySem.F.args_list_remove_2 _ _) (MeetsSeq.list_remove l its.toArray n (.str k t) (A8e k) eq j (by simpa [li] using jl) ?_ (fun m hm hmj=> ?_) (by simpa [←len] using lim)) ⟨ho,?_⟩
    · obtain ⟨z,u,e1,e2⟩:=A7r vs j (by omega)
      rw [hj] at e1
      cases e1
      have e2:its.toArray[j]'(by simpa [li] using jl)= .str k u:=by simpa using e2
      rw [e2]
      simp [A8e]
    · have hm2:m < its.length:=by simpa using hm
      obtain ⟨z,u,e1,e2⟩:=A7r vs m hm2
      have e2:its.toArray[m]= .str z u:=by simpa using e2
      rw [e2]
      have ne:z≠k:=fun e=> hb m hmj (by rw [e1,e])
      simpa [A8e] using ne
    · refine ⟨.non,_,I.lset e ho (f:=fun xs=> xs.eraseIdxIfInBounds j) (its':=its.eraseIdx j) ?_ ?_ ?_,rfl,q⟩
      · simp [Array.eraseIdxIfInBounds,li,jl]
      · rw [B4F]
        exact B38 j vs
      · rw [List.length_map]
        have:=List.length_eraseIdx_le ys j
        rw [List.length_map] at lim
        omega
theorem B4Q {K:PySem.W.Frag} {H:Hp}:∀ys:List Str,RepL K H (ys.map W.str) (ys.map V.str)
  | []=> .nil
  | y::r=> .cons .str (B4Q r)
def A1V:R1:=fun xs ws Q=> match ws with
  | [.str k]=> ∃ys:List Str,xs=ys.map W.str∧k∈ys∧Q ((ys.erase k).map W.str) .non
  | _=> False
theorem C1P {ys:List Str} {k:Str} (h:k∈ys):ys[ys.idxOf k]? =some k∧∀m:Nat,m < ys.idxOf k→ys[m]? ≠some k:=by
  refine ⟨by rw [List.getElem?_eq_getElem (List.idxOf_lt_length_of_mem h),List.getElem_idxOf],fun m hm e=> ?_⟩
  obtain ⟨hl,e2⟩:=List.getElem?_eq_some_iff.mp e
  have z:=List.not_of_lt_findIdx (p:=fun y=> y==k) (xs:=ys) (i:=m) hm
  rw [e2] at z
  simp at z
theorem C48 {K:PySem.W.Frag}:LmOk K B6o A1V:=
  ⟨fun xs ws Q Q' k q=> by
    unfold A1V at q ⊢
    split at q
    · obtain ⟨ys,e,m,q⟩:=q;exact ⟨ys,e,m,k _ _ q⟩
    · exact q,fun H p xs vs ws us Qf Q l rl rw0 q k=> by
    unfold A1V at q
    split at q
    · rename_i k0
      obtain ⟨v,t,rfl,rv,rt⟩:=rw0.of_cons
      rw [rt.of_nil,Rep.of_str (K:=K) (H:=H) rv]
      obtain ⟨ys,rfl,m,q⟩:=q
      rw [rl.of_strs] at l
      obtain ⟨i1,i2⟩:=C1P m
      refine ⟨p,ys,k0,ys.idxOf k0,rfl,rfl,l,i1,i2,?_⟩
      rw [←List.erase_eq_eraseIdx_of_idxOf rfl]
      exact k _ _ _ _ q (B4Q _) .non
    · exact q.elim⟩
def C4Q:R1:=fun xs ws Q=> match ws with
  | [.int i,y]=> xs.length < sizeLine∧0≤i∧i < 2 ^ 63∧Q (xs.take i.toNat++[y]++xs.drop i.toNat) .non
  | _=> False
def C11:R1:=fun xs ws Q=> match ws with
  | []=> Q xs.reverse .non
  | _=> False
def C4y:R1:=fun xs ws Q=> match ws with
  | []=> Q [] .non
  | _=> False
end Ab
namespace Ab
open PySem PySem.Spec PyProof.Rows L2 RZ
def A8c (v:Vw) (w d:W) (Q:RV→Prop):Prop:=∃l s,v.toW=O2 l∧w= .str s∧Q (.val ((l.lookup s).getD d))
def isM (v:Vw):Prop:=∃l,v.toW=O2 l
def aGetMD (to:AT) (tk td:D3):AT:=fun env h Q=> to env h fun r env1 h1=> isM (view env1 h1 r)∧tk env1 h1 fun w env2 h2=> td env2 h2 fun d env3 h3=> A8c (view env3 h3 r) w d fun x=> Q x env3 h3
theorem aGetMD.mono {tk td:D3} {to:AT} (n:B3 to) (m:B3 tk) (o:B3 td):B3 (aGetMD to tk td):=fun env h Q Q' k q=> n env h _ _ (fun r e g z=> ⟨z.1,m e g _ _ (fun w e g z=> o e g _ _ (fun d e g ⟨l,s,z1,z2,z4⟩=> ⟨l,s,z1,z2,k _ _ _ z4⟩) z) z.2⟩) q
section
variable {X:Cx} {G:Gx} {o k e:Expr} {apos cpos:Pos} {tk td:D3} {to:AT}
theorem C2d (hu:X.A.units+64 < cLine) (ho:AE X G o to) (hk:AV X G k tk) (hd:AV X G e td) (m:M2 X o "get" apos k e cpos):
    AE X G (.Call (.Attribute o "get" apos) [k,e] [] cpos) (aGetMD to tk td):=by
  refine ⟨aGetMD.mono ho.mono hk.mono hd.mono,PE.imp (pe_dget2 (by omega) ho.pe hk.pe hd.pe m) fun σ H Q ⟨env,h,S,q⟩=> ?_⟩
  refine ⟨env,h,S,ho.mono env h _ _ (fun r env1 h1 ⟨⟨l0,z0⟩,z⟩ x H1 S1 x1 r1 f1=> ?_) q⟩
  obtain ⟨p0,ks0,ex0,rd0,_,_⟩:=(r1.vr S1).smap z0
  subst ex0
  refine ⟨p0,rfl,.inl ⟨ks0,rd0⟩,env1,h1,S1,hk.mono env1 h1 _ _ (fun w env2 h2 z y H2 S2 x2 r2=> ?_) z⟩
  refine ⟨env2,h2,S2,hd.mono env2 h2 _ _ (fun d env3 h3 ⟨l,s,z1,z2,zq⟩ u H3 S3 x3 r3=> ?_) z⟩
  obtain ⟨p,ks,ex,rd,e1,e2⟩:=((r1.xt S1 (x2.trans x3)).vr S3).smap z1
  injection ex with ex
  subst ex
  subst z2
  have ey:y= .str s:=Rep.of_str (K:=G.K) (H:=H2) r2
  subst ey
  rcases A31 (s:=s) e1 e2 with ⟨a,b⟩ | ⟨w,v,a,b,rv⟩
  · rw [a] at zq
    exact ⟨none,.inl ⟨ks,.inr s,rd,rfl,b.symm⟩,zq u H3 S3 (x1.trans (x2.trans x3)) r3 trivial⟩
  · rw [a] at zq
    exact ⟨some v,.inl ⟨ks,.inr s,rd,rfl,b.symm⟩,zq v H3 S3 (x1.trans (x2.trans x3)) rv trivial⟩
end
end Ab
namespace Ab
open PySem PySem.Spec PyProof.Rows L2 RZ
def B62:L4:=fun as Q=> match as with
  | [.wv (.int i)]=> i.natAbs.log2 < 1920∧Q (.val (.str (toString i)))
  | [.wv (.str s)]=> Q (.val (.str s))
  | _=> False
def aJoin (to te:AT):AT:=fun env h Q=> to env h fun r env1 h1=> (∃s,view env1 h1 r= .wv (.str s))∧te env1 h1 fun r2 env2 h2=> ∃(s:Str) (ys:List Str),view env2 h2 r= .wv (.str s)∧(view env2 h2 r2).items=some (ys.map W.str)∧(ys.map (·.length)).sum+ys.length*s.length≤16777216∧Q (.val (.str (Txt.join s ys))) env2 h2
theorem aJoin.mono {to te:AT} (a:B3 to) (b:B3 te):B3 (aJoin to te):=fun env h Q Q' k q=>
  a env h _ _ (fun r e g z=> ⟨z.1,b e g _ _ (fun r2 e2 g2 ⟨s,ys,z1,z2,z3,z4⟩=> ⟨s,ys,z1,z2,z3,k _ _ _ z4⟩) z.2⟩) q
section
variable {X:Cx} {G:Gx} {o e:Expr} {to te:AT} {apos pos:Pos}
end
section
variable {X:Cx} {CX:CXT} {k:Nat} {f C:Addr} {fd:FuncData} {ps:List Str} {sp:Sp} {E:XK}
end
section
variable {X:Cx} {G:Gx} {sp:G1} {C:Str} {st:Stmt} {k j:Nat} {ps:List Str} {o:Expr} {p pos:Pos} {to:AT}
end
end Ab
namespace Ab
open PySem PySem.Spec PyProof.Rows L2 RZ
def aM1 (o:L4) (to te:AT):AT:=fun env h Q=> to env h fun r env1 h1=> (∃s,view env1 h1 r= .wv (.str s))∧te env1 h1 fun r2 env2 h2=> o [view env2 h2 r,view env2 h2 r2] fun x=> Q x env2 h2
theorem aM1.mono {K:PySem.W.Frag} {r:List V→Hp→VK→Prop} {o:L4} {to te:AT} (ca:CallA K r o) (a:B3 to) (b:B3 te):B3 (aM1 o to te):=fun env h Q Q' k q=>
  a env h _ _ (fun r e g z=> ⟨z.1,b e g _ _ (fun r2 e2 g2 z=> ca.mono _ _ _ (fun x q=> k _ _ _ q) z) z.2⟩) q
def C4n:L4:=fun as Q=> match as with
  | [.wv (.str a),.wv (.str b)]=> (b.length==0)=false∧a.length+2≤sizeLine∧Q (.own (.seq ((Txt.split a b).map W.str)))
  | _=> False
section
variable {X:Cx} {G:Gx} {o e:Expr} {to te:AT} {apos pos:Pos}
end
end Ab
namespace Ab
open PySem PySem.Spec PyProof.Rows L2 RZ
def n7 (tab:List (Str×Int)) (x:Str):Option Int:=(tab.find? fun p=> decide (p.1=x)).map (·.2)
structure DcF (K:PySem.W.Frag) (w:World) (a:Addr) (tab:List (Str×Int)):Prop where
  kd:∃es n,KDict K w a es n
  hit:∀x i,n7 tab x=some i→∃t,PySem.W.nsIn K a x=some (some (.int i t))
  miss:∀x,n7 tab x=none→PySem.W.nsIn K a x=some none
def aInKD (neg:Bool) (tab:List (Str×Int)) (tk:D3):AT:=fun env h Q=> tk env h fun w env1 h1=> ∃s,w= .str s∧Q (.val (.bl (if neg=true then !(n7 tab s).isSome else (n7 tab s).isSome))) env1 h1
theorem aInKD.mono {neg:Bool} {tab:List (Str×Int)} {tk:D3} (m:B3 tk):B3 (aInKD neg tab tk):=fun env h Q Q' k q=> m env h _ _ (fun w e g ⟨s,z1,z2⟩=> ⟨s,z1,k _ _ _ z2⟩) q
def aIxKD (tab:List (Str×Int)) (tk:D3):AT:=fun env h Q=> tk env h fun w env1 h1=> ∃s i,w= .str s∧n7 tab s=some i∧Q (.val (.int i)) env1 h1
theorem aIxKD.mono {tab:List (Str×Int)} {tk:D3} (m:B3 tk):B3 (aIxKD tab tk):=fun env h Q Q' k q=> m env h _ _ (fun w e g ⟨s,i,z1,z0,z2⟩=> ⟨s,i,z1,z0,k _ _ _ z2⟩) q
section
variable {X:Cx} {G:Gx} {k:Expr} {pos dpos:Pos} {x:Str} {tab:List (Str×Int)} {tk:D3}
end
end Ab
namespace Ab
open PySem PySem.Spec PyProof.Rows L2 RZ
def C6J:L4:=fun as Q=> match as with
  | [.wv (.bl b)]=> Q (.val (.int (if b then 1 else 0)))
  | _=> False
end Ab
namespace Ab
open PySem PySem.Spec PyProof.Rows L2 RZ
def B0v (i:Nat) (t:AT):AT:=fun env h Q=> ∃q l,env[i]? =some (some (.val (.ref q)))∧h q=some (.cont (.map (smap l)))∧
  t ((noE env).set i (some (.val (O2 l)))) (fun _=> none) fun r _ _=> ∃b,r= .val (.bl b)∧Q (.val (.bl b)) env h
section
variable {X:Cx} {G:Gx} {e:Expr} {t:AT} {i:Nat}
theorem C14 (gk:G.K=X.K) (ha:∀G':Gx,G'.K=X.K→AE X G' e t):AE X G e (B0v i t):=by
  have mt:=(ha G gk).mono
  refine ⟨fun env h Q Q' k ⟨q,l,z1,z2,z3⟩=> ⟨q,l,z1,z2,mt _ _ _ _ (fun r _ _ ⟨b,e1,z⟩=> ⟨b,e1,k _ _ _ z⟩) z3⟩,?_⟩
  have pe:PE X e (fun σ H Q=> ∃G':Gx,G'.K=X.K∧cE G' t σ H Q):=⟨fun pins s σ H Q I ⟨G',g,q⟩=> (ha G' g).pe.run pins s σ H Q I q⟩
  refine PE.imp (pe_lock pe) fun σ H Q ⟨env,h,S,q,l,z1,z2,z3⟩=> ?_
  obtain ⟨kq,e0,e1,e2,noq,lock⟩:=S.lock z2
  refine ⟨q,.dK kq,e0,trivial,fun od=> ?_⟩
  obtain ⟨_,k1⟩:=lock od
  obtain ⟨v,ev,rv⟩:=S.val i _ z1
  have ev2:v= .ref q:=Rep.of_ref (K:=G.K) (H:=H) rv
  subst ev2
  generalize hHl:upd H q (.frz od (.dK kq))=Hl at k1
  have hlq:Hl q=some (.frz od (.dK kq)):=by rw [←hHl];exact upd_same
  have hln:∀p,p≠q→Hl p=H p:=fun p n=> by rw [←hHl];exact upd_ne n
  have Sb:BS ⟨G.K,fun _=> none,Hl⟩ (noE env) (fun _=> none) σ Hl:=by
    have Sw:=S.small
    refine ⟨Sw.len,fun i w z=> ?_,fun i c z=> (VOnly.noE i c z).elim,fun i j c c' p y _ _ _=> (VOnly.noE i c y).elim,fun _ _ z=> (by cases z),fun p o z _ _=> z,fun _ _ z=> (by cases z),fun p o z=> ⟨o,z⟩,?_⟩
    · obtain ⟨v,a,b⟩:=Sw.val i w z;exact ⟨v,a,Rep.mono k1 w v b⟩
    · rw [←hHl];exact S.tabs.upd fun o z=> by rw [e0] at z;cases z;trivial
  have rd:Rep G.K Hl (O2 l) (.ref q):=by
    show Rep G.K Hl (.dct ((smap l).map (·.1)) ((smap l).map (·.2))) (.ref q)
    simp only [Rep]
    refine ⟨q,rfl,.inl ⟨od,kq,hlq,?_,?_⟩⟩
    · unfold smap
      rw [List.map_map,List.map_map]
      have e3:kq.map (fun p=> some p.1)=(kq.map (·.1)).map some:=by rw [List.map_map];rfl
      rw [e3,e1,List.map_map]
      rfl
    · rw [A5L]
      exact RepL.mono k1 _ _ e2
  have es:σ.set i (some (.ref q))=σ:=by
    refine List.ext_getElem? fun j=> ?_
    rw [List.getElem?_set]
    by_cases g:i=j
    · subst g
      rw [if_pos rfl,if_pos (List.getElem?_eq_some_iff.mp ev).1]
      exact ev.symm
    · rw [if_neg g]
  have S1:=Sb.set (r:= .val (O2 l)) i (v:= .ref q) rd trivial
  rw [es] at S1
  refine ⟨⟨G.K,fun _=> none,Hl⟩,gk,_,_,S1,mt _ _ _ _ (fun r env2 h2 ⟨b,er,z⟩ v H2 S2 x2 r2 f2=> ?_) z3⟩
  subst er
  have ev:v= .bl b:=Rep.of_bl (K:=G.K) (H:=H2) r2
  subst ev
  have st2:Sta Hl H2:=fun p o e t=> S2.fr p o e rfl t
  have th2:∀p o,Hl p=some o→∃u,H2 p=some u:=fun p o e=> S2.tr p o e
  have hq2:H2 q=some (.frz od (.dK kq)):=st2 q _ hlq (fun _ z=> by cases z)
  have sta:Sta H (upd H2 q (.dK kq)):=fun p o e t=> by
    by_cases np:p=q
    · subst np;rw [e0] at e;cases e;exact upd_same
    · rw [upd_ne np];exact st2 p o (by rw [hln p np];exact e) t
  have th:∀p o,H p=some o→∃u,upd H2 q (.dK kq) p=some u:=fun p o e=> by
    by_cases np:p=q
    · subst np;exact ⟨_,upd_same⟩
    · obtain ⟨u,eu⟩:=th2 p o (by rw [hln p np];exact e)
      exact ⟨u,by rw [upd_ne np];exact eu⟩
  obtain ⟨S3,x3⟩:=S.same sta th (S2.tabs.unlock hq2 (fun _ z=> by cases z) (fun _ z=> by cases z))
  exact ⟨hq2,z _ _ S3 x3 (Rep.bl (K:=G.K) (H:=upd H2 q (.dK kq))) trivial⟩
end
end Ab
namespace Ab
open PySem PySem.Spec PyProof.Rows L2
theorem C2K {n:String} {bm:List Value} (h:B1g n bm=true):∃B ii bmB,ExcBaseFacts B n ii bmB∧MroG bm bmB:=by
  unfold B1g at h
  rcases Bool.or_eq_true_iff.mp h with h | h
  · obtain ⟨a,b⟩:=Bool.and_eq_true_iff.mp h
    obtain rfl:=of_decide_eq_true a
    exact ⟨_,_,_,F.excBase_ValueError,A9s C6R _ b⟩
  rcases Bool.or_eq_true_iff.mp h with h | h
  · obtain ⟨a,b⟩:=Bool.and_eq_true_iff.mp h
    obtain rfl:=of_decide_eq_true a
    exact ⟨_,_,_,F.excBase_LookupError,A9s C52 _ b⟩
  · obtain ⟨a,b⟩:=Bool.and_eq_true_iff.mp h
    obtain rfl:=of_decide_eq_true a
    exact ⟨_,_,_,F.excBase_IndexError,A9s C6p _ b⟩
theorem C4D {K:PySem.W.Frag} {C:Addr} (h:B2F K C=true):∃nm q N bs bm bmB B newId initId sn sub ab col dd k0 k1 k2 k3 k5,K.lookup C=some (excClassObj nm q C N bs bm true sn sub ab col dd k0 k1 k2 k3 k5 newId)∧ExcBaseFacts B newId initId bmB∧MroG bm bmB:=by
  unfold B2F at h
  split at h
  · rename_i t dd cd sl e
    obtain ⟨h1,h⟩:=Bool.and_eq_true_iff.mp h
    split at h
    · rename_i C' bm k0 k1 k2 k3 n k5 hm hs
      obtain ⟨h2,h⟩:=Bool.and_eq_true_iff.mp h
      obtain ⟨h3,h⟩:=Bool.and_eq_true_iff.mp h
      obtain ⟨h4,h5⟩:=Bool.and_eq_true_iff.mp h
      have h1:=of_decide_eq_true h1
      have h2:=of_decide_eq_true h2
      obtain ⟨B,ii,bmB,FB,M⟩:=C2K h3
      obtain ⟨nm,bs,mro,ns,qn,hd,sn,sub,ab,col,del⟩:=cd
      dsimp only at hm h4 h5
      have h4:del=false:=by simpa using h4
      subst h1 h2 hm h4 h5
      have es:sl=#[k0,k1,k2,k3,some (.builtin n),k5]:=by
        obtain ⟨l⟩:=sl
        simp only at hs
        rw [hs]
      subst es
      exact ⟨nm,qn,ns,bs,bm,bmB,B,n,ii,sn,sub,ab,col,dd,k0,k1,k2,k3,k5,e,FB,M⟩
    · cases h
  · cases h
structure XkF (K:PySem.W.Frag) (x:Str) (fs:List Str):Prop where
  cls:OexG K (He.ga K x)
  ini:PySem.W.findIn K (.ref (He.ga K x)) "__init__"=some (some (.ref (He.ma K (He.ga K x) "__init__")))
  fn:PySem.W.typeIn K (.ref (He.ma K (He.ga K x) "__init__"))=some (.type "function")
  xf:XfC K (He.ga K x)
  no:∀f∈("word":Str)::fs,PySem.W.findIn K (.ref (He.ga K x)) f=some none
theorem A1S {K:PySem.W.Frag} {x:Str} {fs:List Str} (h:xkB K x fs=true):XkF K x fs:=by
  unfold xkB at h
  obtain ⟨h1,h⟩:=Bool.and_eq_true_iff.mp h
  obtain ⟨h2,h⟩:=Bool.and_eq_true_iff.mp h
  obtain ⟨h3,h⟩:=Bool.and_eq_true_iff.mp h
  obtain ⟨h4,h⟩:=Bool.and_eq_true_iff.mp h
  obtain ⟨h5,h⟩:=Bool.and_eq_true_iff.mp h
  obtain ⟨h6,h⟩:=Bool.and_eq_true_iff.mp h
  obtain ⟨h7,h⟩:=Bool.and_eq_true_iff.mp h
  obtain ⟨h8,h9⟩:=Bool.and_eq_true_iff.mp h
  exact ⟨⟨C4D h1,of_decide_eq_true h2,of_decide_eq_true h3,of_decide_eq_true h4,h5⟩,of_decide_eq_true h6,of_decide_eq_true h7,xfB_ok h8,fun f m=> of_decide_eq_true (List.all_eq_true.mp h9 f m)⟩
theorem A8F {K:PySem.W.Frag} {ks:List Str} {c:Str} (h:A6U K ks c=true):∀k∈ks,PySem.W.exmOne K (.ref (He.ga K k)) (.ref (He.ga K c))=some (g7 k c):=fun k m=> of_decide_eq_true (List.all_eq_true.mp h k m)
theorem B6M {K:PySem.W.Frag} {ks:List Str} {f:Str} (h:B2M K ks f=true):∀c∈ks,XfC K (He.ga K c)∧PySem.W.findIn K (.ref (He.ga K c)) f=some none:=fun c m=> by
  obtain ⟨a,b⟩:=Bool.and_eq_true_iff.mp (List.all_eq_true.mp h c m)
  exact ⟨xfB_ok a,of_decide_eq_true b⟩
theorem xk0 {P:Program} {w:World} {K:PySem.W.Frag} {mg:Str→Option Value} {base:Heap} {x qual word:Str} {params:Arguments} {scope:Scope} {fd:FuncData} {q1 q2 q3 q4:Pos} {j:Nat} (X:XkF K x []) (gl:mg x=some (.ref (He.ga K x)))
    (F:FunD K "__init__" qual params [.Assign [.Attribute (.Name "self" q1) "word" q2] (.Constant (.str word) j q3) q4] scope [] [] (He.ma K (He.ga K x) "__init__") fd) (S:FnScope ["self"] ["self"] scope)
    (bd:∀(kV doc pm:Value) (an:Option Addr) (cdv ct:Value) (us:List Value),us.length=1→bindArgs (PySem.W.fnOf "__init__" qual params [.Assign [.Attribute (.Name "self" q1) "word" q2] (.Constant (.str word) j q3) q4] scope .none kV doc pm an cdv ct) ⟨us,[]⟩=pure ((["self"]:List Str).zip us)):XkOk P w K mg base x word []:=
  ⟨gl,X.cls,_,fd,["self"],X.ini,X.fn,F.bindsN bd,C6Q F S X.cls (X.no _ (by simp))⟩
theorem xk1 {P:Program} {w:World} {K:PySem.W.Frag} {mg:Str→Option Value} {base:Heap} {x qual word f:Str} {params:Arguments} {scope:Scope} {fd:FuncData} {q1 q2 q3 q4 q5 q6 q7 q8:Pos} {j:Nat} (X:XkF K x [f]) (gl:mg x=some (.ref (He.ga K x)))
    (F:FunD K "__init__" qual params [.Assign [.Attribute (.Name "self" q1) "word" q2] (.Constant (.str word) j q3) q4,.Assign [.Attribute (.Name "self" q5) f q6] (.Name f q7) q8] scope [] [] (He.ma K (He.ga K x) "__init__") fd) (S:FnScope ["self",f] ["self",f] scope)
    (bd:∀(kV doc pm:Value) (an:Option Addr) (cdv ct:Value) (us:List Value),us.length=2→bindArgs (PySem.W.fnOf "__init__" qual params [.Assign [.Attribute (.Name "self" q1) "word" q2] (.Constant (.str word) j q3) q4,.Assign [.Attribute (.Name "self" q5) f q6] (.Name f q7) q8] scope .none kV doc pm an cdv ct) ⟨us,[]⟩=pure ((["self",f]:List Str).zip us))
    (hd:(f==("__debug__":Str))=false:=by decide) (hcd:(f==("__classdict__":Str))=false:=by decide):XkOk P w K mg base x word [f]:=
  ⟨gl,X.cls,_,fd,["self",f],X.ini,X.fn,F.bindsN bd,C6T F S X.cls (X.no _ (by simp)) (X.no _ (by simp)) hd hcd⟩
theorem xk2 {P:Program} {w:World} {K:PySem.W.Frag} {mg:Str→Option Value} {base:Heap} {x qual word f g:Str} {params:Arguments} {scope:Scope} {fd:FuncData} {q1 q2 q3 q4 q5 q6 q7 q8 r5 r6 r7 r8:Pos} {j:Nat} (X:XkF K x [f,g]) (gl:mg x=some (.ref (He.ga K x)))
    (F:FunD K "__init__" qual params [.Assign [.Attribute (.Name "self" q1) "word" q2] (.Constant (.str word) j q3) q4,.Assign [.Attribute (.Name "self" q5) f q6] (.Name f q7) q8,.Assign [.Attribute (.Name "self" r5) g r6] (.Name g r7) r8] scope [] [] (He.ma K (He.ga K x) "__init__") fd) (S:FnScope ["self",f,g] ["self",f,g] scope)
    (bd:∀(kV doc pm:Value) (an:Option Addr) (cdv ct:Value) (us:List Value),us.length=3→bindArgs (PySem.W.fnOf "__init__" qual params [.Assign [.Attribute (.Name "self" q1) "word" q2] (.Constant (.str word) j q3) q4,.Assign [.Attribute (.Name "self" q5) f q6] (.Name f q7) q8,.Assign [.Attribute (.Name "self" r5) g r6] (.Name g r7) r8] scope .none kV doc pm an cdv ct) ⟨us,[]⟩=pure ((["self",f,g]:List Str).zip us))
    (hd:(f==("__debug__":Str))=false:=by decide) (hcd:(f==("__classdict__":Str))=false:=by decide) (hd':(g==("__debug__":Str))=false:=by decide) (hcd':(g==("__classdict__":Str))=false:=by decide):XkOk P w K mg base x word [f,g]:=
  ⟨gl,X.cls,_,fd,["self",f,g],X.ini,X.fn,F.bindsN bd,C6W F S X.cls (X.no _ (by simp)) (X.no _ (by simp)) (X.no _ (by simp)) hd hcd hd' hcd'⟩
end Ab
namespace Ab
open PySem PySem.Spec PyProof.Rows L2
end Ab
namespace Ab
open PySem PySem.Spec PyProof.Rows L2
end Ab
namespace Ab
open PySem PySem.Spec PyProof.Rows L2 RZ
abbrev MC:=AH→(RR→AH→Prop)→(AExc→AH→Prop)→Prop
abbrev CE:=(SV→MC)→MC
abbrev CW:=(W→MC)→MC
abbrev CB:=(Bool→MC)→MC
abbrev CS:=(List SV→MC)→MC
abbrev D5:=(List W→MC)→MC
abbrev CO:=(Option Int→MC)→MC
def SV.fz:SV→W
  | .val w=> w
  | .own c=> c.fz
def SV.rr:SV→RR
  | .val w=> .val w
  | .own c=> .own c
def SV.rv:SV→RV
  | .val w=> .val w
  | .own c=> .own c
def RR.sv:RR→SV
  | .val w=> .val w
  | .own c=> .own c
def K3 (h:AH):SV→Vw
  | .val w=> viewW h w
  | .own c=> .cv c
def bad:MC:=fun _ _ _=> False
def J9 (p:Prop) (m:MC):MC:=fun h Q E=> p∧m h Q E
def ret (x:SV):MC:=fun h Q _=> Q x.rr h
def g9 (k:SV→MC):RV→MC
  | .val w=> k (.val w)
  | .own c=> k (.own c)
  | .slot _=> bad
def A1a:M5:=oII (fun _ _=> True) fun i j=> .int (i - j)
def T0:M5:=oII B7S fun i j=> .int (i % j)
def o5:M5:=oII CDivW fun i j=> .int (i / j)
def A2R:M5:=oII CPow fun i j=> .int (i ^ j.toNat)
def oLt:M5:=oII (fun _ _=> True) fun i j=> .bl (decide (i < j))
def oLe:M5:=oII (fun _ _=> True) fun i j=> .bl (decide (i≤j))
def oGt:M5:=oII (fun _ _=> True) fun i j=> .bl (decide (j < i))
def oGe:M5:=oII (fun _ _=> True) fun i j=> .bl (decide (j≤i))
def A6X:L4:=oBls fun bs=> bs.any id
def A3J:L4:=oBls fun bs=> bs.all id
def C7C:L4:=o1I fun i=> if i < 0 then -i else i
def C57:L4:=o2I fun i j=> if j < i then j else i
def C6I:L4:=o2I fun i j=> if j > i then j else i
def eV (x:SV):CE:=fun k=> k x
def eC (w:W):CE:=fun k=> k (.val w)
def D4 (o:M5) (x y:SV) (k:SV→MC):MC:=fun h Q E=> o (K3 h x) (K3 h y) fun r=> g9 k r h Q E
def A8 (o:M5) (a b:CE):CE:=fun k=> a fun x=> b fun y=> D4 o x y k
def A2 (a:CE):CW:=fun k=> a fun x=> k x.fz
def B4:D5:=fun k=> k []
def A6 (a:CW) (b:D5):D5:=fun k=> a fun w=> b fun ws=> k (w::ws)
def B7G (ws:List W) (k:SV→MC):MC:=fun h Q E=> ∃(kvs:List (W×W)) (ks:List Key),ws=B1T kvs∧kvs.map (fun p=> A0y p.1)=ks.map some∧ks.Nodup∧kvs.length≤15∧k (.own (.map kvs)) h Q E
def C6D (a:D5):CE:=fun k=> a fun ws=> B7G ws k
def B7W (x:SV) (w d:W) (k:SV→MC):MC:=fun h Q E=> ∃kvs key,x= .own (.map kvs)∧B7N kvs∧A0y w=some key∧k (.val (B7M kvs key d)) h Q E
def C5v (x:SV) (mk md:CW):CE:=fun k=> fun h Q E=> (∃kvs,x= .own (.map kvs))∧(mk fun w=> md fun d=> B7W x w d k) h Q E
def T7 (a:D5):CE:=fun k=> a fun ws=> J9 (ws.length≤sizeLine) (k (.val (.tup ws)))
def Q5 (a:D5):CE:=fun k=> a fun ws=> J9 (ws.length≤sizeLine) (k (.own (.seq ws)))
def R3 (x:SV) (k:Int→MC):MC:=fun h Q E=> match K3 h x with
  | .wv (.int i)=> k i h Q E
  | _=> False
def T3 (x:SV) (k:Bool→MC):MC:=fun h Q E=> match K3 h x with
  | .wv (.bl i)=> k i h Q E
  | _=> False
def oNo:CO:=fun k=> k none
def A3x (a:CE):CO:=fun k=> a fun x=> R3 x fun i=> k (some i)
def slc (x:SV) (l u:Option Int) (k:SV→MC):MC:=fun h Q E=> oSl (K3 h x) l u fun r=> g9 k r h Q E
def eSl (a:CE) (lo hi:CO):CE:=fun k=> a fun x=> lo fun l=> hi fun u=> slc x l u k
def D7:CS:=fun k=> k []
def C7 (a:CE) (b:CS):CS:=fun k=> a fun x=> b fun xs=> k (x::xs)
def cb (o:L4) (xs:List SV) (k:SV→MC):MC:=fun h Q E=> o (xs.map (K3 h)) fun r=> g9 k r h Q E
def E6 (o:L4) (a:CS):CE:=fun k=> a fun xs=> cb o xs k
def A0B:CB:=fun k=> k true
def E4 (a:CE):CB:=fun k=> a fun x=> T3 x k
def tAnd (a b:CB):CB:=fun k=> a fun x=> if x=true then b k else k false
def tOr (a b:CB):CB:=fun k=> a fun x=> if x=true then k true else b k
def A0x (a:CB):CB:=fun k=> a fun x=> k (!x)
def eIf (c:CB) (a b:CE):CE:=fun k=> c fun x=> if x=true then a k else b k
def A1Y (a b:CE):CE:=fun k=> a fun x=> T3 x fun c=> if c=true then b k else k (.val (.bl false))
def eOr (a b:CE):CE:=fun k=> a fun x=> T3 x fun c=> if c=true then k (.val (.bl true)) else b k
def B15 (a:CE):CE:=fun k=> a fun x=> T3 x fun c=> k (.val (.bl (!c)))
def A6I (a:CE):CE:=fun k=> a fun x=> R3 x fun i=> k (.val (.int (-i)))
def A1Z (P P':Int→Int→Bool) (a b c:CE):CE:=fun k=> a fun x=> b fun y=> R3 x fun i=> R3 y fun j=>
  if P i j=true then c fun z=> R3 z fun l=> k (.val (.bl (P' j l))) else k (.val (.bl false))
def call (m:MC) (k:SV→MC):MC:=fun h Q E=> m h (fun r h'=> k r.sv h' Q E) E
def G3 (f:List W→MC) (a:D5):CE:=fun k=> a fun ws=> call (f ws) k
def call0 (m:MC) (k:SV→MC):MC:=fun h Q E=> m h (fun r h'=> k r.sv h' Q E) fun _ _=> False
def u4 (f:List W→MC) (a:D5):CE:=fun k=> a fun ws=> call0 (f ws) k
def A28 (x:AExc):MC:=fun h _ E=> E x h
def perm (p:List Nat) (ws:List W) (k:List W→MC):MC:=J9 (ws.length=p.length) (k (p.map fun i=> ws.getD i .non))
def C6o (p:List Nat) (a:D5):D5:=fun k=> a fun ws=> perm p ws k
def items (w:W) (k:List W→MC):MC:=match w with
  | .tup ws=> k ws
  | .lst ws=> k ws
  | _=> bad
def A2z (a:CW):D5:=fun k=> a fun w=> items w k
def A82 (xs:List SV) (k:List W→MC):MC:=match xs with
  | [x]=> R3 x fun j=> J9 (-(2 ^ 62)≤j∧j < 2 ^ 62) (k (T1 0 j.toNat))
  | _=> bad
def B10 (xs:List SV) (k:List W→MC):MC:=match xs with
  | [x,y]=> R3 x fun i=> R3 y fun j=> J9 (-(2 ^ 62)≤i∧i < 2 ^ 62∧ -(2 ^ 62)≤j∧j < 2 ^ 62) (k (T1 i (j - i).toNat))
  | _=> bad
def A2G (a:CS):D5:=fun k=> a fun xs=> A82 xs k
def C6Z (a:CS):D5:=fun k=> a fun xs=> B10 xs k
def A80 (ws:List W) (k:List W→MC):MC:=match ws with
  | [.tup xs,.tup ys]=> k (List.zipWith (fun a b=> W.tup [a,b]) xs ys)
  | [.lst xs,.lst ys]=> k (List.zipWith (fun a b=> W.tup [a,b]) xs ys)
  | _=> bad
def C6v (a:D5):D5:=fun k=> a fun ws=> A80 ws k
def A8Z (a:CW):D5:=fun k=> a fun w=> items w fun ws=> k (T8 ws)
def enz (ws:List W) (k:List W→MC):MC:=match ws with
  | [a,b]=> items a fun xs=> items b fun ys=> k (ezW xs ys)
  | _=> bad
def C6z (a:D5):D5:=fun k=> a fun ws=> enz ws k
def un2 (w:W) (k:W→W→MC):MC:=match w with
  | .tup [a,b]=> k a b
  | _=> bad
def un3 (w:W) (k:W→W→W→MC):MC:=match w with
  | .tup [a,b,c]=> k a b c
  | _=> bad
def un5 (w:W) (k:W→W→W→W→W→MC):MC:=match w with
  | .tup [a,b,c,d,e]=> k a b c d e
  | _=> bad
def uq2 (w:W) (k:W→W→MC):MC:=items w fun ws=> match ws with
  | [a,b]=> k a b
  | _=> bad
def uq3 (w:W) (k:W→W→W→MC):MC:=items w fun ws=> match ws with
  | [a,b,c]=> k a b c
  | _=> bad
def uq4 (w:W) (k:W→W→W→W→MC):MC:=items w fun ws=> match ws with
  | [a,b,c,d]=> k a b c d
  | _=> bad
def uq5 (w:W) (k:W→W→W→W→W→MC):MC:=items w fun ws=> match ws with
  | [a,b,c,d,e]=> k a b c d e
  | _=> bad
def A6S (w:W) (k:W→SV→MC):MC:=items w fun ws=> match ws with
  | x::r=> k x (.own (.seq r))
  | _=> bad
def U6 (body:W→(Option W→MC)→MC) (k:List W→MC):List W→List W→MC
  | [],acc=> k acc
  | w::ws,acc=> body w fun o=> match o with
    | some y=> J9 (acc.length < sizeLine) (U6 body k ws (acc++[y]))
    | none=> U6 body k ws acc
def v8 (it:D5) (body:W→(Option W→MC)→MC):CE:=fun k=> it fun ws=> U6 body (fun acc=> k (.own (.seq acc))) ws []
def o7 {σ:Type} (body:W→σ→(σ→MC)→(σ→MC)→MC) (k:σ→MC):List W→σ→MC
  | [],s=> k s
  | w::ws,s=> body w s (o7 body k ws) k
def join {σ:Type} (k:σ→MC) (f:(σ→MC)→MC):MC:=f k
def SV.isSq (h:AH):SV→Prop
  | .own (.seq _)=> True
  | .val (.ref a)=> ∃xs,h a=some (.cont (.seq xs))
  | _=> False
def isq (x:SV) (m:MC):MC:=fun h Q E=> x.isSq h∧m h Q E
def lm (f:R1) (x:SV) (ws:List W) (k:SV→W→MC):MC:=fun h Q E=> match x with
  | .own (.seq xs)=> f xs ws fun xs' w=> k (.own (.seq xs')) w h Q E
  | .val (.ref a)=> (match h a with
    | some (.cont (.seq xs))=> f xs ws fun xs' w=> k (.val (.ref a)) w (B9 h a (.cont (.seq xs'))) Q E
    | _=> False)
  | _=> False
def ext (x y:SV) (k:SV→MC):MC:=fun h Q E=> match K3 h y with
  | .cv (.seq ys)=> (match x with
    | .own (.seq xs)=> xs.length+ys.length≤sizeLine∧k (.own (.seq (xs++ys))) h Q E
    | .val (.ref a)=> (match h a with
      | some (.cont (.seq xs))=> xs.length+ys.length≤sizeLine∧k (.val (.ref a)) (B9 h a (.cont (.seq (xs++ys)))) Q E
      | _=> False)
    | _=> False)
  | _=> False
def A2J (x y:SV) (w:W) (k:SV→MC):MC:=fun h Q E=> match K3 h y with
  | .wv (.int i)=> (match x with
    | .own (.seq xs)=> ∃j,ixN xs.length i=some j∧k (.own (.seq (xs.set j w))) h Q E
    | .val (.ref a)=> (match h a with
      | some (.cont (.seq xs))=> ∃j,ixN xs.length i=some j∧k (.val (.ref a)) (B9 h a (.cont (.seq (xs.set j w)))) Q E
      | _=> False)
    | _=> False)
  | _=> False
def B7K (f:Int→Int→Int) (x y:SV) (e:CE) (k:SV→MC):MC:=R3 y fun i=> J9 (0≤i∧i < 2 ^ 62) fun h Q E=> match x with
  | .own (.seq xs)=> (match xs[i.toNat]? with
    | some (.int a)=> e (fun z=> R3 z fun b=> k (.own (.seq (xs.set i.toNat (.int (f a b)))))) h Q E
    | _=> False)
  | .val (.ref p)=> (match h p with
    | some (.cont (.seq xs))=> (match xs[i.toNat]? with
      | some (.int a)=> e (fun z=> R3 z fun b=> fun h' Q E=> match h' p with
        | some (.cont (.seq ys))=> i.toNat < ys.length∧k (.val (.ref p)) (B9 h' p (.cont (.seq (ys.set i.toNat (.int (f a b)))))) Q E
        | _=> False) h Q E
      | _=> False)
    | _=> False)
  | _=> False
def B2H (x:SV) (k:SV→MC):MC:=R3 x fun n=> J9 (0≤n∧n≤16777216) (k (.own (.seq (T1 0 n.toNat))))
def B1j (a:CE):CE:=fun k=> a fun x=> B2H x k
def K5 (mc:CB) (m1 m2:MC):MC:=mc fun b=> if b=true then m1 else m2
def A3I {σ:Type} (mi:D5) (s0:σ) (body:W→σ→(σ→MC)→(σ→MC)→MC) (k:σ→MC):MC:=mi fun ws=> o7 body k ws s0
def lmC (f:R1) (x:SV) (ma:D5) (k:SV→W→MC):MC:=isq x (ma fun ws=> lm f x ws k)
def A89 (x:SV) (m:CE) (k:SV→MC):MC:=isq x (m fun y=> ext x y k)
def u9 (mv:CW) (x:SV) (m:CE) (k:SV→MC):MC:=mv fun w=> m fun y=> A2J x y w k
def C58 (mv:CW) (x:SV) (m:CE) (m2:SV→CE) (k:SV→MC):MC:=mv fun w=> un2 w fun a b=> m fun y=> A2J x y a fun x1=> m2 x1 fun y2=> A2J x1 y2 b k
def C68 (f:Int→Int→Int) (x:SV) (m m2:CE) (k:SV→MC):MC:=m fun y=> B7K f x y m2 k
def pr2 (ws:List W) (k:W→W→MC):MC:=match ws with
  | [v,w]=> k v w
  | _=> bad
def C7F (ma:D5) (k:W→W→MC):MC:=ma fun ws=> pr2 ws k
def A8W (mv:CW) (k:W→SV→MC):MC:=mv fun w=> A6S w k
def A6M (x:SV) (k:W→MC):MC:=fun h Q E=> match x with
  | .own c=> ∀p,h p=none→k (.ref p) (B9 h p (.cont c)) Q E
  | _=> False
def A2Q (m:CE):CW:=fun k=> m fun x=> A6M x k
def lmR (f:R1) (x:SV) (ma:D5) (k:MC):MC:=fun h Q E=> match x with
  | .val (.ref p)=> (∃xs,h p=some (.cont (.seq xs)))∧(ma fun ws=> fun h2 Q E=> match h2 p with
    | some (.cont (.seq xs))=> f xs ws fun xs' _=> k (B9 h2 p (.cont (.seq xs'))) Q E
    | _=> False) h Q E
  | _=> False
def lmE (f:R1) (m:CE) (ma:D5) (k:MC):MC:=m fun x=> lmR f x ma k
def upc (f:List W→MC):G1:=fun ws h Q E=> ∃Q0 E0,(∀r k,Q0 r k→Q r k)∧(∀x k,E0 x k→E x k)∧f ws h Q0 E0
theorem upc.m {f:List W→MC}:Q7 (upc f):=fun ws h Q Q' E E' k k' ⟨Q0,E0,a,b,z⟩=> ⟨Q0,E0,fun r h q=> k _ _ (a r h q),fun r h q=> k' _ _ (b r h q),z⟩
end Ab
namespace Ab
open PySem PySem.Spec PyProof.Rows L2 RZ
def Rl (env:A0):RV→SV→Prop
  | .val w,s=> s= .val w
  | .own c,s=> s= .own c
  | .slot i,s=> ∃c,s= .own c∧env[i]? =some (some (.own c))
theorem R9 {env:A0} {h:AH} {r:RV} {s:SV} (a:Rl env r s):view env h r=K3 h s:=by
  cases r with
  | val w=> cases a;rfl
  | own c=> cases a;rfl
  | slot i=> obtain ⟨c,rfl,e⟩:=a;show B1h env[i]? =_;rw [e];rfl
section
variable {Q:RR→AH→Prop} {E:AExc→AH→Prop} {env:A0}
def SE (Q:RR→AH→Prop) (E:AExc→AH→Prop) (env:A0) (t:AT) (m:CE):Prop:=∀h (k:SV→MC) (K:RV→A0→AH→Prop),(∀r s h',Rl env r s→k s h' Q E→K r env h')→m k h Q E→t env h K
def SN (Q:RR→AH→Prop) (E:AExc→AH→Prop) (env:A0) (t:AT) (m:CE):Prop:=∀h (k:SV→MC) (K:RV→A0→AH→Prop),(∀s h',k s h' Q E→K s.rv env h')→m k h Q E→t env h K
def SA {α:Type} (Q:RR→AH→Prop) (E:AExc→AH→Prop) (env:A0) (t:A0→AH→(α→A0→AH→Prop)→Prop) (m:(α→MC)→MC):Prop:=∀h (k:α→MC) (K:α→A0→AH→Prop),(∀s h',k s h' Q E→K s env h')→m k h Q E→t env h K
inductive Rls (env:A0):List RV→List SV→Prop where
  | nil:Rls env [] []
  | cons {r:RV} {rs:List RV} {s:SV} {ss:List SV}:Rl env r s→Rls env rs ss→Rls env (r::rs) (s::ss)
theorem B4f {h:AH} {rs:List RV} {ss:List SV} (a:Rls env rs ss):rs.map (view env h)=ss.map (K3 h):=by
  induction a with
  | nil=> rfl
  | cons a _ ih=> rw [List.map_cons,List.map_cons,R9 a,ih]
def SR (Q:RR→AH→Prop) (E:AExc→AH→Prop) (env:A0) (t:V4) (m:CS):Prop:=∀h (k:List SV→MC) (K:List RV→A0→AH→Prop),(∀r s h',Rls env r s→k s h' Q E→K r env h')→m k h Q E→t env h K
theorem C6g {s:SV}:Rl env s.rv s:=by cases s <;> rfl
variable {t t1 t2 t3:AT} {m m1 m2 m3:CE} {tv:D3} {mv:CW} {ta ta2:G2} {ma ma2:D5} {tb tb2:K9} {mb mb2:CB} {tr:V4} {mr:CS} {tl th:AOT} {ml mh:CO} {ti:U5} {mi:D5}
theorem SN.se (a:SN Q E env t m):SE Q E env t m:=fun h k K hk z=> a h k K (fun s h' z=> hk _ _ _ C6g z) z
theorem i7 {i:Nat} {x:SV} (e:env[i]? =some (some x)):SE Q E env (aVar i) (eV x):=fun h k K hk z=> by
  unfold aVar
  rw [e]
  cases x with
  | val w=> exact hk (.val w) (.val w) h rfl z
  | own c=> exact hk (.slot i) (.own c) h ⟨c,rfl,e⟩ z
theorem A3 {i:Nat} {w:W} (e:env[i]? =some (some (.val w))):SN Q E env (aVar i) (eV (.val w)):=fun h k K hk z=> by
  unfold aVar
  rw [e]
  exact hk (.val w) h z
theorem A7 {w:W}:SN Q E env (aC w) (eC w):=fun h k K hk z=> hk _ _ z
def Y4 (o:M5):Prop:=∀a b Q Q',(∀r,Q r→Q' r)→o a b Q→o a b Q'
def A0v (o:L4):Prop:=∀as Q Q',(∀r,Q r→Q' r)→o as Q→o as Q'
theorem A22 {k:SV→MC} {K:RV→A0→AH→Prop} {h:AH} (hk:∀s h',k s h' Q E→K s.rv env h') (r:RV) (z:g9 k r h Q E):K r env h:=by
  cases r with
  | val w=> exact hk (.val w) h z
  | own c=> exact hk (.own c) h z
  | slot i=> exact z.elim
theorem B5 {o:M5} (om:Y4 o) (a:SE Q E env t1 m1) (b:SE Q E env t2 m2):SN Q E env (aOp2 o t1 t2) (A8 o m1 m2):=fun h k K hk z=>
  a h _ _ (fun rx x h1 r1 z=> b h1 _ _ (fun ry y h2 r2 z=> by rw [R9 r1,R9 r2];exact om _ _ _ _ (fun r z=> A22 hk r z) z) z) z
theorem A5 (a:SN Q E env t m):SA Q E env (aFz t) (A2 m):=fun h k K hk z=> a h _ _ (fun s h' z=> by
  cases s with
  | val w=> exact hk _ _ z
  | own c=> exact hk _ _ z) z
theorem B8:SA Q E env aNil B4:=fun h k K hk z=> hk _ _ z
theorem A9 (a:SA Q E env tv mv) (b:SA Q E env ta ma):SA Q E env (aCons tv ta) (A6 mv ma):=fun h k K hk z=> a h _ _ (fun w h1 z=> b h1 _ _ (fun ws h2 z=> hk _ _ z) z) z
theorem A0r (a:SA Q E env ta ma):SN Q E env (aTup ta) (T7 ma):=fun h k K hk z=> a h _ _ (fun ws h1 z=> ⟨z.1,hk (.val _) _ z.2⟩) z
theorem U9 (a:SA Q E env ta ma):SN Q E env (aLst ta) (Q5 ma):=fun h k K hk z=> a h _ _ (fun ws h1 z=> ⟨z.1,hk (.own _) _ z.2⟩) z
theorem A52 (a:SN Q E env t m):SA Q E env (aPrm t) (A2Q m):=fun h k K hk z=> a h _ _ (fun s h' z=> by
  cases s with
  | val w=> exact z.elim
  | own c=> exact fun p n=> hk _ _ (z p n)) z
theorem A21 {x:SV} {k:Int→MC} {h:AH} (z:R3 x k h Q E):∃i,K3 h x= .wv (.int i)∧k i h Q E:=by
  unfold R3 at z
  split at z
  · rename_i i e;exact ⟨i,e,z⟩
  · exact z.elim
theorem B0x {x:SV} {k:Bool→MC} {h:AH} (z:T3 x k h Q E):∃i,K3 h x= .wv (.bl i)∧k i h Q E:=by
  unfold T3 at z
  split at z
  · rename_i i e;exact ⟨i,e,z⟩
  · exact z.elim
theorem A8k:SA Q E env A3f oNo:=fun h k K hk z=> hk _ _ z
theorem A7w (a:SE Q E env t m):SA Q E env (A3w t) (A3x m):=fun h k K hk z=> a h _ _ (fun r s h1 rl z=> by
  obtain ⟨i,e,z⟩:=A21 z
  rw [R9 rl,e]
  exact hk _ _ z) z
theorem A8g (a:SE Q E env t m) (b:SA Q E env tl ml) (c:SA Q E env th mh):SN Q E env (aSl t tl th) (eSl m ml mh):=fun h k K hk z=>
  a h _ _ (fun r s h1 rl z=> b h1 _ _ (fun l h2 z=> c h2 _ _ (fun u h3 z=> by rw [R9 rl];exact oSl.mono (fun r z=> A22 hk r z) z) z) z) z
theorem F9:SR Q E env F5 D7:=fun h k K hk z=> hk _ _ _ .nil z
theorem E3 (a:SE Q E env t m) (b:SR Q E env tr mr):SR Q E env (D9 t tr) (C7 m mr):=fun h k K hk z=> a h _ _ (fun r s h1 rl z=> b h1 _ _ (fun rs ss h2 rls z=> hk _ _ _ (.cons rl rls) z) z) z
theorem H8 {o:L4} (om:A0v o) (a:SR Q E env tr mr):SN Q E env (aCB o tr) (E6 o mr):=fun h k K hk z=> a h _ _ (fun rs ss h1 rl z=> by
  rw [B4f rl]
  exact om _ _ _ (fun r z=> A22 hk r z) z) z
theorem A1C:SA Q E env o9 A0B:=fun h k K hk z=> hk _ _ z
theorem F8 (a:SE Q E env t m):SA Q E env (aTst t) (E4 m):=fun h k K hk z=> a h _ _ (fun r s h1 rl z=> by
  obtain ⟨i,e,z⟩:=B0x z
  rw [R9 rl,e]
  exact hk _ _ z) z
theorem A2y {b:Bool} {A B:MC} {P R:Prop} {h:AH} (x:A h Q E→P) (y:B h Q E→R) (z:(if b=true then A else B) h Q E):if b=true then P else R:=by
  cases b with
  | true=> rw [if_pos rfl] at z ⊢;exact x z
  | false=> rw [if_neg Bool.false_ne_true] at z ⊢;exact y z
theorem A5q (a:SA Q E env tb mb) (b:SA Q E env tb2 mb2):SA Q E env (aAndT tb tb2) (tAnd mb mb2):=fun h k K hk z=> a h _ _ (fun x h1 z=> A2y (fun z=> b h1 _ _ hk z) (fun z=> hk _ _ z) z) z
theorem A55 (a:SA Q E env tb mb) (b:SA Q E env tb2 mb2):SA Q E env (aOrT tb tb2) (tOr mb mb2):=fun h k K hk z=> a h _ _ (fun x h1 z=> A2y (fun z=> hk _ _ z) (fun z=> b h1 _ _ hk z) z) z
theorem A17 (a:SA Q E env tb mb):SA Q E env (aNotT tb) (A0x mb):=fun h k K hk z=> a h _ _ (fun x h1 z=> hk _ _ z) z
theorem A34 (c:SA Q E env tb mb) (a:SN Q E env t1 m1) (b:SN Q E env t2 m2):SN Q E env (aIfE tb t1 t2) (eIf mb m1 m2):=fun h k K hk z=> c h _ _ (fun x h1 z=> A2y (fun z=> a h1 _ _ hk z) (fun z=> b h1 _ _ hk z) z) z
theorem A2t (a:SE Q E env t1 m1) (b:SN Q E env t2 m2):SN Q E env (A1Q t1 t2) (A1Y m1 m2):=fun h k K hk z=> a h _ _ (fun r s h1 rl z=> by
  obtain ⟨i,e,z⟩:=B0x z
  rw [R9 rl,e]
  exact A2y (fun z=> b h1 _ _ hk z) (fun z=> hk (.val _) _ z) z) z
theorem C5F (a:SE Q E env t1 m1):SN Q E env (B1W t1) (B15 m1):=fun h k K hk z=> a h _ _ (fun r s h1 rl z=> by
  obtain ⟨i,e,z⟩:=B0x z
  rw [R9 rl,e]
  exact hk (.val _) _ z) z
theorem B1C (a:SE Q E env t1 m1):SN Q E env (A6N t1) (A6I m1):=fun h k K hk z=> a h _ _ (fun r s h1 rl z=> by
  obtain ⟨i,e,z⟩:=A21 z
  rw [R9 rl,e]
  exact hk (.val _) _ z) z
theorem A25 {P P':Int→Int→Bool} (a:SE Q E env t1 m1) (b:SE Q E env t2 m2) (c:SE Q E env t3 m3):SN Q E env (aChn P P' t1 t2 t3) (A1Z P P' m1 m2 m3):=fun h k K hk z=>
  a h _ _ (fun r s h1 rl z=> b h1 _ _ (fun r2 s2 h2 rl2 z=> by
    obtain ⟨i,e,z⟩:=A21 z
    obtain ⟨j,e2,z⟩:=A21 z
    rw [R9 rl,R9 rl2,e,e2]
    refine A2y (fun z=> c h2 _ _ (fun r3 s3 h3 rl3 z=> ?_) z) (fun z=> hk (.val _) _ z) z
    obtain ⟨l,e3,z⟩:=A21 z
    rw [R9 rl3,e3]
    exact hk (.val _) _ z) z) z
theorem B5q {E':AExc→A0→AH→Prop} {f:List W→MC} {ws:List W} {h:AH} {k:SV→MC} {K:RV→A0→AH→Prop} (hk:∀s h',k s h' Q E→K s.rv env h') (hE:∀x h,E x h→E' x env h) (z:call (f ws) k h Q E):
    upc f ws h (fun r h2=> match r with
  | .val w=> K (.val w) env h2
  | .own c=> K (.own c) env h2) fun x h2=> E' x env h2:=
  ⟨_,_,fun r h' z=> by cases r <;> exact hk _ _ z,hE,z⟩
theorem L7 {E':AExc→A0→AH→Prop} {f:List W→MC} (hE:∀x h,E x h→E' x env h) (a:SA Q E env ta ma):SN Q E env (aCall E' (upc f) ta) (G3 f ma):=fun h k K hk z=> a h _ _ (fun ws h1 z=> B5q hk hE z) z
theorem A07 {f:List W→MC} (a:SA Q E env ta ma):SN Q E env (aCall E0 (upc f) ta) (u4 f ma):=fun h k K hk z=> a h _ _ (fun ws h1 z=> ⟨_,_,fun r h' z=> by cases r <;> exact hk _ _ z,fun _ _ z=> z,z⟩) z
theorem A91 {w:W} {k:List W→MC} {h:AH} (z:items w k h Q E):∃ws,(w= .tup ws∨w= .lst ws)∧k ws h Q E:=by
  unfold items at z
  split at z
  · exact ⟨_,.inl rfl,z⟩
  · exact ⟨_,.inr rfl,z⟩
  · exact z.elim
theorem A5Q (a:SA Q E env tv mv):SA Q E env (iSq tv) (A2z mv):=fun h k K hk z=> a h _ _ (fun w h1 z=> by
  obtain ⟨ws,e,z⟩:=A91 z
  rcases e with rfl | rfl <;> exact hk _ _ z) z
theorem B5H (a:SA Q E env tv mv):SA Q E env (iEn tv) (A8Z mv):=fun h k K hk z=> a h _ _ (fun w h1 z=> by
  obtain ⟨ws,e,z⟩:=A91 z
  rcases e with rfl | rfl <;> exact hk _ _ z) z
theorem A3g (a:SR Q E env tr mr):SA Q E env (A2N tr) (A2G mr):=fun h k K hk z=> a h _ _ (fun rs ss h1 rl z=> by
  rw [B4f rl]
  unfold A82 at z
  split at z
  · obtain ⟨j,e,z⟩:=A21 z
    rw [List.map_cons,List.map_nil,e]
    exact ⟨z.1.1,z.1.2,hk _ _ z.2⟩
  · exact z.elim) z
def Gd (g:H9) (w:W) (env e1:A0):Prop:=∀h (K:A0→AH→Prop),K e1 h→g w env h K
theorem O5 {i:Nat} {w:W}:Gd (G7 i) w env (env.set i (some (.val w))):=fun h K k=> k
theorem B2B {g1 g2:H9} {a b:W} {e1 e2:A0} (d1:Gd g1 a env e1) (d2:Gd g2 b e1 e2):Gd (gTp 2 (R5 g1 (R5 g2 A0A))) (.tup [a,b]) env e2:=fun h K k=>
  ⟨rfl,a,[b],rfl,d1 h _ ⟨b,[],rfl,d2 h _ ⟨rfl,k⟩⟩⟩
theorem A8N {w:W} {f:W→W→MC} {h:AH} (z:un2 w f h Q E):∃a b,w= .tup [a,b]∧f a b h Q E:=by
  unfold un2 at z
  split at z
  · exact ⟨_,_,rfl,z⟩
  · exact z.elim
theorem C3I {w:W} {f:W→SV→MC} {h:AH} (z:A6S w f h Q E):∃x r,(w= .tup (x::r)∨w= .lst (x::r))∧f x (.own (.seq r)) h Q E:=by
  obtain ⟨ws,e,z⟩:=A91 z
  split at z
  · exact ⟨_,_,e,z⟩
  · exact z.elim
def g8 (mt:CB) (me:CW) (kk:Option W→MC):MC:=mt fun b=> if b=true then me fun y=> kk (some y) else kk none
theorem l9 {vs:List Nat} {g:H9} {w:W} {e1:A0} (gd:Gd g w (T5 env vs) e1) (tst:SA Q E e1 tb mb) (elt:SA Q E e1 tv mv) (hm:mend env e1 vs=env) {h:AH} {kk:Option W→MC} {K1:W→A0→AH→Prop} {K0:A0→AH→Prop}
    (h1:∀y h',kk (some y) h' Q E→K1 y env h') (h0:∀h',kk none h' Q E→K0 env h') (z:g8 mb mv kk h Q E):
    g w (T5 env vs) h fun e1 h1=> tb e1 h1 fun b e2 h2=> if b=true then tv e2 h2 fun y e3 h3=> K1 y (mend env e3 vs) h3 else K0 (mend env e2 vs) h2:=
  gd h _ (tst h _ _ (fun b h2 z=> A2y (fun z=> elt h2 _ _ (fun y h3 z=> by rw [hm];exact h1 y h3 z) z) (fun z=> by rw [hm];exact h0 h2 z) z) z)
def LcB (Q:RR→AH→Prop) (E:AExc→AH→Prop) (env:A0) (vs:List Nat) (g:H9) (tt:K9) (te:D3) (mb:W→(Option W→MC)→MC):Prop:=
  ∀w h (kk:Option W→MC) (K1:W→A0→AH→Prop) (K0:A0→AH→Prop),(∀y h',kk (some y) h' Q E→K1 y env h')→(∀h',kk none h' Q E→K0 env h')→mb w kk h Q E→
    g w (T5 env vs) h fun e1 h1=> tt e1 h1 fun b e2 h2=> if b=true then te e2 h2 fun y e3 h3=> K1 y (mend env e3 vs) h3 else K0 (mend env e2 vs) h2
theorem A8S {vs:List Nat} {g:H9} {body:W→(Option W→MC)→MC} {k:List W→MC} {K:List W→A0→AH→Prop} (hk:∀acc h',k acc h' Q E→K acc env h') (b:LcB Q E env vs g tb tv body):
    ∀(ws acc:List W) (h:AH),U6 body k ws acc h Q E→lcLoop vs g tb tv K ws acc env h
  | [],acc,h,z=> hk acc h z
  | w::ws,acc,h,z=> b w h _ (fun y e3 h3=> acc.length < sizeLine∧lcLoop vs g tb tv K ws (acc++[y]) e3 h3) (fun e2 h2=> lcLoop vs g tb tv K ws acc e2 h2)
      (fun y h' z=> ⟨z.1,A8S hk b ws (acc++[y]) h' z.2⟩) (fun h' z=> A8S hk b ws acc h' z) z
theorem A2F {vs:List Nat} {g:H9} {body:W→(Option W→MC)→MC} (it:SA Q E env ti mi) (b:LcB Q E env vs g tb tv body):SN Q E env (W8 vs ti g tb tv) (v8 mi body):=fun h k K hk z=>
  it h _ _ (fun ws h1 z=> A8S (k:=fun acc=> k (.own (.seq acc))) (fun acc h' z=> hk (.own (.seq acc)) h' z) b ws [] h1 z) z
theorem C3a (a:SE Q E env t m):SN Q E env (B1Z t) (B1j m):=fun h k K hk z=> a h _ _ (fun r s h1 rl z=> by
  obtain ⟨i,e,z⟩:=A21 z
  rw [R9 rl,e]
  exact ⟨z.1,hk (.own _) _ z.2⟩) z
variable {D:AEnds} {s u:C0} {i j:Nat}
theorem C9 {mc:MC} (a:∀h,mc h Q E→s { D with nx:=u D } env h):∀h,mc h Q E→aSeq s u D env h:=a
theorem D1 {mc:MC} (a:∀h,mc h Q E→u D env h):∀h,mc h Q E→({ D with nx:=u D }:AEnds).nx env h:=a
theorem J8 (hr:∀r s env h,Rl env r s→Q s.rr h→D.rt r env h) (a:SE Q E env t m):∀h,(m ret) h Q E→G6 t D env h:=fun h z=> a h _ _ (fun r s h' rl z=> hr _ _ _ _ rl z) z
theorem C4Y {mc:MC} (a:∀h,mc h Q E→t env h D.rt):∀h,mc h Q E→G6 t D env h:=a
theorem A2q {k:SV→MC} (a:SE Q E env t m) (n:∀s h,k s h Q E→D.nx env h):∀h,(m k) h Q E→T6 t D env h:=fun h z=> a h _ _ (fun r s h' rl z=> n s h' z) z
theorem A5x {k:SV→MC} (e':SV→A0) (he:∀x,env.set i (some x)=e' x) (a:SN Q E env t m) (n:∀x h,k x h Q E→D.nx (e' x) h):∀h,(m k) h Q E→A3G i t D env h:=fun h z=> a h _ _ (fun s h' z=> by
  have q:=n s h' z
  rw [←he] at q
  cases s <;> exact q) z
theorem P5 {k:W→MC} (e':W→A0) (he:∀x,env.set i (some (.val x))=e' x) (a:SA Q E env tv mv) (n:∀x h,k x h Q E→D.nx (e' x) h):∀h,(mv k) h Q E→L1 tv (G7 i) D env h:=fun h z=> a h _ _ (fun s h' z=> by
  have q:=n s h' z
  rw [←he] at q
  exact q) z
theorem C5G {P R:A0→AH→Prop} {h:AH} (q:P env h):o9 env h fun b e2 h2=> if b=true then P e2 h2 else R e2 h2:=by
  show (if true=true then P env h else R env h)
  rw [if_pos rfl]
  exact q
theorem A1M {P R:AH→Prop} (h:AH) (z:P h) (f:∀h,P h→R h):R h:=f h z
theorem A1E {g:H9} {w:W} {e1:A0} (e2:A0) (gd:Gd g w env e1) (he:e1=e2):Gd g w env e2:=he▸gd
theorem C4N {g:H9} {k:W→MC} (a:SA Q E env tv mv) (n:∀x h,k x h Q E→g x env h D.nx):∀h,(mv k) h Q E→L1 tv g D env h:=fun h z=> a h _ _ (fun s h' z=> n s h' z) z
theorem C2L {vs:List Nat} {g:H9} {body:W→(Option W→MC)→MC} {k:SV→MC} (e':SV→A0) (he:∀x,env.set i (some x)=e' x) (it:SA Q E env ti mi) (b:LcB Q E env vs g tb tv body) (n:∀x h,k x h Q E→D.nx (e' x) h):∀h,(v8 mi body k) h Q E→A2C i (W8 vs ti g tb tv) D env h:=fun h z=>
  it h _ _ (fun ws h1 z=> A8S (k:=fun acc=> k (.own (.seq acc))) (fun acc h' z=> by
    have q:=n (.own (.seq acc)) h' z
    rw [←he] at q
    exact q) b ws [] h1 z) z
theorem B5t {k:W→SV→MC} (e':W→SV→A0) (he:∀v w,(env.set i (some (.val v))).set j (some w)=e' v w) (a:SA Q E env tv mv) (n:∀v w h,k v w h Q E→D.nx (e' v w) h):∀h,A8W mv k h Q E→aStar i j tv D env h:=fun h z=> a h _ _ (fun w h' z=> by
  obtain ⟨x,r,e,z⟩:=C3I z
  have q:=n _ _ _ z
  rw [←he] at q
  rcases e with rfl | rfl <;> exact q) z
theorem M3 {c:K9} {mc:CB} {m1 m2:MC} (a:SA Q E env c mc) (x:∀h,m1 h Q E→s D env h) (y:∀h,m2 h Q E→u D env h):∀h,K5 mc m1 m2 h Q E→L5 c s u D env h:=fun h z=>
  a h _ _ (fun b h' z=> A2y (x h') (y h') z) z
theorem N2 {mc:MC} (n:∀h,mc h Q E→D.nx env h):∀h,mc h Q E→M4 D env h:=n
theorem A3p {x:SV} {mc:MC} (e':A0) (he:env.set i (some (.val x.fz))=e') (e:env[i]? =some (some x)) (a:∀h,mc h Q E→s D e' h):∀h,mc h Q E→aFrz i s D env h:=fun h z=> by
  have q:=a h z
  rw [←he] at q
  unfold aFrz
  rw [e]
  cases x with
  | own c=> exact q
  | val w=>
    obtain ⟨hi,e'⟩:=List.getElem?_eq_some_iff.mp e
    have:env.set i (some (SV.val (SV.val w).fz))=env:=by
      conv=> rhs;rw [←List.set_getElem_self (as:=env) hi]
      rw [e']
      rfl
    rw [this] at q
    exact q
theorem C3b {x:SV} {k:W→MC} (e':W→A0) (he:∀p,env.set i (some (.val p))=e' p) (e:env[i]? =some (some x)) (a:∀p h,k p h Q E→s D (e' p) h):∀h,A6M x k h Q E→A32 i s D env h:=fun h z=> by
  unfold A32
  rw [e]
  cases x with
  | val w=> exact z.elim
  | own c=>
    intro p n
    have q:=a _ _ (z p n)
    rw [←he] at q
    exact q
theorem A71 {β J:Type} {kk:β→MC} {f:(β→MC)→MC} (envOf:β→J→A0) (r:∀b j h,kk b h Q E→u D (envOf b j) h)
    (b:(∀b j h,kk b h Q E→({ D with nx:=u D }:AEnds).nx (envOf b j) h)→∀h,f kk h Q E→s { D with nx:=u D } env h):∀h,join kk f h Q E→aSeq s u D env h:=b r
theorem B5y {σ J:Type} {g:H9} {tb:C0} {body:W→σ→(σ→MC)→(σ→MC)→MC} {k:σ→MC} (envOf:σ→J→A0) (r:∀s j h,k s h Q E→D.nx (envOf s j) h)
    (b:∀w s j (kn:σ→MC) (N:A0→AH→Prop),(∀s j h,kn s h Q E→N (envOf s j) h)→∀h,body w s kn k h Q E→g w (envOf s j) h fun e1 h1=> tb { D with nx:=N,ct:=N,bk:=D.nx } e1 h1):
    ∀ws s j h,o7 body k ws s h Q E→aLoop g tb D ws (envOf s j) h
  | [],s,j,h,z=> r s j h z
  | w::ws,s,j,h,z=> b w s j (o7 body k ws) (aLoop g tb D ws) (fun s j h z=> B5y envOf r b ws s j h z) h z
theorem A5y {σ J:Type} {g:H9} {tb:C0} {body:W→σ→(σ→MC)→(σ→MC)→MC} {k:σ→MC} (envOf:σ→J→A0) (s0:σ) (j0:J) (he:envOf s0 j0=env) (it:SA Q E env ti mi) (r:∀s j h,k s h Q E→D.nx (envOf s j) h)
    (b:(∀s j h,k s h Q E→D.nx (envOf s j) h)→∀w s j (kn:σ→MC) (N:A0→AH→Prop),(∀s j h,kn s h Q E→N (envOf s j) h)→∀h,body w s kn k h Q E→g w (envOf s j) h fun e1 h1=> tb { D with nx:=N,ct:=N,bk:=D.nx } e1 h1):
    ∀h,A3I mi s0 body k h Q E→A3H ti g tb D env h:=fun h z=> it h _ _ (fun ws h' z=> he▸B5y envOf r (b r) ws s0 j0 h' z) z
theorem C5V {mc:MC} (n:∀h,mc h Q E→D.ct env h):∀h,mc h Q E→B2O D env h:=n
theorem B04 {x:SV} (e:env[i]? =some (some x)):env.set i (some x)=env:=by
  obtain ⟨hi,e'⟩:=List.getElem?_eq_some_iff.mp e
  conv=> rhs;rw [←List.set_getElem_self (as:=env) hi]
  rw [e']
theorem B0e {x:SV} {h:AH} {K:RV→A0→AH→Prop} (e:env[i]? =some (some x)) (q:∀r,(∃c,x= .own c∧r= .slot i)∨(∃w,x= .val w∧r= .val w)→K r env h):aVar i env h K:=by
  unfold aVar
  rw [e]
  cases x with
  | val w=> exact q _ (.inr ⟨w,rfl,rfl⟩)
  | own c=> exact q _ (.inl ⟨c,rfl,rfl⟩)
theorem A7l {h:AH} {c:Cont} (e:env[i]? =some (some (.own c))):O3 env h (.slot i)=some c:=by
  show (match env[i]? with
    | some (some (.own c))=> some c
    | _=> none)=_
  rw [e]
theorem u1 {h:AH} {p:Addr} {c:Cont} (e:h p=some (.cont c)):O3 env h (.val (.ref p))=some c:=by
  show (match h p with
    | some (.cont c)=> some c
    | _=> none)=_
  rw [e]
def LmM (f:R1):Prop:=∀xs ws Q Q',(∀a b,Q a b→Q' a b)→f xs ws Q→f xs ws Q'
theorem B6q {f:R1} {x:SV} {k:SV→W→MC} {K:RV→A0→AH→Prop} (fm:LmM f) (e:env[i]? =some (some x)) (a:SA Q E env ta ma) (n:∀x' w h,k x' w h Q E→K (.val w) (env.set i (some x')) h):
    ∀h,lmC f x ma k h Q E→aLm f (aVar i) ta env h K:=fun h z=> by
  refine B0e e fun r hr=> ?_
  obtain ⟨zi,z⟩:=z
  rcases hr with ⟨c,rfl,rfl⟩ | ⟨w,rfl,rfl⟩
  · have pl:O3 env h (.slot i)=some c:=A7l e
    cases c with
    | map kvs=> exact zi.elim
    | seq xs=>
      refine ⟨by rw [pl];trivial,a h _ _ (fun ws h2 z=> ?_) z⟩
      have pl:O3 env h2 (.slot i)=some (.seq xs):=A7l e
      rw [pl]
      exact fm _ _ _ _ (fun xs' w z=> n _ _ _ z) z
  · cases w with
    | ref p=>
      obtain ⟨xs,ep⟩:=zi
      have pl:O3 env h (.val (.ref p))=some (.seq xs):=u1 ep
      refine ⟨by rw [pl];trivial,a h _ _ (fun ws h2 z=> ?_) z⟩
      have z:(match h2 p with
        | some (.cont (.seq xs))=> f xs ws fun xs' w=> k (.val (.ref p)) w (B9 h2 p (.cont (.seq xs'))) Q E
        | _=> False):=z
      split at z
      · rename_i xs2 e2
        have pl:O3 env h2 (.val (.ref p))=some (.seq xs2):=u1 e2
        rw [pl]
        refine fm _ _ _ _ (fun xs' w z=> ?_) z
        have q:=n _ _ _ z
        rw [B04 e] at q
        exact q
      · exact z.elim
    | _=> exact zi.elim
theorem B6n {f:R1} {x:SV} {k:SV→W→MC} (e':SV→A0) (he:∀x,env.set i (some x)=e' x) (fm:LmM f) (e:env[i]? =some (some x)) (a:SA Q E env ta ma) (n:∀x' w h,k x' w h Q E→D.nx (e' x') h):∀h,lmC f x ma k h Q E→T6 (aLm f (aVar i) ta) D env h:=
  B6q (K:=fun _ env1 h1=> D.nx env1 h1) fm e a (fun x' w h z=> by rw [he];exact n x' w h z)
theorem B6l {f:R1} {m:CE} {k:MC} {to:AT} (fm:LmM f) (o:SN Q E env to m) (a:SA Q E env ta ma) (n:∀h,k h Q E→D.nx env h):∀h,lmE f m ma k h Q E→T6 (aLm f to ta) D env h:=fun h z=>
  o h _ _ (fun x h1 z=> by
    cases x with
    | own c=> exact z.elim
    | val w=>
      cases w with
      | ref p=>
        obtain ⟨⟨xs,ep⟩,z⟩:=z
        show A8i (O3 env h1 (.val (.ref p)))∧_
        rw [u1 ep]
        refine ⟨trivial,a h1 _ _ (fun ws h2 z=> ?_) z⟩
        show (match O3 env h2 (.val (.ref p)) with
          | some (.seq xs)=> f xs ws fun xs' w=> D.nx (v4 env (.val (.ref p)) (.seq xs')) (v7 h2 (.val (.ref p)) (.seq xs'))
          | _=> False)
        have z:(match h2 p with
          | some (.cont (.seq xs))=> f xs ws fun xs' _=> k (B9 h2 p (.cont (.seq xs'))) Q E
          | _=> False):=z
        split at z
        · rename_i xs2 e2
          rw [u1 e2]
          exact fm _ _ _ _ (fun xs' w z=> n _ z) z
        · exact z.elim
      | _=> exact z.elim) z
theorem B6H {x:SV} {k:SV→MC} (e':SV→A0) (he:∀x,env.set i (some x)=e' x) (e:env[i]? =some (some x)) (a:SE Q E env t m) (n0:∀x' h,k x' h Q E→D.nx (e' x') h):∀h,A89 x m k h Q E→T6 (aExt (aVar i) t) D env h:=fun h z=> by
  have n:∀x' h,k x' h Q E→D.nx (env.set i (some x')) h:=fun x' h z=> by rw [he];exact n0 x' h z
  refine B0e (K:=fun ro env1 h1=> A8i (O3 env1 h1 ro)∧t env1 h1 fun re env2 h2=> match view env2 h2 re with
    | .cv (.seq ys)=> (match O3 env2 h2 ro with
      | some (.seq xs)=> xs.length+ys.length≤sizeLine∧D.nx (v4 env2 ro (.seq (xs++ys))) (v7 h2 ro (.seq (xs++ys)))
      | _=> False)
    | _=> False) e fun r hr=> ?_
  obtain ⟨zi,z⟩:=z
  rcases hr with ⟨c,rfl,rfl⟩ | ⟨w,rfl,rfl⟩
  · cases c with
    | map kvs=> exact zi.elim
    | seq xs=>
      have pl:∀h,O3 env h (.slot i)=some (.seq xs):=fun h=> A7l e
      refine ⟨by rw [pl];trivial,a h _ _ (fun re y h2 rl z=> ?_) z⟩
      rw [R9 rl]
      unfold ext at z
      split at z
      · rename_i ys e1
        first | rw [pl,e1] | rw [pl]
        exact ⟨z.1,n _ _ z.2⟩
      · exact z.elim
  · cases w with
    | ref p=>
      obtain ⟨xs,ep⟩:=zi
      have pl:O3 env h (.val (.ref p))=some (.seq xs):=u1 ep
      refine ⟨by rw [pl];trivial,a h _ _ (fun re y h2 rl z=> ?_) z⟩
      rw [R9 rl]
      unfold ext at z
      split at z
      · rename_i ys e1
        try rw [e1]
        have z:(match h2 p with
          | some (.cont (.seq xs))=> xs.length+ys.length≤sizeLine∧k (.val (.ref p)) (B9 h2 p (.cont (.seq (xs++ys)))) Q E
          | _=> False):=z
        split at z
        · rename_i xs2 e2
          have pl:O3 env h2 (.val (.ref p))=some (.seq xs2):=u1 e2
          rw [pl]
          have q:=n _ _ z.2
          rw [B04 e] at q
          exact ⟨z.1,q⟩
        · exact z.elim
      · exact z.elim
    | _=> exact zi.elim
theorem A2m {x:SV} {k:SV→MC} (e':SV→A0) (he:∀x,env.set i (some x)=e' x) (a:SA Q E env tv mv) (e:env[i]? =some (some x)) (b:SE Q E env t m) (n0:∀x' h,k x' h Q E→D.nx (e' x') h):∀h,u9 mv x m k h Q E→L1 tv (A1U (aVar i) t) D env h:=fun h z=> have n:∀x' h,k x' h Q E→D.nx (env.set i (some x')) h:=fun x' h z=> by rw [he];exact n0 x' h z
  a h _ _ (fun w h1 z=> by
  refine B0e (K:=fun ro env1 h1=> t env1 h1 fun ri env2 h2=> match view env2 h2 ri with
    | .wv (.int k)=> match O3 env2 h2 ro with
      | some (.seq xs)=> ∃j,ixN xs.length k=some j∧D.nx (v4 env2 ro (.seq (xs.set j w))) (v7 h2 ro (.seq (xs.set j w)))
      | _=> False
    | _=> False) e fun r hr=> b h1 _ _ (fun ri y h2 rl z=> ?_) z
  rw [R9 rl]
  unfold A2J at z
  split at z
  · rename_i q e1
    try rw [e1]
    rcases hr with ⟨c,rfl,rfl⟩ | ⟨v,rfl,rfl⟩
    · cases c with
      | map kvs=> exact z.elim
      | seq xs=>
        have pl:O3 env h2 (.slot i)=some (.seq xs):=A7l e
        rw [pl]
        obtain ⟨j,ej,z⟩:=z
        exact ⟨j,ej,n _ _ z⟩
    · cases v with
      | ref p=>
        have z:(match h2 p with
          | some (.cont (.seq xs))=> ∃j,ixN xs.length q=some j∧k (.val (.ref p)) (B9 h2 p (.cont (.seq (xs.set j w)))) Q E
          | _=> False):=z
        split at z
        · rename_i xs2 e2
          have pl:O3 env h2 (.val (.ref p))=some (.seq xs2):=u1 e2
          rw [pl]
          obtain ⟨j,ej,z⟩:=z
          have q:=n _ _ z
          rw [B04 e] at q
          exact ⟨j,ej,q⟩
        · exact z.elim
      | _=> exact z.elim
  · exact z.elim) z
theorem B6N:Y4 A1a:=fun _ _ _ _ k q=> oII.mono _ _ _ _ k q
theorem A2u:Y4 T0:=fun _ _ _ _ k q=> oII.mono _ _ _ _ k q
theorem B0Y:Y4 o5:=fun _ _ _ _ k q=> oII.mono _ _ _ _ k q
theorem B08:Y4 A2R:=fun _ _ _ _ k q=> oII.mono _ _ _ _ k q
theorem B1p:Y4 oLt:=fun _ _ _ _ k q=> oII.mono _ _ _ _ k q
theorem B1i:Y4 oGt:=fun _ _ _ _ k q=> oII.mono _ _ _ _ k q
theorem B1R:Y4 oGe:=fun _ _ _ _ k q=> oII.mono _ _ _ _ k q
theorem Q3:Y4 oAdd:=oAdd.mono
theorem L8:Y4 oIx:=oIx.mono
theorem A11:Y4 oMulT:=oMulT.mono
theorem P3 {neg:Bool}:Y4 (D6 neg):=fun a b Q Q' k q=> ⟨q.1,q.2.1,k _ q.2.2⟩
theorem A5o {neg:Bool}:Y4 (N5 neg):=fun a b Q Q' k q=> ⟨q.1,q.2.1,k _ q.2.2⟩
theorem A3n {neg:Bool}:Y4 (O7 neg):=fun a b Q Q' k ⟨xs,x,y,z,q⟩=> ⟨xs,x,y,z,k _ q⟩
theorem P0:A0v D2:=fun as Q Q' k q=> by
  unfold D2 at q ⊢
  split at q
  · exact ⟨q.1,k _ q.2⟩
  · obtain ⟨xs,e,q⟩:=q
    exact ⟨xs,e,k _ q⟩
  · exact q
theorem C4O:A0v u7:=fun as Q Q' k q=> by
  unfold u7 at q ⊢
  split at q
  · obtain ⟨ns,e,q⟩:=q
    exact ⟨ns,e,k _ q⟩
  · exact q
theorem A8H {g:List Bool→Bool}:A0v (oBls g):=oBls.mono
theorem y6:A0v F6:=fun as Q Q' k q=> by
  unfold F6 at q ⊢
  split at q
  · obtain ⟨n,b,e,f,q⟩:=q
    exact ⟨n,b,e,f,k _ q⟩
  · exact q
theorem B0b:A0v U4:=fun as Q Q' k q=> by
  unfold U4 at q ⊢
  split at q
  · obtain ⟨xs,e,q⟩:=q
    exact ⟨xs,e,k _ q⟩
  · exact q
theorem A7y:A0v Q4:=fun as Q Q' k q=> by
  unfold Q4 at q ⊢
  split at q
  · obtain ⟨xs,e,q⟩:=q
    exact ⟨xs,e,k _ q⟩
  · exact q
theorem A9n:LmM i6:=fun xs ws Q Q' k q=> by
  unfold i6 at q ⊢
  split at q
  · exact ⟨q.1,k _ _ q.2⟩
  · exact q
theorem C1h:LmM A13:=fun xs ws Q Q' k q=> by
  unfold A13 at q ⊢
  split at q
  · obtain ⟨a,b,j,y,e,f,q⟩:=q
    exact ⟨a,b,j,y,e,f,k _ _ q⟩
  · exact q
variable {Q':RR→AH→Prop} {E':AExc→AH→Prop}
theorem M7 (hQ:∀r h,Q r h→Q' r h):∀r s env h,Rl env r s→Q s.rr h→(B6 Q').rt r env h:=fun r s env h rl q=> by
  refine ⟨h,fun _ _ e=> e,?_⟩
  cases r with
  | val w=> cases rl;exact hQ _ _ q
  | own w=> cases rl;exact hQ _ _ q
  | slot i=>
    obtain ⟨c,rfl,e⟩:=rl
    show (match env[i]? with
      | some (some (.val w))=> Q' (.val w) h
      | some (some (.own c))=> Q' (.own c) h
      | _=> False)
    rw [e]
    exact hQ _ _ q
theorem M8 (hE:∀x h,E x h→E' x h) (env:A0):∀x h,E x h→C4 E' x env h:=fun x h q=> ⟨h,fun _ _ e=> e,hE _ _ q⟩
theorem A2x (hQ:∀r h,Q r h→Q' r h) (env:A0):∀h,(ret (.val .non)) h Q E→(B6 Q').nx env h:=fun h z=> ⟨h,fun _ _ e=> e,hQ _ _ z⟩
end
end Ab
namespace Ab
open PySem PySem.Spec PyProof.Rows L2 RZ
section
variable {Q:RR→AH→Prop} {E:AExc→AH→Prop} {h:AH}
@[simp] theorem C3 {x:SV} {k:SV→MC}:eV x k=k x:=rfl
@[simp] theorem D8 {x:W} {k:SV→MC}:eC x k=k (.val x):=rfl
@[simp] theorem F4 {o:M5} {a b:CE} {k:SV→MC}:A8 o a b k=a fun x=> b fun y=> D4 o x y k:=rfl
@[simp] theorem E5 {a:CE} {k:W→MC}:A2 a k=a fun x=> k x.fz:=rfl
@[simp] theorem G0 {k:List W→MC}:B4 k=k []:=rfl
@[simp] theorem G5 {a:CW} {b:D5} {k:List W→MC}:A6 a b k=a fun w=> b fun ws=> k (w::ws):=rfl
@[simp] theorem A3B {a:D5} {k:SV→MC}:T7 a k=a fun ws=> J9 (ws.length≤sizeLine) (k (.val (.tup ws))):=rfl
@[simp] theorem m8 {a:D5} {k:SV→MC}:Q5 a k=a fun ws=> J9 (ws.length≤sizeLine) (k (.own (.seq ws))):=rfl
@[simp] theorem A8j {k:Option Int→MC}:oNo k=k none:=rfl
@[simp] theorem A7u {a:CE} {k:Option Int→MC}:A3x a k=a fun x=> R3 x fun i=> k (some i):=rfl
@[simp] theorem A8x {a:CE} {l u:CO} {k:SV→MC}:eSl a l u k=a fun x=> l fun l=> u fun u=> slc x l u k:=rfl
@[simp] theorem K7 {k:List SV→MC}:D7 k=k []:=rfl
@[simp] theorem K6 {a:CE} {b:CS} {k:List SV→MC}:C7 a b k=a fun w=> b fun ws=> k (w::ws):=rfl
@[simp] theorem K8 {o:L4} {a:CS} {k:SV→MC}:E6 o a k=a fun xs=> cb o xs k:=rfl
@[simp] theorem S8 {k:Bool→MC}:A0B k=k true:=rfl
@[simp] theorem K4 {a:CE} {k:Bool→MC}:E4 a k=a fun x=> T3 x k:=rfl
@[simp] theorem A5j {a b:CB} {k:Bool→MC}:tAnd a b k=a fun x=> if x=true then b k else k false:=rfl
@[simp] theorem W5 {a b:CB} {k:Bool→MC}:tOr a b k=a fun x=> if x=true then k true else b k:=rfl
@[simp] theorem A0l {a:CB} {k:Bool→MC}:A0x a k=a fun x=> k (!x):=rfl
@[simp] theorem A1W {c:CB} {a b:CE} {k:SV→MC}:eIf c a b k=c fun x=> if x=true then a k else b k:=rfl
@[simp] theorem Y0 {a b:CE} {k:SV→MC}:A1Y a b k=a fun x=> T3 x fun c=> if c=true then b k else k (.val (.bl false)):=rfl
@[simp] theorem C9k {a b:CE} {k:SV→MC}:eOr a b k=a fun x=> T3 x fun c=> if c=true then k (.val (.bl true)) else b k:=rfl
@[simp] theorem u8 {a:CE} {k:SV→MC}:B15 a k=a fun x=> T3 x fun c=> k (.val (.bl (!c))):=rfl
@[simp] theorem C6G {a:CE} {k:SV→MC}:A6I a k=a fun x=> R3 x fun i=> k (.val (.int (-i))):=rfl
@[simp] theorem A0s {P P':Int→Int→Bool} {a b c:CE} {k:SV→MC}:A1Z P P' a b c k=a fun x=> b fun y=> R3 x fun i=> R3 y fun j=>
  if P i j=true then c fun z=> R3 z fun l=> k (.val (.bl (P' j l))) else k (.val (.bl false)):=rfl
@[simp] theorem P6 {f:List W→MC} {a:D5} {k:SV→MC}:G3 f a k=a fun ws=> call (f ws) k:=rfl
@[simp] theorem U3 {f:List W→MC} {a:D5} {k:SV→MC}:u4 f a k=a fun ws=> call0 (f ws) k:=rfl
@[simp] theorem C8N {p:List Nat} {a:D5} {k:List W→MC}:C6o p a k=a fun ws=> perm p ws k:=rfl
@[simp] theorem A3Y {a:CW} {k:List W→MC}:A2z a k=a fun w=> items w k:=rfl
@[simp] theorem W1 {a:CS} {k:List W→MC}:A2G a k=a fun w=> A82 w k:=rfl
@[simp] theorem C8B {a:CS} {k:List W→MC}:C6Z a k=a fun w=> B10 w k:=rfl
@[simp] theorem C8t {a:D5} {k:List W→MC}:C6v a k=a fun w=> A80 w k:=rfl
@[simp] theorem B5i {a:CW} {k:List W→MC}:A8Z a k=a fun w=> items w fun ws=> k (T8 ws):=rfl
@[simp] theorem C80 {a:D5} {k:List W→MC}:C6z a k=a fun ws=> enz ws k:=rfl
@[simp] theorem M1 {mc:CB} {m1 m2:MC}:K5 mc m1 m2=mc fun b=> if b=true then m1 else m2:=rfl
@[simp] theorem C41 {a:CE} {k:SV→MC}:B1j a k=a fun x=> B2H x k:=rfl
@[simp] theorem C9I {a:D5} {k:W→W→MC}:C7F a k=a fun ws=> pr2 ws k:=rfl
@[simp] theorem A5d {a:CW} {k:W→SV→MC}:A8W a k=a fun w=> A6S w k:=rfl
@[simp] theorem A5u {mv:CW} {x:SV} {m:CE} {k:SV→MC}:u9 mv x m k=mv fun w=> m fun y=> A2J x y w k:=rfl
@[simp] theorem C8Q {mv:CW} {x:SV} {m:CE} {m2:SV→CE} {k:SV→MC}:C58 mv x m m2 k=mv fun w=> un2 w fun a b=> m fun y=> A2J x y a fun x1=> m2 x1 fun y2=> A2J x1 y2 b k:=rfl
@[simp] theorem C8s {f:Int→Int→Int} {x:SV} {m m2:CE} {k:SV→MC}:C68 f x m m2 k=m fun y=> B7K f x y m2 k:=rfl
@[simp] theorem R6 {mt:CB} {me:CW} {kk:Option W→MC}:g8 mt me kk=mt fun b=> if b=true then me fun y=> kk (some y) else kk none:=rfl
@[simp] theorem T2 {it:D5} {body:W→(Option W→MC)→MC} {k:SV→MC}:v8 it body k=it fun ws=> U6 body (fun acc=> k (.own (.seq acc))) ws []:=rfl
@[simp] theorem A5l {σ:Type} {mi:D5} {s0:σ} {body:W→σ→(σ→MC)→(σ→MC)→MC} {k:σ→MC}:A3I mi s0 body k=mi fun ws=> o7 body k ws s0:=rfl
@[simp] theorem C5P {σ:Type} {k:σ→MC} {f:(σ→MC)→MC}:join k f=f k:=rfl
theorem B4o:∀{as bs:List Char},as.map Char.toNat=bs.map Char.toNat→as=bs
  | [],[],_=> rfl
  | [],_::_,h=> by cases h
  | _::_,[],h=> by cases h
  | a::as,b::bs,h=> by
    rw [List.map_cons,List.map_cons] at h
    injection h with h1 h2
    rw [Char.toNat_inj.mp h1,B4o h2]
@[simp] theorem k9 {a b:String}:(Str.ofString a=Str.ofString b)=(a=b):=by
  refine propext ⟨fun e=> ?_,fun e=> by rw [e]⟩
  rw [Str.ofString_eq_toList,Str.ofString_eq_toList] at e
  injection e with e
  have z:=B4o (congrArg Array.toList e)
  exact String.toList_inj.mp z
@[simp] theorem C2 {w:W}:SV.fz (.val w)=w:=rfl
@[simp] theorem Q2 {ws:List W}:SV.fz (.own (.seq ws))= .lst ws:=rfl
@[simp] theorem B6X {w:W}:SV.rr (.val w)= .val w:=rfl
@[simp] theorem C49 {c:Cont}:SV.rr (.own c)= .own c:=rfl
@[simp] theorem P9 {w:W}:RR.sv (.val w)= .val w:=rfl
@[simp] theorem A3k {c:Cont}:RR.sv (.own c)= .own c:=rfl
theorem G4:sizeLine=16777216:=rfl
@[simp] theorem l8 {i:Int} {k:Int→MC}:R3 (.val (.int i)) k=k i:=rfl
@[simp] theorem F0 {i:Bool} {k:Bool→MC}:T3 (.val (.bl i)) k=k i:=rfl
@[simp] theorem C1f {ws:List W} {k:List W→MC}:items (.tup ws) k=k ws:=rfl
@[simp] theorem A3Q {ws:List W} {k:List W→MC}:items (.lst ws) k=k ws:=rfl
@[simp] theorem A73 {a b:W} {k:W→W→MC}:un2 (.tup [a,b]) k=k a b:=rfl
@[simp] theorem C8a {a b c:W} {k:W→W→W→MC}:un3 (.tup [a,b,c]) k=k a b c:=rfl
@[simp] theorem C8m {a b c d e:W} {k:W→W→W→W→W→MC}:un5 (.tup [a,b,c,d,e]) k=k a b c d e:=rfl
@[simp] theorem C8G {a b:W} {k:W→W→MC}:uq2 (.tup [a,b]) k=k a b:=rfl
@[simp] theorem C76 {a b c:W} {k:W→W→W→MC}:uq3 (.tup [a,b,c]) k=k a b c:=rfl
@[simp] theorem C8c {a b:W} {k:W→W→MC}:uq2 (.lst [a,b]) k=k a b:=rfl
@[simp] theorem C8Y {a b c:W} {k:W→W→W→MC}:uq3 (.lst [a,b,c]) k=k a b c:=rfl
@[simp] theorem C8b {a b c d:W} {k:W→W→W→W→MC}:uq4 (.tup [a,b,c,d]) k=k a b c d:=rfl
@[simp] theorem C8K {a b c d e:W} {k:W→W→W→W→W→MC}:uq5 (.tup [a,b,c,d,e]) k=k a b c d e:=rfl
@[simp] theorem A5T {x:W} {r:List W} {k:W→SV→MC}:A6S (.tup (x::r)) k=k x (.own (.seq r)):=rfl
@[simp] theorem A7p {x:W} {r:List W} {k:W→SV→MC}:A6S (.lst (x::r)) k=k x (.own (.seq r)):=rfl
@[simp] theorem C9Y {x y:W} {k:W→W→MC}:pr2 [x,y] k=k x y:=rfl
@[simp] theorem C7x {xs ys:List W} {k:List W→MC}:A80 [.tup xs,.tup ys] k=k (List.zipWith (fun a b=> W.tup [a,b]) xs ys):=rfl
@[simp] theorem C7m {xs ys:List W} {k:List W→MC}:A80 [.lst xs,.lst ys] k=k (List.zipWith (fun a b=> W.tup [a,b]) xs ys):=rfl
@[simp] theorem C9W {a b:W} {k:List W→MC}:enz [a,b] k=items a fun xs=> items b fun ys=> k (ezW xs ys):=rfl
@[simp] theorem x8 {j:Int} {k:List W→MC}:A82 [.val (.int j)] k=J9 (-(2 ^ 62)≤j∧j < 2 ^ 62) (k (T1 0 j.toNat)):=rfl
@[simp] theorem C7j {i j:Int} {k:List W→MC}:B10 [.val (.int i),.val (.int j)] k=J9 (-(2 ^ 62)≤i∧i < 2 ^ 62∧ -(2 ^ 62)≤j∧j < 2 ^ 62) (k (T1 i (j - i).toNat)):=rfl
@[simp] theorem C2G {n:Int} {k:SV→MC}:B2H (.val (.int n)) k=J9 (0≤n∧n≤16777216) (k (.own (.seq (T1 0 n.toNat)))):=rfl
theorem F3 {p:Prop} {m:MC} (hp:p):J9 p m=m:=by funext h Q E;exact propext ⟨fun z=> z.2,fun z=> ⟨hp,z⟩⟩
@[simp] theorem A1P {m:MC}:J9 True m=m:=F3 trivial
theorem m6 {p:Prop} {m:MC}:J9 p m h Q E=(p∧m h Q E):=rfl
@[simp] theorem A5t {x:SV}:ret x h Q E=Q x.rr h:=rfl
@[simp] theorem A5R {x:AExc}:A28 x h Q E=E x h:=rfl
@[simp] theorem U8 {x:SV} {k:SV→MC}:call (ret x) k=k x:=by cases x <;> rfl
@[simp] theorem A3R {x:SV} {k:SV→MC}:call0 (ret x) k=k x:=by cases x <;> rfl
@[simp] theorem C7c {x:AExc} {k:SV→MC}:call (A28 x) k=A28 x:=rfl
theorem A57 {p:Prop}:(True∧p)=p:=by simp
@[simp] theorem C9l {a:W} {k:List W→MC}:perm [0] [a] k=k [a]:=F3 rfl
@[simp] theorem C9U {a b:W} {k:List W→MC}:perm [0,1] [a,b] k=k [a,b]:=F3 rfl
@[simp] theorem C9g {a b:W} {k:List W→MC}:perm [1,0] [a,b] k=k [b,a]:=F3 rfl
@[simp] theorem C82 {a b c:W} {k:List W→MC}:perm [0,1,2] [a,b,c] k=k [a,b,c]:=F3 rfl
@[simp] theorem C8w {a b c:W} {k:List W→MC}:perm [0,2,1] [a,b,c] k=k [a,c,b]:=F3 rfl
@[simp] theorem C89 {a b c:W} {k:List W→MC}:perm [1,0,2] [a,b,c] k=k [b,a,c]:=F3 rfl
@[simp] theorem C8z {a b c:W} {k:List W→MC}:perm [1,2,0] [a,b,c] k=k [b,c,a]:=F3 rfl
@[simp] theorem C84 {a b c:W} {k:List W→MC}:perm [2,0,1] [a,b,c] k=k [c,a,b]:=F3 rfl
@[simp] theorem C9A {a b c:W} {k:List W→MC}:perm [2,1,0] [a,b,c] k=k [c,b,a]:=F3 rfl
@[simp] theorem C8P {a b c d:W} {k:List W→MC}:perm [0,1,2,3] [a,b,c,d] k=k [a,b,c,d]:=F3 rfl
@[simp] theorem C74 {a b c d:W} {k:List W→MC}:perm [0,1,3,2] [a,b,c,d] k=k [a,b,d,c]:=F3 rfl
@[simp] theorem C8h {a b c d:W} {k:List W→MC}:perm [0,2,1,3] [a,b,c,d] k=k [a,c,b,d]:=F3 rfl
@[simp] theorem C8J {a b c d:W} {k:List W→MC}:perm [0,2,3,1] [a,b,c,d] k=k [a,c,d,b]:=F3 rfl
@[simp] theorem C8V {a b c d:W} {k:List W→MC}:perm [0,3,1,2] [a,b,c,d] k=k [a,d,b,c]:=F3 rfl
@[simp] theorem C8I {a b c d:W} {k:List W→MC}:perm [0,3,2,1] [a,b,c,d] k=k [a,d,c,b]:=F3 rfl
@[simp] theorem C8S {a b c d:W} {k:List W→MC}:perm [1,0,2,3] [a,b,c,d] k=k [b,a,c,d]:=F3 rfl
@[simp] theorem C8M {a b c d:W} {k:List W→MC}:perm [1,0,3,2] [a,b,c,d] k=k [b,a,d,c]:=F3 rfl
@[simp] theorem C8o {a b c d:W} {k:List W→MC}:perm [1,2,0,3] [a,b,c,d] k=k [b,c,a,d]:=F3 rfl
@[simp] theorem C8d {a b c d:W} {k:List W→MC}:perm [1,2,3,0] [a,b,c,d] k=k [b,c,d,a]:=F3 rfl
@[simp] theorem C7y {a b c d:W} {k:List W→MC}:perm [1,3,0,2] [a,b,c,d] k=k [b,d,a,c]:=F3 rfl
@[simp] theorem C8j {a b c d:W} {k:List W→MC}:perm [1,3,2,0] [a,b,c,d] k=k [b,d,c,a]:=F3 rfl
@[simp] theorem C8Z {a b c d:W} {k:List W→MC}:perm [2,0,1,3] [a,b,c,d] k=k [c,a,b,d]:=F3 rfl
@[simp] theorem C8i {a b c d:W} {k:List W→MC}:perm [2,0,3,1] [a,b,c,d] k=k [c,a,d,b]:=F3 rfl
@[simp] theorem C8f {a b c d:W} {k:List W→MC}:perm [2,1,0,3] [a,b,c,d] k=k [c,b,a,d]:=F3 rfl
@[simp] theorem C73 {a b c d:W} {k:List W→MC}:perm [2,1,3,0] [a,b,c,d] k=k [c,b,d,a]:=F3 rfl
@[simp] theorem C77 {a b c d:W} {k:List W→MC}:perm [2,3,0,1] [a,b,c,d] k=k [c,d,a,b]:=F3 rfl
@[simp] theorem C8W {a b c d:W} {k:List W→MC}:perm [2,3,1,0] [a,b,c,d] k=k [c,d,b,a]:=F3 rfl
@[simp] theorem C8H {a b c d:W} {k:List W→MC}:perm [3,0,1,2] [a,b,c,d] k=k [d,a,b,c]:=F3 rfl
@[simp] theorem C8R {a b c d:W} {k:List W→MC}:perm [3,0,2,1] [a,b,c,d] k=k [d,a,c,b]:=F3 rfl
@[simp] theorem C8C {a b c d:W} {k:List W→MC}:perm [3,1,0,2] [a,b,c,d] k=k [d,b,a,c]:=F3 rfl
@[simp] theorem C8k {a b c d:W} {k:List W→MC}:perm [3,1,2,0] [a,b,c,d] k=k [d,b,c,a]:=F3 rfl
@[simp] theorem C72 {a b c d:W} {k:List W→MC}:perm [3,2,0,1] [a,b,c,d] k=k [d,c,a,b]:=F3 rfl
@[simp] theorem C8D {a b c d:W} {k:List W→MC}:perm [3,2,1,0] [a,b,c,d] k=k [d,c,b,a]:=F3 rfl
section
variable {i j:Int} {k:SV→MC} {xs ys:List W}
@[simp] theorem B65:D4 A1a (.val (.int i)) (.val (.int j)) k=k (.val (.int (i - j))):=by funext h Q E;exact A57
@[simp] theorem B2D:D4 oLt (.val (.int i)) (.val (.int j)) k=k (.val (.bl (decide (i < j)))):=by funext h Q E;exact A57
@[simp] theorem C9m:D4 oLe (.val (.int i)) (.val (.int j)) k=k (.val (.bl (decide (i≤j)))):=by funext h Q E;exact A57
@[simp] theorem B2E:D4 oGt (.val (.int i)) (.val (.int j)) k=k (.val (.bl (decide (j < i)))):=by funext h Q E;exact A57
@[simp] theorem B19:D4 oGe (.val (.int i)) (.val (.int j)) k=k (.val (.bl (decide (j≤i)))):=by funext h Q E;exact A57
@[simp] theorem A8h:D4 T0 (.val (.int i)) (.val (.int j)) k=J9 (0 < j) (k (.val (.int (i % j)))):=rfl
@[simp] theorem B0s:D4 o5 (.val (.int i)) (.val (.int j)) k=J9 (CDivW i j) (k (.val (.int (i / j)))):=rfl
@[simp] theorem B7D:D4 A2R (.val (.int i)) (.val (.int j)) k=J9 (CPow i j) (k (.val (.int (i ^ j.toNat)))):=rfl
@[simp] theorem A8V:D4 oMulT (.val (.int i)) (.val (.int j)) k=J9 (CMulW i j) (k (.val (.int (i*j)))):=rfl
@[simp] theorem C9V:D4 oMulT (.own (.seq xs)) (.val (.int j)) k=J9 (-(2 ^ 63)≤j∧j < 2 ^ 63∧xs.length*j.toNat≤sizeLine) (k (.own (.seq (List.replicate j.toNat xs).flatten))):=rfl
@[simp] theorem C87:D4 oMulT (.val (.tup xs)) (.val (.int j)) k=J9 (-(2 ^ 63)≤j∧j≤1000∧1≤xs.length∧xs.length≤1000) (k (.val (.tup (List.replicate j.toNat xs).flatten))):=rfl
@[simp] theorem o6:D4 oAdd (.val (.int i)) (.val (.int j)) k=k (.val (.int (i+j))):=rfl
@[simp] theorem C5m {x y:Str}:D4 oAdd (.val (.str x)) (.val (.str y)) k=J9 (x.length+y.length≤sizeLine) (k (.val (.str (x++y)))):=rfl
@[simp] theorem B03:D4 oAdd (.val (.tup xs)) (.val (.tup ys)) k=J9 (xs.length+ys.length≤sizeLine) (k (.val (.tup (xs++ys)))):=rfl
@[simp] theorem C3l:D4 oAdd (.val (.lst xs)) (.val (.lst ys)) k=J9 (xs.length+ys.length≤sizeLine) (k (.own (.seq (xs++ys)))):=rfl
@[simp] theorem B5a:D4 oAdd (.val (.lst xs)) (.own (.seq ys)) k=J9 (xs.length+ys.length≤sizeLine) (k (.own (.seq (xs++ys)))):=rfl
@[simp] theorem C3m:D4 oAdd (.own (.seq xs)) (.val (.lst ys)) k=J9 (xs.length+ys.length≤sizeLine) (k (.own (.seq (xs++ys)))):=rfl
@[simp] theorem C8E:D4 oAdd (.own (.seq xs)) (.own (.seq ys)) k=J9 (xs.length+ys.length≤sizeLine) (k (.own (.seq (xs++ys)))):=rfl
def V5 (xs:List W) (i:Int) (k:W→MC):MC:=match L2.atI xs i with
  | some w=> k w
  | none=> bad
theorem B41 {v:Vw} {i:Int} {Q:RV→Prop} (hv:v.items=some xs) (hs:∀x,v≠ .wv (.str x)):oIx v (.wv (.int i)) Q=match L2.atI xs i with
  | some w=> Q (.val w)
  | none=> False:=by
  rw [C6t]
  have z:ixK v i Q=match L2.atI xs i with
    | some w=> Q (.val w)
    | none=> False:=by
    unfold ixK
    rw [hv]
    rfl
  cases v with
  | wv w=> cases w with
    | str x=> exact absurd rfl (hs x)
    | _=> exact z
  | _=> exact z
theorem B0z {x:SV} {v:Vw} (e:∀h,K3 h x=v) (hv:v.items=some xs) (hs:∀x,v≠ .wv (.str x)):D4 oIx x (.val (.int i)) k=V5 xs i fun w=> k (.val w):=by
  funext h Q E
  show oIx (K3 h x) (.wv (.int i)) _=_
  rw [e,B41 hv hs]
  unfold V5
  cases L2.atI xs i <;> rfl
@[simp] theorem W3:D4 oIx (.val (.tup xs)) (.val (.int i)) k=V5 xs i fun w=> k (.val w):=B0z (v:= .wv (.tup xs)) (fun _=> rfl) rfl (fun _ z=> by cases z)
@[simp] theorem A3A:D4 oIx (.val (.lst xs)) (.val (.int i)) k=V5 xs i fun w=> k (.val w):=B0z (v:= .wv (.lst xs)) (fun _=> rfl) rfl (fun _ z=> by cases z)
@[simp] theorem B1r:D4 oIx (.own (.seq xs)) (.val (.int i)) k=V5 xs i fun w=> k (.val w):=B0z (v:= .cv (.seq xs)) (fun _=> rfl) rfl (fun _ z=> by cases z)
theorem A3T {k:W→MC} {w:W} (e:L2.atI xs i=some w):V5 xs i k=k w:=by unfold V5;rw [e]
@[simp] theorem n9 {k:W→MC} {w:W}:V5 (w::xs) 0 k=k w:=A3T C7H
@[simp] theorem A1J {k:W→MC} {w v:W}:V5 (w::v::xs) 1 k=k v:=A3T C6x
@[simp] theorem A29 {k:W→MC} {w v u:W}:V5 (w::v::u::xs) 2 k=k u:=A3T C66
@[simp] theorem B1c {k:W→MC} {w v u t:W}:V5 (w::v::u::t::xs) 3 k=k t:=A3T (atI_nat (j:=3) rfl)
@[simp] theorem B7B {k:W→MC} {w v u t s:W}:V5 (w::v::u::t::s::xs) 4 k=k s:=A3T (atI_nat (j:=4) rfl)
theorem A1y {k:W→MC} {n:Nat} (hn:n < xs.length):V5 xs (n:Int) k=k xs[n]:=A3T (atI_nat (List.getElem?_eq_getElem hn))
theorem A5X {α:Type} {e:α→W} {l:List α} {k:W→MC} {n:Nat} (hn:n < l.length):V5 (l.map e) (n:Int) k=k (e l[n]):=by
  rw [A1y (by rw [List.length_map];exact hn),List.getElem_map]
@[simp] theorem C9Q {l u:Option Int}:slc (.val (.tup xs)) l u k=k (.val (.tup (o8 xs l u))):=rfl
@[simp] theorem B1d {l u:Option Int}:slc (.val (.lst xs)) l u k=k (.own (.seq (o8 xs l u))):=rfl
@[simp] theorem C6Y {l u:Option Int}:slc (.own (.seq xs)) l u k=k (.own (.seq (o8 xs l u))):=rfl
section
variable {w:W} {k1:SV→W→MC}
theorem B5p {m:MC}:isq (.own (.seq xs)) m=m:=F3 trivial
@[simp] theorem B0l {m:CE}:A89 (.own (.seq xs)) m k=m fun y=> ext (.own (.seq xs)) y k:=B5p
@[simp] theorem B6b:ext (.own (.seq xs)) (.own (.seq ys)) k=J9 (xs.length+ys.length≤sizeLine) (k (.own (.seq (xs++ys)))):=rfl
@[simp] theorem B06 {f:R1} {ma:D5}:lmC f (.own (.seq xs)) ma k1=ma fun ws=> lm f (.own (.seq xs)) ws k1:=B5p
@[simp] theorem A9p:lm i6 (.own (.seq xs)) [w] k1=J9 (xs.length < sizeLine) (k1 (.own (.seq (xs++[w]))) .non):=rfl
end
@[simp] theorem W2:cb D2 [.val (.tup xs)] k=k (.val (.int xs.length)):=by
  funext h Q E;show D2 [.wv (.tup xs)] _=_;rw [A8v];rfl
@[simp] theorem A2A:cb D2 [.val (.lst xs)] k=k (.val (.int xs.length)):=by
  funext h Q E;show D2 [.wv (.lst xs)] _=_;rw [A8v];rfl
@[simp] theorem A8P:cb D2 [.own (.seq xs)] k=k (.val (.int xs.length)):=by
  funext h Q E;show D2 [.cv (.seq xs)] _=_;rw [A8v];rfl
@[simp] theorem B09 {x:Str}:cb D2 [.val (.str x)] k=J9 (x.length≤sizeLine) (k (.val (.int x.length))):=by
  funext h Q E;show D2 [.wv (.str x)] _=_;rw [A8v];rfl
@[simp] theorem C9D {a:D5} {k:SV→MC}:C6D a k=a fun ws=> B7G ws k:=rfl
@[simp] theorem C8x {kvs:List (W×W)} {a b:CW} {k:SV→MC}:C5v (.own (.map kvs)) a b k=a fun w=> b fun d=> B7W (.own (.map kvs)) w d k:=by
  funext h Q E
  exact propext ⟨fun z=> z.2,fun z=> ⟨⟨kvs,rfl⟩,z⟩⟩
@[simp] theorem C9T {m:CE} {k:W→MC}:A2Q m k=m fun x=> A6M x k:=rfl
@[simp] theorem C6U {f:R1} {m:CE} {ma:D5} {k:MC}:lmE f m ma k=m fun x=> lmR f x ma k:=rfl
@[simp] theorem C9G:cb oBack [.val (.tup xs),.val (.int i)] k=J9 (i= -1) (k (.val (.tup xs.reverse))):=rfl
@[simp] theorem C9N:cb U4 [.val (.tup xs)] k=k (.val (.tup xs)):=by
  funext h Q E;show U4 [.wv (.tup xs)] _=_;rw [B0w];rfl
@[simp] theorem C4j:cb U4 [.val (.lst xs)] k=k (.val (.tup xs)):=by
  funext h Q E;show U4 [.wv (.lst xs)] _=_;rw [B0w];rfl
@[simp] theorem B6F:cb U4 [.own (.seq xs)] k=k (.val (.tup xs)):=by
  funext h Q E;show U4 [.cv (.seq xs)] _=_;rw [B0w];rfl
@[simp] theorem C5R:cb Q4 [.val (.tup xs)] k=k (.own (.seq xs)):=by
  funext h Q E;show Q4 [.wv (.tup xs)] _=_;rw [A8Q];rfl
@[simp] theorem B02:cb Q4 [.val (.lst xs)] k=k (.own (.seq xs)):=by
  funext h Q E;show Q4 [.wv (.lst xs)] _=_;rw [A8Q];rfl
@[simp] theorem C44:cb Q4 [.own (.seq xs)] k=k (.own (.seq xs)):=by
  funext h Q E;show Q4 [.cv (.seq xs)] _=_;rw [A8Q];rfl
theorem C4r {a b:Int}:(if b < a then b else a)=min a b:=by rw [Int.min_def];split <;> split <;> omega
theorem C5e {a b:Int}:(if b > a then b else a)=max a b:=by rw [Int.max_def];split <;> split <;> omega
theorem C43 {a:Int}:(if a < 0 then -a else a)=(a.natAbs:Int):=by split <;> omega
@[simp] theorem C8v:cb C57 [.val (.int i),.val (.int j)] k=k (.val (.int (min i j))):=by
  rw [←C4r];rfl
@[simp] theorem C9L:cb C6I [.val (.int i),.val (.int j)] k=k (.val (.int (max i j))):=by
  rw [←C5e];rfl
@[simp] theorem C9a:cb C7C [.val (.int i)] k=k (.val (.int (i.natAbs:Int))):=by
  rw [←C43];rfl
theorem B0d {as bs:List Int} (e:as.map W.int=bs.map W.int):as=bs:=by
  induction as generalizing bs with
  | nil=> cases bs with
    | nil=> rfl
    | cons _ _=> cases e
  | cons a as ih=> cases bs with
    | nil=> cases e
    | cons b bs=>
      rw [List.map_cons,List.map_cons] at e
      injection e with e1 e2
      injection e1 with e1
      rw [e1,ih e2]
theorem C4Z {as bs:List Bool} (e:as.map W.bl=bs.map W.bl):as=bs:=by
  induction as generalizing bs with
  | nil=> cases bs with
    | nil=> rfl
    | cons _ _=> cases e
  | cons a as ih=> cases bs with
    | nil=> cases e
    | cons b bs=>
      rw [List.map_cons,List.map_cons] at e
      injection e with e1 e2
      injection e1 with e1
      rw [e1,ih e2]
theorem C1w {g:List Int→(RV→Prop)→Prop} {ns:List Int} {v:Vw} {Q:RV→Prop} (e:v.seq=some (ns.map W.int)):oInts g [v] Q=g ns Q:=by
  refine propext ⟨fun ⟨ms,e2,q⟩=> ?_,fun q=> ⟨ns,e,q⟩⟩
  rw [e] at e2
  rw [B0d (Option.some.inj e2)]
  exact q
theorem C3O {g:List Bool→Bool} {ns:List Bool} {v:Vw} {Q:RV→Prop} (e:v.seq=some (ns.map W.bl)):oBls g [v] Q=Q (.val (.bl (g ns))):=by
  refine propext ⟨fun ⟨ms,e2,q⟩=> ?_,fun q=> ⟨ns,e,q⟩⟩
  rw [e] at e2
  rw [C4Z (Option.some.inj e2)]
  exact q
theorem B6B {g:List Bool→Bool} {ns:List Bool} {x:SV} {v:Vw} (e:∀h,K3 h x=v) (es:v.seq=some (ns.map W.bl)):cb (oBls g) [x] k=k (.val (.bl (g ns))):=by
  funext h Q E
  unfold cb
  rw [List.map_cons,List.map_nil,e,C3O es]
  rfl
theorem B55 {g:List Int→(RV→Prop)→Prop} {ns:List Int} {x:SV} {v:Vw} (e:∀h,K3 h x=v) (es:v.seq=some (ns.map W.int)):cb (oInts g) [x] k=fun h Q E=> g ns fun r=> g9 k r h Q E:=by
  funext h Q E
  unfold cb
  rw [List.map_cons,List.map_nil,e,C1w es]
theorem B0p {ns:List Int} {x:SV} {v:Vw} (e:∀h,K3 h x=v) (es:v.items=some (ns.map W.int)):cb u7 [x] k=k (.val (.int ns.sum)):=by
  funext h Q E
  unfold cb
  rw [List.map_cons,List.map_nil,e]
  refine propext ⟨fun ⟨ms,e2,q⟩=> ?_,fun q=> ⟨ns,es,q⟩⟩
  rw [es] at e2
  rw [B0d (Option.some.inj e2)]
  exact q
@[simp] theorem C7o {ns:List Int}:cb B5r [.own (.seq (ns.map W.int))] k=k (.own (.seq ((srt ns).map W.int))):=B55 (v:= .cv (.seq _)) (fun _=> rfl) rfl
@[simp] theorem C7e {ns:List Int}:cb B5r [.val (.lst (ns.map W.int))] k=k (.own (.seq ((srt ns).map W.int))):=B55 (v:= .wv (.lst _)) (fun _=> rfl) rfl
@[simp] theorem C5c {ns:List Int}:cb u7 [.own (.seq (ns.map W.int))] k=k (.val (.int ns.sum)):=B0p (v:= .cv (.seq _)) (fun _=> rfl) rfl
@[simp] theorem C86 {ns:List Int}:cb u7 [.val (.lst (ns.map W.int))] k=k (.val (.int ns.sum)):=B0p (v:= .wv (.lst _)) (fun _=> rfl) rfl
@[simp] theorem C9E {ns:List Int}:cb u7 [.val (.tup (ns.map W.int))] k=k (.val (.int ns.sum)):=B0p (v:= .wv (.tup _)) (fun _=> rfl) rfl
@[simp] theorem B6Q {ns:List Bool}:cb A6X [.own (.seq (ns.map W.bl))] k=k (.val (.bl (ns.any id))):=B6B (v:= .cv (.seq _)) (fun _=> rfl) rfl
@[simp] theorem A5r {ns:List Bool}:cb A3J [.own (.seq (ns.map W.bl))] k=k (.val (.bl (ns.all id))):=B6B (v:= .cv (.seq _)) (fun _=> rfl) rfl
end
end
end Ab
namespace Ab
open PySem PySem.Spec PyProof.Rows L2 RZ
section
variable {Q:RR→AH→Prop} {E:AExc→AH→Prop} {h:AH} {α β σ:Type}
theorem C3Y {n:Nat}:T1 0 n=(List.range n).map fun (i:Nat)=> W.int i:=by
  unfold T1
  simp
theorem B0t {e:α→W} {l:List α}:T8 (l.map e)=l.zipIdx.map fun p=> W.tup [.int (p.2:Int),e p.1]:=by
  refine List.ext_getElem (by simp [T8]) fun i h1 h2=> ?_
  have hi:i < l.length:=by simpa [T8] using h1
  simp [T8,List.getD_eq_getElem?_getD,hi]
section
variable {body:W→(Option W→MC)→MC} {k:List W→MC}
theorem A77 (e:α→W) (f:α→Option W):∀(l:List α) (acc:List W),(∀a∈l,∀kk,body (e a) kk=kk (f a))→acc.length+l.length≤sizeLine→U6 body k (l.map e) acc=k (acc++l.filterMap f)
  | [],acc,_,_=> by simp [U6]
  | a::l,acc,hb,hl=> by
    rw [List.length_cons] at hl
    show body (e a) _=_
    rw [hb a (by simp)]
    cases q:f a with
    | none=>
      show U6 body k (l.map e) acc=_
      rw [A77 e f l acc (fun b hb'=> hb b (by simp [hb'])) (by omega),List.filterMap_cons_none q]
    | some y=>
      show J9 _ _=_
      rw [F3 (by omega),A77 e f l (acc++[y]) (fun b hb'=> hb b (by simp [hb'])) (by rw [List.length_append,List.length_singleton];omega),List.filterMap_cons_some q]
      simp
theorem A5i (e:α→W) (g:α→W) (l:List α) (hb:∀a∈l,∀kk,body (e a) kk=kk (some (g a))) (hl:l.length≤sizeLine):U6 body k (l.map e) []=k (l.map g):=by
  rw [A77 e (fun a=> some (g a)) l [] hb (by simpa using hl)]
  congr 1
  rw [List.nil_append,List.filterMap_eq_map']
theorem C54 (e:α→W) (p:α→Bool) (g:α→W) (l:List α) (hb:∀a∈l,∀kk,body (e a) kk=if p a=true then kk (some (g a)) else kk none) (hl:l.length≤sizeLine):U6 body k (l.map e) []=k ((l.filter p).map g):=by
  rw [A77 e (fun a=> if p a=true then some (g a) else none) l [] (fun a ha kk=> by rw [hb a ha kk];split <;> rfl) (by simpa using hl)]
  congr 1
  rw [List.nil_append]
  induction l with
  | nil=> rfl
  | cons a l ih=>
    have ih:=ih (fun b hb'=> hb b (by simp [hb'])) (by rw [List.length_cons] at hl;omega)
    by_cases q:p a=true
    · rw [List.filterMap_cons_some (by rw [if_pos q]),List.filter_cons_of_pos q,List.map_cons,ih]
    · rw [List.filterMap_cons_none (by rw [if_neg q]),List.filter_cons_of_neg q,ih]
theorem A8q (I:Nat→AH→Prop) (P:W→W→Prop):∀(ws acc:List W) (i:Nat) (h:AH),acc.length+ws.length≤sizeLine→I i h→
    (∀w∈ws,∀j h kk,j < i+ws.length→I j h→(∀y h',P w y→I (j+1) h'→kk (some y) h' Q E)→body w kk h Q E)→
    (∀ys h',All2 P ws ys→I (i+ws.length) h'→k (acc++ys) h' Q E)→U6 body k ws acc h Q E
  | [],acc,i,h,_,j,_,q=> by
    have z:=q [] h .nil (by simpa using j)
    simpa [U6] using z
  | w::ws,acc,i,h,hl,j,hb,q=> by
    rw [List.length_cons] at hl
    refine hb w (by simp) i h _ (by rw [List.length_cons];omega) j fun y h' py j'=> ⟨by omega,?_⟩
    refine A8q I P ws (acc++[y]) (i+1) h' (by rw [List.length_append,List.length_singleton];omega) j' (fun v hv j h kk hj=> hb v (by simp [hv]) j h kk (by rw [List.length_cons];omega)) fun ys h2 ay j2=> ?_
    have z:=q (y::ys) h2 (.cons py ay) (by rw [List.length_cons];rwa [show i+(ws.length+1)=i+1+ws.length by omega])
    simpa using z
end
section
variable {body:W→σ→(σ→MC)→(σ→MC)→MC} {k:σ→MC}
theorem B5s {τ:Type} (e:α→W) (eS:τ→σ) (f:τ→α→τ) (I:Nat→τ→Prop):∀(l:List α) (t:τ) (i:Nat),I i t→(∀(j:Nat) a,l[j]? =some a→∀t,I (i+j) t→I (i+j+1) (f t a)∧∀kn,body (e a) (eS t) kn k=kn (eS (f t a)))→o7 body k (l.map e) (eS t)=k (eS (l.foldl f t))
  | [],t,i,_,_=> rfl
  | a::l,t,i,h0,hb=> by
    obtain ⟨i',hb'⟩:=hb 0 a rfl t h0
    show body (e a) (eS t) _ k=_
    rw [hb',B5s e eS f I l (f t a) (i+1) i' fun j b hj t hi=> ?_]
    · rfl
    · have z:=hb (j+1) b (by simpa using hj) t (by rwa [show i+(j+1)=i+1+j by omega])
      rwa [show i+(j+1)+1=i+1+j+1 by omega] at z
inductive Stp (σ:Type) where
  | go (s:σ) | out (m:MC)
theorem B4W {body:W→Unit→(Unit→MC)→(Unit→MC)→MC} {k:Unit→MC} (e:α→W) (r:α→Option MC):∀(l:List α),(∀a∈l,∀kn,body (e a) () kn k=(r a).getD (kn ()))→o7 body k (l.map e) ()=(l.findSome? r).getD (k ())
  | [],_=> rfl
  | a::l,hb=> by
    show body (e a) () _ k=_
    rw [hb a (by simp)]
    cases q:r a with
    | some m=> simp [q]
    | none=>
      rw [List.findSome?_cons_of_isNone (by rw [q];rfl)]
      exact B4W e r l fun b hb2=> hb b (by simp [hb2])
theorem C13 {body:W→Unit→(Unit→MC)→(Unit→MC)→MC} {k:Unit→MC} (ws:List W) (hb:∀w∈ws,∀kn,body w () kn k=kn ()):o7 body k ws ()=k ():=by
  induction ws with
  | nil=> rfl
  | cons w ws ih=>
    show body w () _ k=_
    rw [hb w (by simp)]
    exact ih fun v hv=> hb v (by simp [hv])
theorem B6S (I:List W→σ→AH→Prop) (h0:∀s h,I [] s h→k s h Q E) (hs:∀w ws s h kn,I (w::ws) s h→(∀s' h',I ws s' h'→kn s' h' Q E)→body w s kn k h Q E):∀ws s h,I ws s h→o7 body k ws s h Q E
  | [],s,h,i=> h0 s h i
  | w::ws,s,h,i=> hs w ws s h _ i fun s' h' i'=> B6S I h0 hs ws s' h' i'
end
end
mutual
def W.nb:Nat→W→Bool
  | _,.non=> true
  | _,.int _=> true
  | _,.str _=> true
  | n+1,.tup xs=> W.nbs n xs
  | n+1,.lst xs=> W.nbs n xs
  | _,_=> false
def W.nbs:Nat→List W→Bool
  | _,[]=> true
  | n,x::xs=> W.nb n x && W.nbs n xs
end
theorem W.nbs_of {n:Nat}:∀{xs:List W},(∀x∈xs,x.nb n=true)→W.nbs n xs=true
  | [],_=> rfl
  | x::xs,h=> by
    simp only [W.nbs,Bool.and_eq_true]
    exact ⟨h x (by simp),W.nbs_of fun y hy=> h y (by simp [hy])⟩
theorem W.nbs_mem {n:Nat}:∀{xs:List W},W.nbs n xs=true→∀x∈xs,x.nb n=true
  | [],_,x,h=> by cases h
  | y::ys,e,x,h=> by
    simp only [W.nbs,Bool.and_eq_true] at e
    rcases List.mem_cons.mp h with rfl | h
    · exact e.1
    · exact W.nbs_mem e.2 x h
theorem B6k {n:Nat} {i:Int}:(W.int i).nb n=true:=by cases n <;> rfl
theorem B1B {n:Nat} {xs:List W} (h:∀x∈xs,x.nb n=true):(W.tup xs).nb (n+1)=true:=W.nbs_of h
theorem C5U {n:Nat} {xs:List W} (h:∀x∈xs,x.nb n=true):(W.lst xs).nb (n+1)=true:=W.nbs_of h
theorem B5w {n:Nat} {xs:List Int}:∀x∈xs.map W.int,x.nb n=true:=fun x hx=> by
  obtain ⟨i,_,rfl⟩:=List.mem_map.mp hx
  exact B6k
theorem C5b {α:Type} {n:Nat} {e:α→W} {l:List α} (h:∀a∈l,(e a).nb n=true):∀x∈l.map e,x.nb n=true:=fun x hx=> by
  obtain ⟨i,hi,rfl⟩:=List.mem_map.mp hx
  exact h i hi
theorem A3m:∀{n:Nat} {w:W},w.nb n=true→w.dat n=true
  | 0,.non,_=> rfl
  | 0,.int _,_=> rfl
  | 0,.str _,_=> rfl
  | _+1,.non,_=> rfl
  | _+1,.int _,_=> rfl
  | _+1,.str _,_=> rfl
  | n+1,.tup xs,h=> by
    show xs.all (W.dat n)=true
    rw [List.all_eq_true]
    exact fun x hx=> A3m (W.nbs_mem h x hx)
  | n+1,.lst xs,h=> by
    show xs.all (W.dat n)=true
    rw [List.all_eq_true]
    exact fun x hx=> A3m (W.nbs_mem h x hx)
  | 0,.tup _,h=> by simp [W.nb] at h
  | 0,.lst _,h=> by simp [W.nb] at h
  | _,.bl _,h=> by simp [W.nb] at h
  | _,.dct _ _,h=> by simp [W.nb] at h
  | _,.ref _,h=> by simp [W.nb] at h
  | _,.ty _,h=> by simp [W.nb] at h
theorem A3l:∀{n m:Nat} {w:W},n≤m→w.dat n=true→w.dat m=true
  | _,0,.non,_,_=> rfl
  | _,0,.int _,_,_=> rfl
  | _,0,.str _,_,_=> rfl
  | _,0,.bl _,_,_=> rfl
  | _,_+1,.non,_,_=> rfl
  | _,_+1,.int _,_,_=> rfl
  | _,_+1,.str _,_,_=> rfl
  | _,_+1,.bl _,_,_=> rfl
  | 0,_,.tup _,_,h=> by simp [W.dat] at h
  | 0,_,.lst _,_,h=> by simp [W.dat] at h
  | n+1,m+1,.tup xs,l,h=> by
    have h:xs.all (W.dat n)=true:=h
    show xs.all (W.dat m)=true
    rw [List.all_eq_true] at h ⊢
    exact fun x hx=> A3l (by omega) (h x hx)
  | n+1,m+1,.lst xs,l,h=> by
    have h:xs.all (W.dat n)=true:=h
    show xs.all (W.dat m)=true
    rw [List.all_eq_true] at h ⊢
    exact fun x hx=> A3l (by omega) (h x hx)
  | _+1,0,.tup _,l,_=> by omega
  | _+1,0,.lst _,l,_=> by omega
  | _,_,.dct _ _,_,h=> by simp [W.dat] at h
  | _,_,.ref _,_,h=> by simp [W.dat] at h
  | _,_,.ty _,_,h=> by simp [W.dat] at h
def W.plain (w:W):Prop:=∃n,n≤60∧w.nb n=true
@[simp] theorem S9 {i:Int}:(W.int i).plain:=⟨0,by omega,rfl⟩
@[simp] theorem O4 {i:Str}:(W.str i).plain:=⟨0,by omega,rfl⟩
@[simp] theorem C5M:W.non.plain:=⟨0,by omega,rfl⟩
theorem C4l (n:Nat) (hn:n < 60) {xs:List W} (h:∀x∈xs,x.nb n=true):(W.tup xs).plain:=⟨n+1,hn,B1B h⟩
theorem A5n (n:Nat) (hn:n < 60) {xs:List W} (h:∀x∈xs,x.nb n=true):(W.lst xs).plain:=⟨n+1,hn,C5U h⟩
@[simp] theorem A70 {xs:List Int}:(W.tup (xs.map W.int)).plain:=C4l 0 (by omega) B5w
@[simp] theorem C7r {xs:List Int}:(W.lst (xs.map W.int)).plain:=A5n 0 (by omega) B5w
mutual
theorem eqw_nb:∀(n:Nat) (a b:W) (m:Nat),a.nb n=true→b.nb m=true→(N3 a b=true↔a=b)
  | _,.non,.non,_,_,_=> by simp [N3,W.pd,PyData.eqv]
  | _,.non,.int _,_,_,_=> by simp [N3,W.pd,PyData.eqv]
  | _,.non,.str _,_,_,_=> by simp [N3,W.pd,PyData.eqv]
  | _,.non,.tup _,_,_,_=> by simp [N3,W.pd,PyData.eqv]
  | _,.non,.lst _,_,_,_=> by simp [N3,W.pd,PyData.eqv]
  | _,.int _,.non,_,_,_=> by simp [N3,W.pd,PyData.eqv]
  | _,.int _,.int _,_,_,_=> by simp [N3,W.pd,PyData.eqv]
  | _,.int _,.str _,_,_,_=> by simp [N3,W.pd,PyData.eqv]
  | _,.int _,.tup _,_,_,_=> by simp [N3,W.pd,PyData.eqv]
  | _,.int _,.lst _,_,_,_=> by simp [N3,W.pd,PyData.eqv]
  | _,.str _,.non,_,_,_=> by simp [N3,W.pd,PyData.eqv]
  | _,.str _,.int _,_,_,_=> by simp [N3,W.pd,PyData.eqv]
  | _,.str _,.str _,_,_,_=> by simp [N3,W.pd,PyData.eqv]
  | _,.str _,.tup _,_,_,_=> by simp [N3,W.pd,PyData.eqv]
  | _,.str _,.lst _,_,_,_=> by simp [N3,W.pd,PyData.eqv]
  | _,.tup _,.non,_,_,_=> by simp [N3,W.pd,PyData.eqv]
  | _,.tup _,.int _,_,_,_=> by simp [N3,W.pd,PyData.eqv]
  | _,.tup _,.str _,_,_,_=> by simp [N3,W.pd,PyData.eqv]
  | n+1,.tup xs,.tup ys,m+1,h,g=> by
    have z:=eqws_nb n xs ys m h g
    show PyData.eqvAll (W.pds xs) (W.pds ys)=true↔_
    rw [z]
    simp
  | _,.tup _,.lst _,_,_,_=> by simp [N3,W.pd,PyData.eqv]
  | _,.lst _,.non,_,_,_=> by simp [N3,W.pd,PyData.eqv]
  | _,.lst _,.int _,_,_,_=> by simp [N3,W.pd,PyData.eqv]
  | _,.lst _,.str _,_,_,_=> by simp [N3,W.pd,PyData.eqv]
  | _,.lst _,.tup _,_,_,_=> by simp [N3,W.pd,PyData.eqv]
  | n+1,.lst xs,.lst ys,m+1,h,g=> by
    have z:=eqws_nb n xs ys m h g
    show PyData.eqvAll (W.pds xs) (W.pds ys)=true↔_
    rw [z]
    simp
  | 0,.tup _,.tup _,_,h,_=> by simp [W.nb] at h
  | _,.tup _,.tup _,0,_,h=> by simp [W.nb] at h
  | 0,.lst _,.lst _,_,h,_=> by simp [W.nb] at h
  | _,.lst _,.lst _,0,_,h=> by simp [W.nb] at h
  | _,.bl _,_,_,h,_=> by simp [W.nb] at h
  | _,.dct _ _,_,_,h,_=> by simp [W.nb] at h
  | _,.ref _,_,_,h,_=> by simp [W.nb] at h
  | _,.ty _,_,_,h,_=> by simp [W.nb] at h
  | _,_,.bl _,_,_,h=> by simp [W.nb] at h
  | _,_,.dct _ _,_,_,h=> by simp [W.nb] at h
  | _,_,.ref _,_,_,h=> by simp [W.nb] at h
  | _,_,.ty _,_,_,h=> by simp [W.nb] at h
theorem eqws_nb:∀(n:Nat) (xs ys:List W) (m:Nat),W.nbs n xs=true→W.nbs m ys=true→(PyData.eqvAll (W.pds xs) (W.pds ys)=true↔xs=ys)
  | _,[],[],_,_,_=> by simp [W.pds,PyData.eqvAll]
  | _,[],_::_,_,_,_=> by simp [W.pds,PyData.eqvAll]
  | _,_::_,[],_,_,_=> by simp [W.pds,PyData.eqvAll]
  | n,x::xs,y::ys,m,h,g=> by
    simp only [W.nbs,Bool.and_eq_true] at h g
    have z1:=eqw_nb n x y m h.1 g.1
    have z2:=eqws_nb n xs ys m h.2 g.2
    simp only [W.pds,PyData.eqvAll,Bool.and_eq_true]
    rw [z2,show PyData.eqv x.pd y.pd=N3 x y from rfl,z1]
    simp
end
def SV.pl (x:SV):Prop:=match x with
  | .val w=> w.plain
  | .own c=> c.fz.plain
theorem A9o {w:W} (h:w.plain) (k:AH):viewW k w= .wv w:=by
  obtain ⟨n,_,h⟩:=h
  cases w with
  | ref a=> simp [W.nb] at h
  | _=> rfl
theorem k8 {x:SV} (h:x.pl) (k:AH):(K3 k x).toW=x.fz∧K3 k x≠ .bad∧x.fz.plain:=by
  cases x with
  | val w=>
    have h:w.plain:=h
    refine ⟨by show (viewW k w).toW=w;rw [A9o h];rfl,by show viewW k w≠ .bad;rw [A9o h];exact (fun z=> nomatch z),h⟩
  | own c=> exact ⟨rfl,(fun z=> nomatch z),h⟩
theorem C08 {w:W} (h:w.plain):w.dat 60=true:=by
  obtain ⟨n,hn,h⟩:=h
  exact A3l hn (A3m h)
theorem A5U {x:SV} (h:x.pl) (k:AH):(K3 k x).ok=true:=by
  obtain ⟨a,b,c⟩:=k8 h k
  have d:=C08 c
  cases e:K3 k x with
  | bad=> exact absurd e b
  | wv w=> rw [e] at a;show w.dat 60=true;rw [show w=x.fz from a];exact d
  | cv w=> rw [e] at a;show w.fz.dat 60=true;rw [show w.fz=x.fz from a];exact d
theorem A6W {x y:SV} {neg:Bool} {k:SV→MC} (hx:x.pl) (hy:y.pl):D4 (D6 neg) x y k=k (.val (.bl (if neg=true then !N3 x.fz y.fz else N3 x.fz y.fz))):=by
  funext h Q E
  unfold D4 D6
  rw [(k8 hx h).1,(k8 hy h).1]
  refine propext ⟨fun z=> z.2.2,fun z=> ⟨A5U hx h,A5U hy h,z⟩⟩
noncomputable instance:DecidableEq W:=fun _ _=> Classical.propDecidable _
theorem sp {w:W} (h:w.plain):SV.pl (.val w):=h
theorem so {c:Cont} (h:c.fz.plain):SV.pl (.own c):=h
theorem Y2 {x y:SV} {k:Bool→MC} (hx:x.pl) (hy:y.pl):(D4 (D6 false) x y fun r=> T3 r k)=k (decide (x.fz=y.fz)):=by
  rw [A6W hx hy]
  obtain ⟨_,_,n,_,hn⟩:=k8 hx (fun _=> none)
  obtain ⟨_,_,m,_,hm⟩:=k8 hy (fun _=> none)
  have z:=eqw_nb n x.fz y.fz m hn hm
  have:N3 x.fz y.fz=decide (x.fz=y.fz):=by
    by_cases q:x.fz=y.fz
    · rw [z.mpr q,decide_eq_true q]
    · have q':=mt z.mp q
      rw [decide_eq_false q]
      simpa using q'
  rw [this]
  rfl
theorem A6L {x y:SV} {k:Bool→MC} (hx:x.pl) (hy:y.pl):(D4 (D6 true) x y fun r=> T3 r k)=k (!decide (x.fz=y.fz)):=by
  have z:=Y2 (k:=fun b=> k (!b)) hx hy
  rw [A6W hx hy] at z ⊢
  simp only [Bool.false_eq_true,if_false,if_true] at z ⊢
  exact z
theorem A7o {x:W} (hx:∃n,x.nb n=true):∀{xs:List W},(∀y∈xs,∃n,y.nb n=true)→p8 x xs=decide (x∈xs)
  | [],_=> by simp [p8]
  | y::ys,h=> by
    obtain ⟨n,hn⟩:=hx
    obtain ⟨m,hm⟩:=h y (by simp)
    have z:=eqw_nb m y x n hm hn
    rw [C1E,A7o ⟨n,hn⟩ fun z hz=> h z (by simp [hz])]
    by_cases q:y=x
    · rw [z.mpr q];simp [q]
    · have q':N3 y x=false:=by simpa using mt z.mp q
      have q2:¬x=y:=fun e=> q e.symm
      rw [q'];simp [q2]
theorem A92 {w:W} (h:w.plain):∃n,w.nb n=true:=let ⟨n,_,q⟩:=h;⟨n,q⟩
theorem A81 {x:SV} {y:SV} {xs:List W} {k:Bool→MC} (hx:x.pl) (hy:∀h,(K3 h y).items=some xs) (hp:∀z∈xs,z.nb 59=true):(D4 (O7 false) x y fun r=> T3 r k)=k (decide (x.fz∈xs)):=by
  funext h Q E
  unfold D4
  rw [B1S,hy h]
  have hd:xs.all (W.dat 60)=true:=by
    rw [List.all_eq_true]
    exact fun z hz=> A3l (by omega) (A3m (hp z hz))
  have e:p8 (K3 h x).toW xs=decide (x.fz∈xs):=by
    rw [(k8 hx h).1]
    exact A7o (A92 (k8 hx h).2.2) fun z hz=> ⟨59,hp z hz⟩
  show (_∧_∧_)=_
  rw [e]
  refine propext ⟨fun z=> z.2.2,fun z=> ⟨A5U hx h,hd,z⟩⟩
theorem C6C {x:SV} {y:SV} {xs:List W} {k:Bool→MC} (hx:x.pl) (hy:∀h,(K3 h y).items=some xs) (hp:∀z∈xs,z.nb 59=true):(D4 (O7 true) x y fun r=> T3 r k)=k (!decide (x.fz∈xs)):=by
  funext h Q E
  unfold D4
  rw [B1S,hy h]
  have hd:xs.all (W.dat 60)=true:=by
    rw [List.all_eq_true]
    exact fun z hz=> A3l (by omega) (A3m (hp z hz))
  have e:p8 (K3 h x).toW xs=decide (x.fz∈xs):=by
    rw [(k8 hx h).1]
    exact A7o (A92 (k8 hx h).2.2) fun z hz=> ⟨59,hp z hz⟩
  show (_∧_∧_)=_
  rw [e]
  refine propext ⟨fun z=> z.2.2,fun z=> ⟨A5U hx h,hd,z⟩⟩
theorem C4k {x:W} {k:Bool→MC} (hx:x.plain):(D4 (N5 true) (.val x) (.val .non) fun r=> T3 r k)=k (!decide (x= .non)):=by
  funext h Q E
  show N5 true (viewW h x) (.wv .non) _=_
  rw [A9o hx,B6z]
  have:(Vw.wv x).isNon=decide (x= .non):=by
    cases x <;> simp [Vw.isNon]
  rw [this]
  refine propext ⟨fun z=> z.2,fun z=> ⟨(fun e=> nomatch e),z⟩⟩
theorem A8r {x y:SV} {k:SV→MC} (hx:x.pl) (hy:y.pl):D4 (D6 false) x y k=k (.val (.bl (decide (x.fz=y.fz)))):=by
  rw [A6W hx hy]
  obtain ⟨_,_,n,_,hn⟩:=k8 hx (fun _=> none)
  obtain ⟨_,_,m,_,hm⟩:=k8 hy (fun _=> none)
  have z:=eqw_nb n x.fz y.fz m hn hm
  have:N3 x.fz y.fz=decide (x.fz=y.fz):=by
    by_cases q:x.fz=y.fz
    · rw [z.mpr q,decide_eq_true q]
    · have q':=mt z.mp q
      rw [decide_eq_false q]
      simpa using q'
  rw [this]
  rfl
theorem B1Q {x y:SV} {k:SV→MC} (hx:x.pl) (hy:y.pl):D4 (D6 true) x y k=k (.val (.bl (!decide (x.fz=y.fz)))):=by
  have z:=A8r (k:=fun r=> match r with
    | .val (.bl b)=> k (.val (.bl (!b)))
    | _=> bad) hx hy
  rw [A6W hx hy] at z ⊢
  exact z
theorem A3V {p q:Prop} [Decidable p] [Decidable q] (h:p↔q):decide p=decide q:=decide_eq_decide.mpr h
section
variable {k:SV→MC} {i j:Int} {a b:Str} {as bs:List Int} {xs:List W}
@[simp] theorem A8Y:D4 (D6 false) (.val (.int i)) (.val (.int j)) k=k (.val (.bl (decide (i=j)))):=by
  rw [A8r (sp S9) (sp S9),A3V (q:=i=j) (by simp)]
@[simp] theorem A3C:D4 (D6 true) (.val (.int i)) (.val (.int j)) k=k (.val (.bl (!decide (i=j)))):=by
  rw [B1Q (sp S9) (sp S9),A3V (q:=i=j) (by simp)]
@[simp] theorem A8K:D4 (D6 false) (.val (.str a)) (.val (.str b)) k=k (.val (.bl (decide (a=b)))):=by
  rw [A8r (sp O4) (sp O4),A3V (q:=a=b) (by simp)]
@[simp] theorem C8r:D4 (D6 true) (.val (.str a)) (.val (.str b)) k=k (.val (.bl (!decide (a=b)))):=by
  rw [B1Q (sp O4) (sp O4),A3V (q:=a=b) (by simp)]
theorem B4v:W.tup (as.map W.int)=W.tup (bs.map W.int)↔as=bs:=⟨fun e=> by injection e with e;exact B0d e,fun e=> by rw [e]⟩
@[simp] theorem C9e:D4 (D6 false) (.val (.tup (as.map W.int))) (.val (.tup (bs.map W.int))) k=k (.val (.bl (decide (as=bs)))):=by
  rw [A8r (sp A70) (sp A70),C2,C2,A3V (q:=as=bs) B4v]
@[simp] theorem C9P:D4 (D6 true) (.val (.tup (as.map W.int))) (.val (.tup (bs.map W.int))) k=k (.val (.bl (!decide (as=bs)))):=by
  rw [B1Q (sp A70) (sp A70),C2,C2,A3V (q:=as=bs) B4v]
theorem y7 {w:W} {neg:Bool} (hv:∀h,viewW h w= .wv w):D4 (N5 neg) (.val w) (.val .non) k=k (.val (.bl (if neg then !(Vw.wv w).isNon else (Vw.wv w).isNon))):=by
  funext h Q E
  show N5 neg (viewW h w) (.wv .non) _=_
  rw [hv,B6z]
  refine propext ⟨fun z=> z.2,fun z=> ⟨(fun e=> nomatch e),z⟩⟩
@[simp] theorem B5n:D4 (N5 false) (.val .non) (.val .non) k=k (.val (.bl true)):=y7 (fun _=> rfl)
@[simp] theorem B5Z:D4 (N5 false) (.val (.int i)) (.val .non) k=k (.val (.bl false)):=y7 (fun _=> rfl)
@[simp] theorem B5U:D4 (N5 false) (.val (.str a)) (.val .non) k=k (.val (.bl false)):=y7 (fun _=> rfl)
@[simp] theorem C3B:D4 (N5 false) (.val (.tup xs)) (.val .non) k=k (.val (.bl false)):=y7 (fun _=> rfl)
@[simp] theorem B0N:D4 (N5 false) (.val (.lst xs)) (.val .non) k=k (.val (.bl false)):=y7 (fun _=> rfl)
@[simp] theorem A94:D4 (N5 true) (.val .non) (.val .non) k=k (.val (.bl false)):=y7 (fun _=> rfl)
@[simp] theorem B42:D4 (N5 true) (.val (.int i)) (.val .non) k=k (.val (.bl true)):=y7 (fun _=> rfl)
@[simp] theorem C7v:D4 (N5 true) (.val (.str a)) (.val .non) k=k (.val (.bl true)):=y7 (fun _=> rfl)
@[simp] theorem C7t:D4 (N5 true) (.val (.tup xs)) (.val .non) k=k (.val (.bl true)):=y7 (fun _=> rfl)
@[simp] theorem C7n:D4 (N5 true) (.val (.lst xs)) (.val .non) k=k (.val (.bl true)):=y7 (fun _=> rfl)
end
end Ab
namespace Ab
open PySem PySem.Spec PyProof.Rows L2 RZ
abbrev CL:=(Addr→List W→MC)→MC
def B1o (mw:D5):CL:=fun k h Q E=> ∀f:Addr,mw (fun ws=> k f (.ref f::ws)) h Q E
def C6H (a:CW) (u:CL):CL:=fun k=> a fun w=> u fun f ws=> k f (w::ws)
def A83 (b:CE):List W→MC
  | []=> b ret
  | _=> bad
def C6u (b:W→CE):List W→MC
  | [w]=> b w ret
  | _=> bad
def A96 (m:Addr→List W→MC) (l:CL):CE:=fun k=> l fun f ws=> call (m f ws) k
section
variable {Q:RR→AH→Prop} {E:AExc→AH→Prop} {env:A0} {h:AH} {k:SV→MC}
@[simp] theorem C1A {m:Addr→List W→MC} {l:CL}:A96 m l k=l fun f ws=> call (m f ws) k:=rfl
@[simp] theorem C8X {a:CW} {u:CL} {k:Addr→List W→MC}:C6H a u k=a fun w=> u fun f ws=> k f (w::ws):=rfl
@[simp] theorem B4s {b:CE}:A83 b []=b ret:=rfl
@[simp] theorem C7u {b:W→CE} {w:W}:C6u b [w]=b w ret:=rfl
def SL (Q:RR→AH→Prop) (E:AExc→AH→Prop) (env:A0) (t:ALT) (m:CL):Prop:=∀h (k:Addr→List W→MC) (K:Addr→List W→A0→AH→Prop),(∀f ws h',k f ws h' Q E→K f ws env h')→m k h Q E→t env h K
theorem C3j {ta:G2} {ma:D5} (a:SA Q E env ta ma):SL Q E env (A7q ta) (B1o ma):=fun h k K hk z f=> a h _ _ (fun ws h1 y=> hk _ _ _ y) (z f)
theorem C5j {E':AExc→A0→AH→Prop} {i:Nat} {f:Addr} {sp:G1} {ML:List W→MC} {ta:G2} {ma:D5} (hE:∀x h,E x h→E' x env h) (hs:∀ws h Q E,upc ML ws h Q E→sp ws h Q E) (e:env[i]? =some (some (.val (.ref f)))) (a:SA Q E env ta ma):SN Q E env (B1y E' i f sp ta) (G3 ML ma):=fun h k K hk z=>
  ⟨e,a h _ _ (fun ws h1 z=> hs _ _ _ _ (B5q hk hE z)) z⟩
theorem C0m {E':AExc→A0→AH→Prop} {n m:Nat} {tc:Addr→G1→(AExc→A0→AH→Prop)→C0} {tb:(AExc→A0→AH→Prop)→AT} {tl:ALT} {ml:CL} {mm:Addr→List W→MC} {ML:List W→MC} (hE:∀x h,E x h→E' x env h)
    (hz:∀(f:Addr) (sp:G1),(∀ws h Q E,upc ML ws h Q E→sp ws h Q E)→∀ws h Qa Ea,ws.length=n→upc (mm f) ws h Qa Ea→tc f sp (C4 Ea) (B6 Qa) (G8 m ws) h)
    (hb:∀ws h Q E,upc ML ws h Q E→A3y tb env ws h Q E) (a:SL Q E env tl ml):SN Q E env (A97 E' n m tc tb tl) (A96 mm ml):=fun h k K hk z=>
  a h _ _ (fun f ws h1 z=> ⟨fun r h2=> k r.sv h2 Q E,E,fun r h2 z=> by cases r <;> exact hk _ _ z,fun x h2 z=> hE x h2 z,fun l=> hz f _ hb _ _ _ _ l ⟨_,_,fun _ _ z=> z,fun _ _ z=> z,z⟩⟩) z
theorem C3k {tb:(AExc→A0→AH→Prop)→AT} {b:CE} (s:∀(Q:RR→AH→Prop) (E:AExc→AH→Prop) (E':AExc→A0→AH→Prop),(∀env x h,E x h→E' x env h)→SE Q E (A2p env []) (tb E') b):∀ws h Q E,upc (A83 b) ws h Q E→A3y tb env ws h Q E:=fun ws h Qa Ea ⟨Q0,E0,hQ,hE,z⟩=> by
  match ws with
  | []=> exact ⟨C4 Ea,fun _ _ _ z=> z,s Q0 E0 (C4 Ea) (M8 hE) h ret _ (fun r x h' rl q=> M7 hQ r x _ h' rl q) z⟩
  | _::_=> exact z.elim
def y0 (x word:Str) (fs:List Str) (ma:D5):MC:=ma fun ws=> A28 ⟨x,initF (W.str word) fs ws⟩
@[simp] theorem A1w {x word:Str} {fs:List Str} {ma:D5}:y0 x word fs ma=ma fun ws=> A28 ⟨x,initF (W.str word) fs ws⟩:=rfl
theorem A04 {E':AExc→A0→AH→Prop} {D:AEnds} {x word:Str} {fs:List Str} {ta:G2} {ma:D5} (hE:∀x h,E x h→E' x env h) (a:SA Q E env ta ma):∀h,y0 x word fs ma h Q E→u2 E' x word fs ta D env h:=fun h z=>
  a h (fun ws=> A28 ⟨x,initF (W.str word) fs ws⟩) (fun ws env1 h1=> E' ⟨x,initF (W.str word) fs ws⟩ env1 h1) (fun ws h1 y=> hE _ _ y) z
def A2B (ks:List Str):List (Str×XT)→(W→MC)→AExc→MC
  | [],_,x=> A28 x
  | (c,sv)::r,k,x=> fun h Q E=> x.n∈ks∧if g7 x.n c=true then sv x (fun w=> k w h Q E) else A2B ks r k x h Q E
def B1z (b:(W→MC)→MC) (k:W→MC) (hd:(W→MC)→AExc→MC):MC:=fun h Q E=> b (fun s h' _ _=> k s h' Q E) h Q fun x h'=> hd k x h' Q E
inductive MonoL2:List (Str×XT)→Prop where
  | nil:MonoL2 []
  | cons {c:Str} {sv:XT} {l:List (Str×XT)} (m:B1s sv) (t:MonoL2 l):MonoL2 ((c,sv)::l)
theorem A8B {f:Str}:B1s (j5 f):=fun x K K' k ⟨w,e,q⟩=> ⟨w,e,k _ q⟩
theorem B0C {E':AExc→A0→AH→Prop} {D:AEnds} {ks:List Str} {i j:Nat} {k:W→MC} (hi:i < env.length) (N:∀w h,k w h Q E→D.nx ((env.set j (some (.val w))).set i none) h) (hE:∀x h,E x h→E' x env h):
    ∀{l:List (Str×XT)},MonoL2 l→∀x h,A2B ks l k x h Q E→A16 ks (l.map fun p=> (p.1,i,j,p.2)) E' D x env h
  | _,.nil,x,h,z=> hE x h z
  | _,.cons m t,x,h,z=> by
    obtain ⟨z1,z2⟩:=z
    refine ⟨z1,hi,?_⟩
    split at z2
    · rename_i b
      rw [if_pos b]
      exact m x _ _ (fun w y=> N w h y) z2
    · rename_i b
      rw [if_neg b]
      exact B0C hi N hE t x h z2
theorem C4z {E':AExc→A0→AH→Prop} {D:AEnds} {ks:List Str} {i j:Nat} {k:W→MC} {b:(W→MC)→MC} {l:List (Str×XT)} {t:(AExc→A0→AH→Prop)→C0} (no:A58 env=true) (hi:i < env.length) (ml:MonoL2 l) (hE:∀x h,E x h→E' x env h)
    (N:∀w h,k w h Q E→D.nx ((env.set j (some (.val w))).set i none) h)
    (hb:∀(E2:AExc→AH→Prop) (Ein:AExc→A0→AH→Prop) (hz:∀x h,E2 x h→Ein x env h) (kk:W→MC),(∀w h,kk w h Q E2→D.nx ((env.set j (some (.val w))).set i none) h)→∀h,b kk h Q E2→t Ein D env h):
    ∀h,B1z b k (A2B ks l) h Q E→A6T ks (l.map fun p=> (p.1,i,j,p.2)) E' t D env h:=fun h z=>
  ⟨no,fun x e g=> A16 ks (l.map fun p=> (p.1,i,j,p.2)) E' D x e g,fun _ _ _ y=> y,hb (fun x h'=> A2B ks l k x h' Q E) _ (fun x h' y=> B0C hi N hE ml x h' y) (fun s h' _ _=> k s h' Q E) (fun w h' y=> N w h' y) h z⟩
def B1P (b:(W→MC)→MC) (k0 k:W→MC) (hd:(W→MC)→AExc→MC):MC:=fun h Q E=> b (fun s h' _ _=> k0 s h' Q E) h Q fun x h'=> hd k x h' Q E
theorem C4H {E':AExc→A0→AH→Prop} {D:AEnds} {ks:List Str} {i j:Nat} {envB:W→A0} {k0 k:W→MC} {b:(W→MC)→MC} {l:List (Str×XT)} {t:(AExc→A0→AH→Prop)→C0} (no:A58 env=true) (hi:i < env.length) (ml:MonoL2 l) (hE:∀x h,E x h→E' x env h)
    (N0:∀w h,k0 w h Q E→D.nx (envB w) h) (N:∀w h,k w h Q E→D.nx ((env.set j (some (.val w))).set i none) h)
    (hb:∀(E2:AExc→AH→Prop) (Ein:AExc→A0→AH→Prop) (hz:∀x h,E2 x h→Ein x env h) (kk:W→MC),(∀w h,kk w h Q E2→D.nx (envB w) h)→∀h,b kk h Q E2→t Ein D env h):
    ∀h,B1P b k0 k (A2B ks l) h Q E→A6T ks (l.map fun p=> (p.1,i,j,p.2)) E' t D env h:=fun h z=>
  ⟨no,fun x e g=> A16 ks (l.map fun p=> (p.1,i,j,p.2)) E' D x e g,fun _ _ _ y=> y,hb (fun x h'=> A2B ks l k x h' Q E) _ (fun x h' y=> B0C hi N hE ml x h' y) (fun s h' _ _=> k0 s h' Q E) (fun w h' y=> N0 w h' y) h z⟩
end
end Ab
namespace Ab
open PySem PySem.Spec PyProof.Rows L2 RZ
section
variable {Q:RR→AH→Prop} {E:AExc→AH→Prop} {env:A0} {D:AEnds}
end
def getT (x:SV) (w:W) (k:SV→MC):MC:=fun h Q E=> ∃(l:List (List Int×W)) (ns:List Int) (v:W),x= .own (.map (A35 l))∧w= .tup (ns.map .int)∧A6D l ns=some v∧k (.val v) h Q E
section
variable {Q:RR→AH→Prop} {E:AExc→AH→Prop} {env:A0} {D:AEnds} {k:SV→MC} {h:AH}
end
end Ab
namespace Ab
open PySem PySem.Spec PyProof.Rows L2 RZ
def C51:M5:=oII B6r fun i j=> .int (i ^ j.toNat)
section
variable {i j:Int} {k:SV→MC}
@[simp] theorem C9K:D4 C51 (.val (.int i)) (.val (.int j)) k=J9 (B6r i j) (k (.val (.int (i ^ j.toNat)))):=rfl
end
def idx (x:SV) (ws:List W) (k:SV→MC):MC:=fun h Q E=> oIndexW (K3 h x) ws fun r=> g9 k r h Q E
def A8w (x:SV) (m:MC):MC:=fun h Q E=> (∃ns:List Int,(K3 h x).seq=some (ns.map W.int))∧m h Q E
def C7I (a:CE) (ma:D5):CE:=fun k=> a fun x=> A8w x (ma fun ws=> idx x ws k)
section
variable {Q:RR→AH→Prop} {E:AExc→AH→Prop} {env:A0} {t:AT} {m:CE} {ta:G2} {ma:D5} {k:SV→MC} {ns:List Int} {x:Int}
@[simp] theorem C9R {a:CE}:C7I a ma k=a fun x=> A8w x (ma fun ws=> idx x ws k):=rfl
@[simp] theorem C7w {m:MC}:A8w (.own (.seq (ns.map W.int))) m=m:=by
  funext h Q E
  exact propext ⟨fun z=> z.2,fun z=> ⟨⟨ns,rfl⟩,z⟩⟩
@[simp] theorem C7q {m:MC}:A8w (.val (.lst (ns.map W.int))) m=m:=by
  funext h Q E
  exact propext ⟨fun z=> z.2,fun z=> ⟨⟨ns,rfl⟩,z⟩⟩
end
def mix (n0 m0:Nat) (perm:List Nat) (ds us ws:List W) (k:List W→MC):MC:=J9 (us.length=n0∧ws.length=m0) (k (perm.map fun i=> (us++(ws++ds)).getD i .non))
def wMx (n0 m0:Nat) (perm:List Nat) (ds:List W) (a b:D5):D5:=fun k=> a fun us=> b fun ws=> mix n0 m0 perm ds us ws k
@[simp] theorem C9Z {n0 m0:Nat} {perm:List Nat} {ds:List W} {a b:D5} {k:List W→MC}:wMx n0 m0 perm ds a b k=a fun us=> b fun ws=> mix n0 m0 perm ds us ws k:=rfl
theorem A3u {n0 m0:Nat} {perm:List Nat} {ds us ws:List W} {k:List W→MC} (h:us.length=n0∧ws.length=m0):mix n0 m0 perm ds us ws k=k (perm.map fun i=> (us++(ws++ds)).getD i .non):=F3 h
section
variable {Q:RR→AH→Prop} {E:AExc→AH→Prop} {env:A0} {ta tb:G2} {ma mb:D5}
end
theorem B5b {neg x y:Bool} {k:SV→MC}:D4 (B1x neg) (.val (.bl x)) (.val (.bl y)) k=k (.val (.bl (if neg then !decide (x=y) else decide (x=y)))):=by
  funext h Q E
  refine propext ⟨fun ⟨u,v,e1,e2,q⟩=> ?_,fun q=> ⟨x,y,rfl,rfl,q⟩⟩
  cases e1
  cases e2
  exact q
@[simp] theorem C9b {x y:Bool} {k:SV→MC}:D4 (B1x false) (.val (.bl x)) (.val (.bl y)) k=k (.val (.bl (decide (x=y)))):=B5b
@[simp] theorem C9J {x y:Bool} {k:SV→MC}:D4 (B1x true) (.val (.bl x)) (.val (.bl y)) k=k (.val (.bl (!decide (x=y)))):=B5b
section
variable {a b c d e f x:W} {k:List W→MC}
@[simp] theorem C83:mix 3 2 [0,1,2,3,4] [] [a,b,c] [d,e] k=k [a,b,c,d,e]:=by rw [A3u (by exact ⟨rfl,rfl⟩)];rfl
@[simp] theorem C79:mix 3 2 [0,1,2,4,3] [] [a,b,c] [d,e] k=k [a,b,c,e,d]:=by rw [A3u (by exact ⟨rfl,rfl⟩)];rfl
@[simp] theorem C8y:mix 0 5 [4,3,2,1,0] [] [] [a,b,c,d,e] k=k [e,d,c,b,a]:=by rw [A3u (by exact ⟨rfl,rfl⟩)];rfl
@[simp] theorem C9M:mix 3 1 [0,1,2,3,4] [x] [a,b,c] [d] k=k [a,b,c,d,x]:=by rw [A3u (by exact ⟨rfl,rfl⟩)];rfl
@[simp] theorem C8u:mix 4 2 [0,1,2,3,4,5] [] [a,b,c,d] [e,f] k=k [a,b,c,d,e,f]:=by rw [A3u (by exact ⟨rfl,rfl⟩)];rfl
@[simp] theorem C78:mix 0 5 [4,3,2,1,0,5] [x] [] [a,b,c,d,e] k=k [e,d,c,b,a,x]:=by rw [A3u (by exact ⟨rfl,rfl⟩)];rfl
end
theorem C6X {x:SV} {y:SV} {xs:List W} {k:SV→MC} (hx:x.pl) (hy:∀h,(K3 h y).items=some xs) (hp:∀z∈xs,z.nb 59=true):D4 (O7 false) x y k=k (.val (.bl (decide (x.fz∈xs)))):=by
  funext h Q E
  unfold D4
  rw [B1S,hy h]
  have hd:xs.all (W.dat 60)=true:=by
    rw [List.all_eq_true]
    exact fun z hz=> A3l (by omega) (A3m (hp z hz))
  have e:p8 (K3 h x).toW xs=decide (x.fz∈xs):=by
    rw [(k8 hx h).1]
    exact A7o (A92 (k8 hx h).2.2) fun z hz=> ⟨59,hp z hz⟩
  show (_∧_∧_)=_
  rw [e]
  refine propext ⟨fun z=> z.2.2,fun z=> ⟨A5U hx h,hd,z⟩⟩
def A85 (x:SV) (k:SV→MC):MC:=fun h Q E=> ∃xs,(K3 h x).seq=some xs∧k (.own (.seq xs.reverse)) h Q E
def C6B (a:CE):CE:=fun k=> a fun x=> A85 x k
section
variable {Q:RR→AH→Prop} {E:AExc→AH→Prop} {env:A0} {t:AT} {m:CE} {k:SV→MC} {xs:List W}
@[simp] theorem C9O {a:CE}:C6B a k=a fun x=> A85 x k:=rfl
@[simp] theorem C7k:A85 (.own (.seq xs)) k=k (.own (.seq xs.reverse)):=by
  funext h Q E
  exact propext ⟨fun ⟨ys,e,z⟩=> by cases e;exact z,fun z=> ⟨xs,rfl,z⟩⟩
@[simp] theorem C7i:A85 (.val (.lst xs)) k=k (.own (.seq xs.reverse)):=by
  funext h Q E
  exact propext ⟨fun ⟨ys,e,z⟩=> by cases e;exact z,fun z=> ⟨xs,rfl,z⟩⟩
end
end Ab
namespace Ab
open PySem PySem.Spec PyProof.Rows L2 RZ
def B6R (w:W) (k:SV→MC):MC:=fun h Q E=> oLenSet [.wv w] fun r=> g9 k r h Q E
def C37 (mk:CW):CE:=fun k=> mk fun w=> B6R w k
section
variable {Q:RR→AH→Prop} {E:AExc→AH→Prop} {env:A0} {t:D3} {mk:CW} {k:SV→MC} {ns:List Int} {h:AH}
@[simp] theorem C7f:C37 mk k=mk fun w=> B6R w k:=rfl
end
def pr3 (ws:List W) (k:W→W→W→MC):MC:=match ws with
  | [a,b,c]=> k a b c
  | _=> bad
def C6i (ma:D5) (k:W→W→W→MC):MC:=ma fun ws=> pr3 ws k
@[simp] theorem C75 {a:D5} {k:W→W→W→MC}:C6i a k=a fun ws=> pr3 ws k:=rfl
@[simp] theorem C9i {x y z:W} {k:W→W→W→MC}:pr3 [x,y,z] k=k x y z:=rfl
end Ab
namespace Ab
open PySem PySem.Spec PyProof.Rows L2 RZ
def A1T (n f:Str) (x:SV) (k:SV→MC):MC:=fun h Q E=> match x with
  | .val (.ref a)=> ∃fs w,h a=some (.ins n fs)∧fs.lookup f=some w∧k (.val w) h Q E
  | _=> False
def W6 (n f:Str) (m:CE):CE:=fun k=> m fun x=> A1T n f x k
def A0E (n f:Str) (x:SV) (w:W) (k:MC):MC:=fun h Q E=> match x with
  | .val (.ref a)=> ∃fs,h a=some (.ins n fs)∧fs.length < 1000∧k (B9 h a (.ins n (v5 f w fs))) Q E
  | _=> False
def A6F (n f:Str) (mv:CW) (m:CE) (k:MC):MC:=mv fun w=> m fun x=> A0E n f x w k
def C69 (n f:Str) (mv:CW) (m:W→CE) (k:W→MC):MC:=mv fun w=> un2 w fun a b=> m a fun x=> A0E n f x b (k a)
def ffC (n f n2 g:Str) (mv:CW) (m m2:CE) (k:MC):MC:=mv fun w=> un2 w fun a b=> m fun x=> A0E n f x a (m2 fun y=> A0E n2 g y b k)
def Y3 (C nm:Str) (x:SV) (k:Addr→MC):MC:=fun h Q E=> match x with
  | .val (.ref a)=> (∃fs,h a=some (.ins C fs)∧fs.lookup nm=none)∧k a h Q E
  | _=> False
def d9 (C nm:Str) (f:List W→MC) (mo:CE) (ma:D5):CE:=fun k=> mo fun x=> Y3 C nm x fun a=> ma fun ws=> call (f (.ref a::ws)) k
def C5O (C nm:Str) (f:List W→MC) (mo:CE) (ma:D5):CE:=fun k=> mo fun x=> Y3 C nm x fun a=> ma fun ws=> call0 (f (.ref a::ws)) k
def mxW (n0 m0:Nat) (P:List Nat) (ds us zs:List W) (k:List W→MC):MC:=J9 (us.length=n0∧zs.length=m0) (k (P.map fun i=> (us++(zs++ds)).getD i .non))
def A8M (C nm:Str) (f:List W→MC) (n0 m0:Nat) (P:List Nat) (ds:List W) (mo:CE) (ma mk:D5):CE:=fun k=> mo fun x=> Y3 C nm x fun a=> ma fun ws=> mk fun zs=> mxW (n0+1) m0 P ds (.ref a::ws) zs fun vs=> call (f vs) k
def C3v (C nm:Str) (f:List W→MC) (n0 m0:Nat) (P:List Nat) (ds:List W) (mo:CE) (ma mk:D5):CE:=fun k=> mo fun x=> Y3 C nm x fun a=> ma fun ws=> mk fun zs=> mxW (n0+1) m0 P ds (.ref a::ws) zs fun vs=> call0 (f vs) k
def mkX (C:Str) (f:Addr→MC) (k:SV→MC):MC:=fun h Q E=> ∀a,h a=none→f a (B9 h a (.ins C [])) (fun r h2=> r= .val .non∧k (.val (.ref a)) h2 Q E) E
def A87 (C:Str) (f:Addr→MC) (k:SV→MC):MC:=fun h Q E=> ∀a,h a=none→f a (B9 h a (.ins C [])) (fun r h2=> r= .val .non∧k (.val (.ref a)) h2 Q E) fun _ _=> False
def B1n (C:Str) (f:List W→MC) (ma:D5):CE:=fun k=> ma fun ws=> mkX C (fun a=> f (.ref a::ws)) k
def C5h (C:Str) (f:List W→MC) (ma:D5):CE:=fun k=> ma fun ws=> A87 C (fun a=> f (.ref a::ws)) k
def C5Z (C:Str) (f:List W→MC) (n0 m0:Nat) (P:List Nat) (ds:List W) (ma mk:D5):CE:=fun k=> ma fun ws=> mk fun zs=> J9 (ws.length=n0∧zs.length=m0) (mkX C (fun a=> f (P.map fun i=> ((.ref a::ws)++(zs++ds)).getD i .non)) k)
def C32 (C:Str) (f:List W→MC) (n0 m0:Nat) (P:List Nat) (ds:List W) (ma mk:D5):CE:=fun k=> ma fun ws=> mk fun zs=> J9 (ws.length=n0∧zs.length=m0) (A87 C (fun a=> f (P.map fun i=> ((.ref a::ws)++(zs++ds)).getD i .non)) k)
def B1u (C:Str) (f:List W→MC) (po:RR→(RV→Prop)→Prop) (x:SV) (k:SV→MC):MC:=fun h Q E=> match x with
  | .val (.ref a)=> ∃fs,h a=some (.ins C fs)∧f [.ref a] h (fun r h2=> po r fun y=> g9 k y h2 Q E) fun _ _=> False
  | _=> False
def A88 (C:Str) (f:List W→MC) (po:RR→(RV→Prop)→Prop) (m:CE):CE:=fun k=> m fun x=> B1u C f po x k
def eqX (C:Str) (neg:Bool) (f:List W→MC) (x y:SV) (k:SV→MC):MC:=fun h Q E=> match x,y with
  | .val (.ref a),.val (.ref b)=> (∃fs gs,h a=some (.ins C fs)∧h b=some (.ins C gs))∧f [.ref a,.ref b] h (fun r h2=> ∃c:Bool,r= .val (.bl c)∧k (.val (.bl (if neg=true then !c else c))) h2 Q E) fun _ _=> False
  | _,_=> False
def C62 (C:Str) (neg:Bool) (f:List W→MC) (m m2:CE):CE:=fun k=> m fun x=> m2 fun y=> eqX C neg f x y k
def B7Q (n:Str) (b:Bool) (x:SV) (k:SV→MC):MC:=fun h Q E=> match x with
  | .val (.ref a)=> (∃fs,h a=some (.ins n fs))∧k (.val (.bl b)) h Q E
  | _=> False
def C67 (n:Str) (b:Bool) (m:CE):CE:=fun k=> m fun x=> B7Q n b x k
def inX (neg:Bool) (w:W) (x:SV) (k:SV→MC):MC:=fun h Q E=> inM neg (K3 h x) w fun r=> g9 k r h Q E
def A38 (neg:Bool) (mk:CW) (m:CE):CE:=fun k=> mk fun w=> m fun x=> inX neg w x k
def A26 (x:SV) (w:W) (k:SV→MC):MC:=fun h Q E=> A6P (K3 h x) w fun r=> g9 k r h Q E
def A0u (m:CE) (mk:CW):CE:=fun k=> m fun x=> mk fun w=> A26 x w k
def A36 (x:SV) (w v:W) (k:SV→MC):MC:=fun h Q E=> match x with
  | .own (.map kvs)=> ∃l s,kvs=smap l∧w= .str s∧l.length < sizeLine∧k (.own (.map (smap (Q9 l s v)))) h Q E
  | .val (.ref a)=> ∃l s,h a=some (.cont (.map (smap l)))∧w= .str s∧l.length < sizeLine∧k (.val (.ref a)) (B9 h a (.cont (.map (smap (Q9 l s v))))) Q E
  | _=> False
def C6a (mv:CW) (x:SV) (mk:CW) (k:SV→MC):MC:=mv fun v=> mk fun w=> A36 x w v k
def f8 (x:SV) (w v:W) (k:MC):MC:=fun h Q E=> match x with
  | .val (.ref a)=> ∃l s,h a=some (.cont (.map (smap l)))∧w= .str s∧l.length < sizeLine∧k (B9 h a (.cont (.map (smap (Q9 l s v))))) Q E
  | _=> False
def A8l (mv:CW) (m:CE) (mk:CW) (k:MC):MC:=mv fun v=> m fun x=> mk fun w=> f8 x w v k
def A6V (x:SV) (w:W) (k:MC):MC:=fun h Q E=> match x with
  | .val (.ref a)=> ∃l s,h a=some (.cont (.map (smap l)))∧w= .str s∧(l.lookup s).isSome=true∧k (B9 h a (.cont (.map (smap (W4 l s))))) Q E
  | _=> False
def A8X (m:CE) (mk:CW) (k:MC):MC:=m fun x=> mk fun w=> A6V x w k
def A3s:CE:=fun k=> k (.own (.map (smap [])))
def A0C (x:SV) (k:(AH→Prop)→List W→MC):MC:=fun h Q E=> match x with
  | .val (.ref a)=> ∃ws,h a=some (.cont (.seq ws))∧k (fun g=> g a=some (.cont (.seq ws))) ws h Q E
  | .val (.lst ws)=> k (fun _=> True) ws h Q E
  | .val (.tup ws)=> k (fun _=> True) ws h Q E
  | _=> False
abbrev j7:=((AH→Prop)→List W→MC)→MC
def A2K (m:CE):j7:=fun k=> m fun x=> A0C x k
def B2J (m:CE):j7:=fun k=> m fun x=> A0C x fun ok ws=> k ok (T8 ws)
def C7B (m:D5):j7:=fun k=> m fun ws=> k (fun _=> True) ws
def A2I (ok:AH→Prop) (m:MC):MC:=fun h Q E=> ok h∧m h Q E
def Y1 {σ:Type} (ok:AH→Prop) (body:W→σ→(σ→MC)→(σ→MC)→MC) (k:σ→MC):List W→σ→MC
  | [],s=> A2I ok (k s)
  | w::ws,s=> A2I ok (body w s (Y1 ok body k ws) k)
def A59 {σ:Type} (mi:j7) (s0:σ) (body:W→σ→(σ→MC)→(σ→MC)→MC) (k:σ→MC):MC:=mi fun ok ws=> Y1 ok body k ws s0
def A1X (ok:AH→Prop) (body:W→(Option W→MC)→MC) (k:List W→MC):List W→List W→MC
  | [],acc=> A2I ok (k acc)
  | w::ws,acc=> A2I ok (body w fun o=> match o with
    | some y=> J9 (acc.length < sizeLine) (A1X ok body k ws (acc++[y]))
    | none=> A1X ok body k ws acc)
def A3F (mi:j7) (body:W→(Option W→MC)→MC):CE:=fun k=> mi fun ok ws=> A1X ok body (fun acc=> k (.own (.seq acc))) ws []
def B1v (ok:AH→Prop) (body:W→List W→(List W→MC)→MC) (k:List W→MC):List W→List W→MC
  | [],acc=> A2I ok (k acc)
  | w::ws,acc=> A2I ok (body w acc (B1v ok body k ws))
def C7A (mi:j7) (body:W→List W→(List W→MC)→MC):CE:=fun k=> mi fun ok ws=> B1v ok body (fun acc=> k (.own (.seq acc))) ws []
def C6r (mt:CB) (mi:j7) (body:W→(Option W→MC)→MC) (acc:List W) (kk:List W→MC):MC:=mt fun b=> if b=true then mi fun ok ws=> A1X ok body kk ws acc else kk acc
def A3o {σ:Type} (body:W→W→σ→(σ→MC)→MC) (fin:σ→Prop):List (Str×W)→σ→MC
  | [],s=> fun _ _ _=> fin s
  | p::r,s=> body (.str p.1) p.2 s (fun s=> fun _ Q E=> A3o body fin r s (fun _=> none) Q E)
def B1F {σ:Type} (n f:Str) (x:SV) (s0:σ) (body:W→W→σ→(σ→MC)→MC) (nd:σ→Prop) (k:σ→MC):MC:=fun h Q E=> match x with
  | .val (.ref s)=> ∃fs q l,h s=some (.ins n fs)∧fs.lookup f=some (.ref q)∧h q=some (.cont (.map (smap l)))∧(∀p∈l,p.2.nodct=true)∧A3o body (fun t=> nd t∧k t h Q E) l s0 (fun _=> none) Q E
  | _=> False
def dcM (mv:W→W→CW) (K:List (Str×W)→Prop) (Q:RR→AH→Prop) (E:AExc→AH→Prop):List (Str×W)→List (Str×W)→Prop
  | [],acc=> W.nodcts (acc.map (·.2))=true∧K acc
  | p::r,acc=> mv (.str p.1) p.2 (fun u=> fun _ _ _=> acc.length < sizeLine∧dcM mv K Q E r (Q9 acc p.1 u)) (fun _=> none) Q E
def dcX (n f:Str) (x:SV) (mv:W→W→CW) (k:SV→MC):MC:=fun h Q E=> match x with
  | .val (.ref s)=> ∃fs q l,h s=some (.ins n fs)∧fs.lookup f=some (.ref q)∧h q=some (.cont (.map (smap l)))∧dcM mv (fun acc=> k (.own (.map (smap acc))) h Q E) Q E l []
  | _=> False
def C6s (n f:Str) (x:SV) (mv:W→W→CW):CE:=fun k=> dcX n f x mv k
def B2C (x:SV) (k:Str→MC):MC:=fun h Q E=> fmtV (K3 h x) fun y=> k y h Q E
def B16 (m:CE):CE:=fun k=> m fun x=> B2C x fun y=> k (.val (.str y))
def asS (x:SV) (k:Str→MC):MC:=fun h Q E=> match x with
  | .val (.str y)=> k y h Q E
  | _=> False
def jsM:List CE→Str→(Str→MC)→MC
  | [],acc,k=> k acc
  | m::ms,acc,k=> m fun x=> asS x fun y=> J9 ((acc++y).length≤sizeLine) (jsM ms (acc++y) k)
def B0I (ms:List CE):CE:=fun k=> jsM ms Str.empty fun s=> k (.val (.str s))
section
variable {Q:RR→AH→Prop} {E:AExc→AH→Prop} {env:A0} {t t1 t2:AT} {m m1 m2:CE} {tv tv2:D3} {mv mv2:CW} {ta tk:G2} {ma mk:D5} {tb:K9} {mb:CB} {D:AEnds} {i j:Nat}
theorem A3i {h:AH} {r:RV} {a:Addr} (rl:Rl env r (.val (.ref a))):r= .val (.ref a):=by
  cases r with
  | val w=> have e:SV.val (.ref a)= .val w:=rl;injection e with e;rw [e]
  | own c=> have e:SV.val (.ref a)= .own c:=rl;cases e
  | slot i=> obtain ⟨c,e,_⟩:=rl;cases e
theorem d7 {n f:Str} (a:SE Q E env t m):SN Q E env (aFld n f t) (W6 n f m):=fun h k K hk z=> a h _ _ (fun r s h1 rl z=> by
  unfold A1T at z
  split at z
  · obtain ⟨fs,w,z1,z2,z3⟩:=z
    exact ⟨_,fs,w,A3i (h:=h1) rl,z1,z2,hk (.val w) h1 z3⟩
  · exact z.elim) z
theorem C35 {n f:Str} {x:SV} {w:W} {k:MC} {h:AH} {r:RV} (rl:Rl env r x) {P:A0→AH→Prop} (hk:∀h,k h Q E→P env h) (z:A0E n f x w k h Q E):∃a fs,r= .val (.ref a)∧h a=some (.ins n fs)∧fs.length < 1000∧P env (B9 h a (.ins n (v5 f w fs))):=by
  unfold A0E at z
  split at z
  · obtain ⟨fs,z1,z2,z3⟩:=z
    exact ⟨_,fs,A3i (h:=h) rl,z1,z2,hk _ z3⟩
  · exact z.elim
theorem B0E {n f:Str} {k:MC} (a:SA Q E env tv mv) (o:SE Q E env t m) (nx:∀h,k h Q E→D.nx env h):∀h,A6F n f mv m k h Q E→L1 tv (A6R n f t) D env h:=fun h z=>
  a h _ _ (fun w h1 z=> o h1 _ _ (fun r x h2 rl z=> C35 rl nx z) z) z
theorem B6c {C nm:Str} {x:SV} {k:Addr→MC} {h:AH} {r:RV} (rl:Rl env r x) (z:Y3 C nm x k h Q E):∃a fs,r= .val (.ref a)∧h a=some (.ins C fs)∧fs.lookup nm=none∧k a h Q E:=by
  unfold Y3 at z
  split at z
  · obtain ⟨⟨fs,z1,z2⟩,z3⟩:=z
    exact ⟨_,fs,A3i (h:=h) rl,z1,z2,z3⟩
  · exact z.elim
theorem B4p {E':AExc→A0→AH→Prop} {f:List W→MC} {ws:List W} {h:AH} {k:SV→MC} {K:RV→A0→AH→Prop} (hk:∀s h',k s h' Q E→K s.rv env h') (hE:∀x h,E x h→E' x env h) (z:call (f ws) k h Q E):
    upc f ws h (kRes K env) fun x h2=> E' x env h2:=⟨_,_,fun r h' z=> by cases r <;> exact hk _ _ z,hE,z⟩
theorem s8 {C nm:Str} {E':AExc→A0→AH→Prop} {f:List W→MC} (hE:∀x h,E x h→E' x env h) (o:SE Q E env t m) (a:SA Q E env ta ma):SN Q E env (aMeth C nm E' (upc f) t ta) (d9 C nm f m ma):=fun h k K hk z=>
  o h _ _ (fun r x h1 rl z=> by
    obtain ⟨p,fs,e1,e2,e3,z⟩:=B6c rl z
    exact ⟨p,fs,e1,e2,e3,a h1 _ _ (fun ws h2 z=> B4p hk hE z) z⟩) z
theorem C5w {n0 m0:Nat} {P:List Nat} {ds us zs:List W} (h:us.length=n0∧zs.length=m0):gMx n0 m0 P ds us zs=P.map fun i=> (us++(zs++ds)).getD i .non:=by
  unfold gMx A84
  rw [if_pos (by simp [h.1,h.2])]
theorem B4h {C nm:Str} {E':AExc→A0→AH→Prop} {f:List W→MC} {n0 m0:Nat} {P:List Nat} {ds:List W} (hE:∀x h,E x h→E' x env h) (o:SE Q E env t m) (a:SA Q E env ta ma) (b:SA Q E env tk mk):SN Q E env (aMethM C nm E' (upc f) P.length (gMx (n0+1) m0 P ds) t ta tk) (A8M C nm f n0 m0 P ds m ma mk):=fun h k K hk z=>
  o h _ _ (fun r x h1 rl z=> by
    obtain ⟨p,fs,e1,e2,e3,z⟩:=B6c rl z
    exact ⟨p,fs,e1,e2,e3,a h1 _ _ (fun ws h2 z=> b h2 _ _ (fun zs h3 ⟨z1,z2⟩=> by
      rw [C5w z1]
      exact ⟨by rw [List.length_map],B4p hk hE z2⟩) z) z⟩) z
theorem C5s {C:Str} {E':AExc→A0→AH→Prop} {f:List W→MC} {g:Addr→List W} {k:SV→MC} {K:RV→A0→AH→Prop} {h:AH} (hk:∀s h',k s h' Q E→K s.rv env h') (hE:∀x h,E x h→E' x env h) (z:mkX C (fun a=> f (g a)) k h Q E):
    ∀a,h a=none→upc f (g a) (B9 h a (.ins C [])) (kMk K env a) fun x h3=> E' x env h3:=fun a n=> ⟨_,_,fun r h' y=> ⟨y.1,hk (.val (.ref a)) _ y.2⟩,hE,z a n⟩
theorem C23 {C:Str} {E':AExc→A0→AH→Prop} {f:List W→MC} (hE:∀x h,E x h→E' x env h) (a:SA Q E env ta ma):SN Q E env (aMake C E' (upc f) ta) (B1n C f ma):=fun h k K hk z=> a h _ _ (fun ws h1 z=> C5s (g:=fun a=> .ref a::ws) hk hE z) z
theorem B6d {C:Str} {f:List W→MC} {po:RR→(RV→Prop)→Prop} (pm:A6G po) (a:SE Q E env t m):SN Q E env (aOwn C (upc f) po t) (A88 C f po m):=fun h k K hk z=> a h _ _ (fun r x h1 rl z=> by
  unfold B1u at z
  split at z
  · obtain ⟨fs,z1,z2⟩:=z
    exact ⟨_,fs,A3i (h:=h1) rl,z1,_,_,fun r h' y=> pm _ _ _ (fun r z=> A22 hk r z) y,fun _ _ z=> z,z2⟩
  · exact z.elim) z
theorem C34 {neg:Bool} {v:Vw} {w:W} {P P':RV→Prop} (k:∀r,P r→P' r) (z:inM neg v w P):inM neg v w P':=let ⟨l,s,a,b,c⟩:=z;⟨l,s,a,b,k _ c⟩
theorem C2H {v:Vw} {w:W} {P P':RV→Prop} (k:∀r,P r→P' r) (z:A6P v w P):A6P v w P':=let ⟨l,s,u,a,b,c,d⟩:=z;⟨l,s,u,a,b,c,k _ d⟩
theorem A8J {neg:Bool} (a:SA Q E env tv mv) (b:SE Q E env t m):SN Q E env (aInM neg tv t) (A38 neg mv m):=fun h k K hk z=> a h _ _ (fun w h1 z=> b h1 _ _ (fun r x h2 rl z=> by
  rw [R9 rl]
  exact C34 (fun r z=> A22 hk r z) z) z) z
theorem A10 (b:SE Q E env t m) (a:SA Q E env tv mv):SN Q E env (aGetM t tv) (A0u m mv):=fun h k K hk z=> b h _ _ (fun r x h1 rl z=> a h1 _ _ (fun w h2 z=> by
  rw [R9 rl]
  exact C2H (fun r z=> A22 hk r z) z) z) z
theorem B5G {k:MC} (a:SA Q E env tv mv) (o:SN Q E env t m) (b:SA Q E env tv2 mv2) (n:∀h,k h Q E→D.nx env h):∀h,A8l mv m mv2 k h Q E→A8n tv t tv2 D env h:=fun h z=>
  a h _ _ (fun v h1 z=> o h1 _ _ (fun x h2 z=> b h2 _ _ (fun w h3 zz=> by
    cases x with
    | own c=> exact zz.elim
    | val w0=>
      cases w0 with
      | ref p=>
        obtain ⟨l,s,z1,z2,z3,z4⟩:=zz
        exact ⟨l,s,u1 z1,z2,z3,n _ z4⟩
      | _=> exact zz.elim) z) z) z
end
end Ab
namespace Ab
open PySem PySem.Spec PyProof.Rows L2 RZ
def SI (Q:RR→AH→Prop) (E:AExc→AH→Prop) (env:A0) (t:W7) (m:j7):Prop:=∀h (k:(AH→Prop)→List W→MC) (K:(AH→Prop)→List W→A0→AH→Prop),(∀ok ws h',k ok ws h' Q E→K ok ws env h')→m k h Q E→t env h K
def B7d (f:R1) (x:SV) (ma:D5) (k:SV→MC):MC:=fun h Q E=> match x with
  | .val (.ref p)=> (∃xs,h p=some (.cont (.seq xs)))∧(ma fun ws=> fun h2 Q E=> match h2 p with
    | some (.cont (.seq xs))=> f xs ws fun xs' w=> k (.val w) (B9 h2 p (.cont (.seq xs'))) Q E
    | _=> False) h Q E
  | _=> False
def C65 (f:R1) (m:CE) (ma:D5):CE:=fun k=> m fun x=> B7d f x ma k
section
variable {Q:RR→AH→Prop} {E:AExc→AH→Prop} {env:A0} {t t1 t2:AT} {m m1 m2:CE} {tv tv2:D3} {mv mv2:CW} {ta tk:G2} {ma mk:D5} {tb:K9} {mb:CB} {D:AEnds} {i j:Nat} {ti:W7} {mi:j7}
theorem B5l {k:MC} (o:SN Q E env t m) (b:SA Q E env tv mv) (n:∀h,k h Q E→D.nx env h):∀h,A8X m mv k h Q E→A8b t tv D env h:=fun h z=>
  o h _ _ (fun x h2 z=> b h2 _ _ (fun w h3 zz=> by
    cases x with
    | own c=> exact zz.elim
    | val w0=>
      cases w0 with
      | ref p=>
        obtain ⟨l,s,z1,z2,z3,z4⟩:=zz
        exact ⟨l,s,u1 z1,z2,z3,n _ z4⟩
      | _=> exact zz.elim) z) z
theorem A7j:SN Q E env A3r A3s:=fun h k K hk z=> hk (.own _) h z
theorem B6J {x:SV} {r:RV} (rl:Rl env r x) {k:(AH→Prop)→List W→MC} {h:AH} {K:(AH→Prop)→List W→Prop} (hk:∀ok ws,k ok ws h Q E→K ok ws) (z:A0C x k h Q E):srcW h r K:=by
  unfold A0C at z
  split at z
  · obtain ⟨ws,e,z⟩:=z
    rw [A3i (h:=h) rl]
    exact ⟨ws,e,hk _ _ z⟩
  · cases r with
    | val w=> cases rl;exact hk _ _ z
    | own c=> cases rl
    | slot i=> obtain ⟨c,e,_⟩:=rl;cases e
  · cases r with
    | val w=> cases rl;exact hk _ _ z
    | own c=> cases rl
    | slot i=> obtain ⟨c,e,_⟩:=rl;cases e
  · exact z.elim
theorem A3a (a:SE Q E env t m):SI Q E env (iLive t) (A2K m):=fun h k K hk z=> a h _ _ (fun r x h' rl z=> B6J rl (fun ok ws z=> hk _ _ _ z) z) z
theorem C5i (a:SE Q E env t m):SI Q E env (iLvE t) (B2J m):=fun h k K hk z=> a h _ _ (fun r x h' rl z=> B6J (k:=fun ok ws=> k ok (T8 ws)) rl (fun ok ws z=> hk _ _ _ z) z) z
theorem B4w {σ J:Type} {ok:AH→Prop} {g:H9} {tb:C0} {body:W→σ→(σ→MC)→(σ→MC)→MC} {k:σ→MC} (envOf:σ→J→A0) (r:∀s j h,k s h Q E→D.nx (envOf s j) h)
    (b:∀w s j (kn:σ→MC) (N:A0→AH→Prop),(∀s j h,kn s h Q E→N (envOf s j) h)→∀h,body w s kn k h Q E→g w (envOf s j) h fun e1 h1=> tb { D with nx:=N,ct:=N,bk:=D.nx } e1 h1):
    ∀ws s j h,Y1 ok body k ws s h Q E→aLoopL ok g tb D ws (envOf s j) h
  | [],s,j,h,z=> ⟨z.1,r s j h z.2⟩
  | w::ws,s,j,h,z=> ⟨z.1,b w s j (Y1 ok body k ws) (aLoopL ok g tb D ws) (fun s j h z=> B4w envOf r b ws s j h z) h z.2⟩
theorem B0X {σ J:Type} {g:H9} {tb:C0} {body:W→σ→(σ→MC)→(σ→MC)→MC} {k:σ→MC} (envOf:σ→J→A0) (s0:σ) (j0:J) (he:envOf s0 j0=env) (it:SI Q E env ti mi) (r:∀s j h,k s h Q E→D.nx (envOf s j) h)
    (b:(∀s j h,k s h Q E→D.nx (envOf s j) h)→∀w s j (kn:σ→MC) (N:A0→AH→Prop),(∀s j h,kn s h Q E→N (envOf s j) h)→∀h,body w s kn k h Q E→g w (envOf s j) h fun e1 h1=> tb { D with nx:=N,ct:=N,bk:=D.nx } e1 h1):
    ∀h,A59 mi s0 body k h Q E→A6C ti g tb D env h:=fun h z=> it h _ _ (fun ok ws h' z=> he▸B4w envOf r (b r) ws s0 j0 h' z) z
theorem A8E {ok:AH→Prop} {vs:List Nat} {g:H9} {body:W→(Option W→MC)→MC} {k:List W→MC} {K:List W→A0→AH→Prop} (hk:∀acc h',k acc h' Q E→K acc env h') (b:LcB Q E env vs g tb tv body):
    ∀(ws acc:List W) (h:AH),A1X ok body k ws acc h Q E→lcLoopL ok vs g tb tv K ws acc env h
  | [],acc,h,z=> ⟨z.1,hk acc h z.2⟩
  | w::ws,acc,h,z=> ⟨z.1,b w h _ (fun y e3 h3=> acc.length < sizeLine∧lcLoopL ok vs g tb tv K ws (acc++[y]) e3 h3) (fun e2 h2=> lcLoopL ok vs g tb tv K ws acc e2 h2)
      (fun y h' z=> ⟨z.1,A8E hk b ws (acc++[y]) h' z.2⟩) (fun h' z=> A8E hk b ws acc h' z) z.2⟩
theorem C4m {vs:List Nat} {g:H9} {body:W→(Option W→MC)→MC} (it:SI Q E env ti mi) (b:LcB Q E env vs g tb tv body):SN Q E env (A0D vs ti g tb tv) (A3F mi body):=fun h k K hk z=>
  it h _ _ (fun ok ws h1 z=> A8E (k:=fun acc=> k (.own (.seq acc))) (fun acc h' z=> hk (.own (.seq acc)) h' z) b ws [] h1 z) z
theorem B7I {σ J:Type} {a b:Nat} {tb:C0} {body:W→W→σ→(σ→MC)→MC} {fin:σ→Prop} {F:A0→Prop} (envOf:σ→J→A0) (jn:J→Prop) (r:∀s j,jn j→fin s→X8 (envOf s j)=true∧F (envOf s j))
    (bd:∀t w s j (kn:σ→MC) (N:A0→AH→Prop),W.nodct w=true→(∀s j h,jn j→kn s h Q E→N (envOf s j) h)→∀h,body (.str t) w s kn h Q E→tb ⟨N,fun _ _ _=> False,fun _ _=> False,N⟩ (((envOf s j).set a (some (.val (.str t)))).set b (some (.val w))) h):
    ∀(l:List (Str×W)) (s:σ) (j:J),(∀p∈l,p.2.nodct=true)→jn j→A3o body fin l s (fun _=> none) Q E→itL a b tb F l (envOf s j)
  | [],s,j,_,y,z=> r s j y z
  | p::l,s,j,n,y,z=> bd p.1 p.2 s j (fun s=> fun _ Q E=> A3o body fin l s (fun _=> none) Q E) (fun e _=> itL a b tb F l e) (n p (List.mem_cons_self ..)) (fun s j _ y z=> B7I envOf jn r bd l s j (fun q hq=> n q (List.mem_cons_of_mem _ hq)) y z) _ z
theorem C2s {σ J:Type} {n f:Str} {a b:Nat} {x:SV} {tb:C0} {s0:σ} {j0:J} {body:W→W→σ→(σ→MC)→MC} {nd:σ→Prop} {k:σ→MC} (envOf:σ→J→A0) (jn:J→Prop) (hj:jn j0) (he:envOf s0 j0=env) (ei:env[i]? =some (some x)) (hn:∀s j,jn j→nd s→X8 (envOf s j)=true) (r:∀s j h,k s h Q E→D.nx (envOf s j) h)
    (bd:∀t w s j (kn:σ→MC) (N:A0→AH→Prop),W.nodct w=true→(∀s j h,jn j→kn s h Q E→N (envOf s j) h)→∀h,body (.str t) w s kn h Q E→tb ⟨N,fun _ _ _=> False,fun _ _=> False,N⟩ (((envOf s j).set a (some (.val (.str t)))).set b (some (.val w))) h):
    ∀h,B1F n f x s0 body nd k h Q E→B1H i n f a b tb D env h:=fun h z=> by
  unfold B1F at z
  split at z
  · obtain ⟨fs,q,l,z1,z2,z3,z4,z5⟩:=z
    refine ⟨_,q,l,⟨fs,ei,z1,z2,z3⟩,?_⟩
    rw [←he]
    exact B7I envOf jn (fun s j y z=> ⟨hn s j y z.1,r s j h z.2⟩) bd l s0 j0 z4 hj z5
  · exact z.elim
theorem B6U {s:Str} {r:RV} (rl:Rl env r (.val (.str s))):r= .val (.str s):=by
  cases r with
  | val w=> cases rl;rfl
  | own c=> cases rl
  | slot i=> obtain ⟨c,e,_⟩:=rl;cases e
theorem C47 (a:SE Q E env t m):SN Q E env (aFmt t) (B16 m):=fun h k K hk z=> a h _ _ (fun r x h' rl z=> by
  rw [R9 rl]
  exact fmtV.imp (fun y z=> hk (.val _) _ z) z) z
inductive SJ (Q:RR→AH→Prop) (E:AExc→AH→Prop) (env:A0):List AT→List CE→Prop where
  | nil:SJ Q E env [] []
  | cons {t:AT} {m:CE} {ts:List AT} {ms:List CE} (a:SE Q E env t m) (r:SJ Q E env ts ms):SJ Q E env (t::ts) (m::ms)
theorem C5p {ts:List AT} {ms:List CE} (a:SJ Q E env ts ms):∀(acc:Str) h (k:Str→MC) (K:Str→A0→AH→Prop),(∀s h',k s h' Q E→K s env h')→jsM ms acc k h Q E→jsL ts acc env h K:=by
  induction a with
  | nil=> exact fun acc h k K hk z=> hk _ _ z
  | cons a r ih=> exact fun acc h k K hk z=> a h _ _ (fun r x h' rl z=> by
      unfold asS at z
      split at z
      · exact ⟨_,B6U rl,z.1,ih _ _ _ _ hk z.2⟩
      · exact z.elim) z
theorem C1a {ts:List AT} {ms:List CE} (a:SJ Q E env ts ms):SN Q E env (B0F ts) (B0I ms):=fun h k K hk z=> C5p a Str.empty h _ _ (fun s h' z=> hk (.val _) _ z) z
end
theorem B5O:Y4 oMulX:=oMulX.mono
theorem B0P:A0v n8:=fun as Q Q' k q=> by
  unfold n8 at q ⊢
  split at q
  · obtain ⟨l,e,q⟩:=q
    exact ⟨l,e,k _ q⟩
  · exact q
theorem C2W:A0v A1H:=fun as Q Q' k q=> by
  unfold A1H at q ⊢
  split at q
  · obtain ⟨l,e,q⟩:=q
    exact ⟨l,e,k _ q⟩
  · exact q
theorem C3L:A0v A1N:=fun as Q Q' k q=> by
  unfold A1N at q ⊢
  split at q
  · exact ⟨q.1,k _ q.2⟩
  · exact q
end Ab
namespace Ab
open PySem PySem.Spec PyProof.Rows L2 RZ
def B1D (m:CE):D5:=fun k=> m fun x=> asS x fun s=> k (A2M s)
def B1b (mv:CW) (m1:CE) (mk1:CW) (m2:CE) (mk2:CW) (k:MC):MC:=mv fun w=> un2 w fun a b=> m1 fun x=> mk1 fun w1=> f8 x w1 a (m2 fun y=> mk2 fun w2=> f8 y w2 b k)
def un4 (w:W) (k:W→W→W→W→MC):MC:=match w with
  | .tup [a,b,c,d]=> k a b c d
  | _=> bad
section
variable {Q:RR→AH→Prop} {E:AExc→AH→Prop} {env:A0} {t t1 t2:AT} {m m1 m2:CE} {tv tv2 tk1 tk2:D3} {mv mv2 mk1 mk2:CW} {D:AEnds} {i j:Nat}
theorem C2i (a:SE Q E env t m):SA Q E env (B2N t) (B1D m):=fun h k K hk z=> a h _ _ (fun r x h' rl z=> by
  unfold asS at z
  split at z
  · exact ⟨_,B6U rl,hk _ _ z⟩
  · exact z.elim) z
theorem B4j {x:SV} {w v:W} {k:MC} {h:AH} {r:RV} {K:A0→AH→Prop} (rl:Rl env r x) (hk:∀h,k h Q E→K env h) (z:f8 x w v k h Q E):B18 env h r w v K:=by
  unfold f8 at z
  split at z
  · obtain ⟨l,s,z1,z2,z3,z4⟩:=z
    rw [A3i (h:=h) rl]
    exact ⟨l,s,u1 z1,z2,z3,hk _ z4⟩
  · exact z.elim
theorem C4E {k:MC} (a:SA Q E env tv mv) (o1:SE Q E env t1 m1) (b1:SA Q E env tk1 mk1) (o2:SE Q E env t2 m2) (b2:SA Q E env tk2 mk2) (n:∀h,k h Q E→D.nx env h):
    ∀h,B1b mv m1 mk1 m2 mk2 k h Q E→L1 tv (gTp 2 (R5 (A33 t1 tk1) (R5 (A33 t2 tk2) A0A))) D env h:=fun h z=>
  a h _ _ (fun w h1 z=> by
    obtain ⟨x,y,rfl,z⟩:=A8N z
    refine ⟨rfl,x,[y],rfl,o1 h1 _ _ (fun r s h2 rl z=> b1 h2 _ _ (fun w1 h3 z=> B4j (K:=fun e' h'=> R5 (A33 t2 tk2) A0A [y] e' h' D.nx) rl (fun h4 z=> ?_) z) z) z⟩
    exact ⟨y,[],rfl,o2 h4 _ _ (fun r s h5 rl z=> b2 h5 _ _ (fun w2 h6 z=> B4j (K:=fun e' h'=> A0A [] e' h' D.nx) rl (fun h7 z=> ⟨rfl,n h7 z⟩) z) z) z⟩) z
theorem A9w {vs:List Nat} {g:H9} {tb:K9} {ti:W7} {mi:j7} {body:W→(Option W→MC)→MC} {k:SV→MC} (e':SV→A0) (he:∀x,env.set i (some x)=e' x) (it:SI Q E env ti mi) (b:LcB Q E env vs g tb tv body) (n:∀x h,k x h Q E→D.nx (e' x) h):∀h,(A3F mi body k) h Q E→A2C i (A0D vs ti g tb tv) D env h:=fun h z=>
  it h _ _ (fun ok ws h1 z=> A8E (k:=fun acc=> k (.own (.seq acc))) (fun acc h' z=> by
    have q:=n (.own (.seq acc)) h' z
    rw [←he] at q
    exact q) b ws [] h1 z) z
theorem C4a {w:W} {f:W→W→W→W→MC} {h:AH} (z:un4 w f h Q E):∃a b c d,w= .tup [a,b,c,d]∧f a b c d h Q E:=by
  unfold un4 at z
  split at z
  · exact ⟨_,_,_,_,rfl,z⟩
  · exact z.elim
theorem C6y {g1 g2 g3 g4:H9} {a b c d:W} {e1 e2 e3 e4:A0} (d1:Gd g1 a env e1) (d2:Gd g2 b e1 e2) (d3:Gd g3 c e2 e3) (d4:Gd g4 d e3 e4):Gd (gTp 4 (R5 g1 (R5 g2 (R5 g3 (R5 g4 A0A))))) (.tup [a,b,c,d]) env e4:=fun h K k=>
  ⟨rfl,a,_,rfl,d1 h _ ⟨b,_,rfl,d2 h _ ⟨c,_,rfl,d3 h _ ⟨d,[],rfl,d4 h _ ⟨rfl,k⟩⟩⟩⟩⟩
end
def jnd (j:Option W×Option W):Prop:=(∀w,j.1=some w→w.nodct=true)∧∀w,j.2=some w→w.nodct=true
theorem C42:jnd (none,none):=⟨fun _ e=> (nomatch e),fun _ e=> (nomatch e)⟩
theorem C45 {t:Str} {w:W} (h:w.nodct=true):jnd (some (.str t),some w):=⟨fun _ e=> (by cases e;rfl),fun _ e=> (by cases e;exact h)⟩
theorem C3e:X8 []=true:=rfl
theorem B1V {w:W} {e:A0} (h:w.nodct=true) (t:X8 e=true):X8 (some (.val w)::e)=true:=by
  unfold X8 at t ⊢
  rw [List.all_cons,t]
  show (w.nodct && true)=true
  rw [h];rfl
theorem C6V {x:SV} {e:A0} (h:x.nodct=true) (t:X8 e=true):X8 (some x::e)=true:=by
  unfold X8 at t ⊢
  rw [List.all_cons,t]
  show (x.nodct && true)=true
  rw [h];rfl
theorem B7C {e:A0} (t:X8 e=true):X8 (none::e)=true:=by
  unfold X8 at t ⊢
  rw [List.all_cons,t]
  rfl
theorem B7H {o:Option W} {e:A0} (h:∀w,o=some w→w.nodct=true) (t:X8 e=true):X8 (Option.map SV.val o::e)=true:=by
  cases o with
  | none=> exact B7C t
  | some w=> exact B1V (h w rfl) t
theorem C4s {e1:A0} {P:MC} {Q:RR→AH→Prop} {E:AExc→AH→Prop} {R:A0→AH→Prop} (e2:A0) (he:e1=e2) (f:∀h,P h Q E→R e2 h):∀h,P h Q E→R e1 h:=he▸f
theorem C4x {neg:Bool}:Y4 (oInS neg):=oInS.mono
section
variable {Q:RR→AH→Prop} {E:AExc→AH→Prop} {h:AH}
@[simp] theorem C38 {a b c d:W} {k:W→W→W→W→MC}:un4 (.tup [a,b,c,d]) k=k a b c d:=rfl
@[simp] theorem B5J {s:Str} {k:Str→MC}:asS (.val (.str s)) k=k s:=rfl
@[simp] theorem C2O {m:CE} {k:List W→MC}:B1D m k=m fun x=> asS x fun s=> k (A2M s):=rfl
@[simp] theorem C3H {mv:CW} {m1 m2:CE} {mk1 mk2:CW} {k:MC}:B1b mv m1 mk1 m2 mk2 k=mv fun w=> un2 w fun a b=> m1 fun x=> mk1 fun w1=> f8 x w1 a (m2 fun y=> mk2 fun w2=> f8 y w2 b k):=rfl
@[simp] theorem e9 {n f:Str} {m:CE} {k:SV→MC}:W6 n f m k=m fun x=> A1T n f x k:=rfl
@[simp] theorem C29 {n f:Str} {mv:CW} {m:CE} {k:MC}:A6F n f mv m k=mv fun w=> m fun x=> A0E n f x w k:=rfl
@[simp] theorem C88 {n f:Str} {mv:CW} {m:W→CE} {k:W→MC}:C69 n f mv m k=mv fun w=> un2 w fun a b=> m a fun x=> A0E n f x b (k a):=rfl
@[simp] theorem C9c {n f n2 g:Str} {mv:CW} {m m2:CE} {k:MC}:ffC n f n2 g mv m m2 k=mv fun w=> un2 w fun a b=> m fun x=> A0E n f x a (m2 fun y=> A0E n2 g y b k):=rfl
@[simp] theorem u3 {C nm:Str} {f:List W→MC} {mo:CE} {ma:D5} {k:SV→MC}:d9 C nm f mo ma k=mo fun x=> Y3 C nm x fun a=> ma fun ws=> call (f (.ref a::ws)) k:=rfl
@[simp] theorem C8T {C nm:Str} {f:List W→MC} {mo:CE} {ma:D5} {k:SV→MC}:C5O C nm f mo ma k=mo fun x=> Y3 C nm x fun a=> ma fun ws=> call0 (f (.ref a::ws)) k:=rfl
@[simp] theorem C27 {C nm:Str} {f:List W→MC} {n0 m0:Nat} {P:List Nat} {ds:List W} {mo:CE} {ma mk:D5} {k:SV→MC}:A8M C nm f n0 m0 P ds mo ma mk k=mo fun x=> Y3 C nm x fun a=> ma fun ws=> mk fun zs=> mxW (n0+1) m0 P ds (.ref a::ws) zs fun vs=> call (f vs) k:=rfl
@[simp] theorem C7h {C nm:Str} {f:List W→MC} {n0 m0:Nat} {P:List Nat} {ds:List W} {mo:CE} {ma mk:D5} {k:SV→MC}:C3v C nm f n0 m0 P ds mo ma mk k=mo fun x=> Y3 C nm x fun a=> ma fun ws=> mk fun zs=> mxW (n0+1) m0 P ds (.ref a::ws) zs fun vs=> call0 (f vs) k:=rfl
@[simp] theorem C5g {C:Str} {f:List W→MC} {ma:D5} {k:SV→MC}:B1n C f ma k=ma fun ws=> mkX C (fun a=> f (.ref a::ws)) k:=rfl
@[simp] theorem C8l {C:Str} {f:List W→MC} {ma:D5} {k:SV→MC}:C5h C f ma k=ma fun ws=> A87 C (fun a=> f (.ref a::ws)) k:=rfl
@[simp] theorem C7z {C:Str} {f:List W→MC} {n0 m0:Nat} {P:List Nat} {ds:List W} {ma mk:D5} {k:SV→MC}:C5Z C f n0 m0 P ds ma mk k=ma fun ws=> mk fun zs=> J9 (ws.length=n0∧zs.length=m0) (mkX C (fun a=> f (P.map fun i=> ((.ref a::ws)++(zs++ds)).getD i .non)) k):=rfl
@[simp] theorem C7p {C:Str} {f:List W→MC} {n0 m0:Nat} {P:List Nat} {ds:List W} {ma mk:D5} {k:SV→MC}:C32 C f n0 m0 P ds ma mk k=ma fun ws=> mk fun zs=> J9 (ws.length=n0∧zs.length=m0) (A87 C (fun a=> f (P.map fun i=> ((.ref a::ws)++(zs++ds)).getD i .non)) k):=rfl
@[simp] theorem C6F {C:Str} {f:List W→MC} {po:RR→(RV→Prop)→Prop} {m:CE} {k:SV→MC}:A88 C f po m k=m fun x=> B1u C f po x k:=rfl
@[simp] theorem C9h {C:Str} {neg:Bool} {f:List W→MC} {m m2:CE} {k:SV→MC}:C62 C neg f m m2 k=m fun x=> m2 fun y=> eqX C neg f x y k:=rfl
@[simp] theorem C9X {n:Str} {b:Bool} {m:CE} {k:SV→MC}:C67 n b m k=m fun x=> B7Q n b x k:=rfl
@[simp] theorem A8f {neg:Bool} {mk:CW} {m:CE} {k:SV→MC}:A38 neg mk m k=mk fun w=> m fun x=> inX neg w x k:=rfl
@[simp] theorem A18 {m:CE} {mk:CW} {k:SV→MC}:A0u m mk k=m fun x=> mk fun w=> A26 x w k:=rfl
@[simp] theorem C8n {mv:CW} {x:SV} {mk:CW} {k:SV→MC}:C6a mv x mk k=mv fun v=> mk fun w=> A36 x w v k:=rfl
@[simp] theorem C3h {mv:CW} {m:CE} {mk:CW} {k:MC}:A8l mv m mk k=mv fun v=> m fun x=> mk fun w=> f8 x w v k:=rfl
@[simp] theorem C4V {m:CE} {mk:CW} {k:MC}:A8X m mk k=m fun x=> mk fun w=> A6V x w k:=rfl
@[simp] theorem B5L {k:SV→MC}:A3s k=k (.own (.map (smap []))):=rfl
@[simp] theorem B0m {m:CE} {k:(AH→Prop)→List W→MC}:A2K m k=m fun x=> A0C x k:=rfl
@[simp] theorem C5a {m:CE} {k:(AH→Prop)→List W→MC}:B2J m k=m fun x=> A0C x fun ok ws=> k ok (T8 ws):=rfl
@[simp] theorem C9C {m:D5} {k:(AH→Prop)→List W→MC}:C7B m k=m fun ws=> k (fun _=> True) ws:=rfl
@[simp] theorem B0V {σ:Type} {mi:j7} {s0:σ} {body:W→σ→(σ→MC)→(σ→MC)→MC} {k:σ→MC}:A59 mi s0 body k=mi fun ok ws=> Y1 ok body k ws s0:=rfl
@[simp] theorem B69 {mi:j7} {body:W→(Option W→MC)→MC} {k:SV→MC}:A3F mi body k=mi fun ok ws=> A1X ok body (fun acc=> k (.own (.seq acc))) ws []:=rfl
@[simp] theorem C9d {mi:j7} {body:W→List W→(List W→MC)→MC} {k:SV→MC}:C7A mi body k=mi fun ok ws=> B1v ok body (fun acc=> k (.own (.seq acc))) ws []:=rfl
@[simp] theorem C81 {mt:CB} {mi:j7} {body:W→(Option W→MC)→MC} {acc:List W} {kk:List W→MC}:C6r mt mi body acc kk=mt fun b=> if b=true then mi fun ok ws=> A1X ok body kk ws acc else kk acc:=rfl
@[simp] theorem C55 {m:CE} {k:SV→MC}:B16 m k=m fun x=> B2C x fun y=> k (.val (.str y)):=rfl
@[simp] theorem C2q {ms:List CE} {k:SV→MC}:B0I ms k=jsM ms Str.empty fun s=> k (.val (.str s)):=rfl
@[simp] theorem C3Q {acc:Str} {k:Str→MC}:jsM [] acc k=k acc:=rfl
@[simp] theorem C2E {m:CE} {ms:List CE} {acc:Str} {k:Str→MC}:jsM (m::ms) acc k=m fun x=> asS x fun y=> J9 ((acc++y).length≤sizeLine) (jsM ms (acc++y) k):=rfl
@[simp] theorem C9f {f:R1} {m:CE} {ma:D5} {k:SV→MC}:C65 f m ma k=m fun x=> B7d f x ma k:=rfl
@[simp] theorem C9S {n f:Str} {x:SV} {mv:W→W→CW} {k:SV→MC}:C6s n f x mv k=dcX n f x mv k:=rfl
@[simp] theorem B6L {m:CE} {k:W→MC}:A2Q m k=m fun x=> A6M x k:=rfl
theorem B5x {m:MC}:A2I (fun _=> True) m=m:=by funext h Q E;exact propext ⟨fun z=> z.2,fun z=> ⟨trivial,z⟩⟩
theorem B5F {σ:Type} {body:W→σ→(σ→MC)→(σ→MC)→MC} {k:σ→MC}:∀ws s,Y1 (fun _=> True) body k ws s=o7 body k ws s
  | [],s=> B5x
  | w::ws,s=> by
    show A2I _ (body w s (Y1 _ body k ws) k)=body w s (o7 body k ws) k
    rw [B5x,show Y1 (fun _=> True) body k ws=o7 body k ws from funext fun s=> B5F ws s]
@[simp] theorem C8g {ws:List W} {k:(AH→Prop)→List W→MC}:A0C (.val (.lst ws)) k=k (fun _=> True) ws:=rfl
@[simp] theorem C8O {ws:List W} {k:(AH→Prop)→List W→MC}:A0C (.val (.tup ws)) k=k (fun _=> True) ws:=rfl
end
end Ab
namespace Ab
open PySem PySem.Spec PyProof.Rows L2 RZ
theorem A3X:∀{l l':List (Str×W)},smap l=smap l'→l=l'
  | [],[],_=> rfl
  | [],_::_,e=> by cases e
  | _::_,[],e=> by cases e
  | (a,u)::l,(b,v)::l',e=> by
    unfold smap at e
    rw [List.map_cons,List.map_cons] at e
    injection e with e1 e2
    injection e1 with e1 e3
    injection e1 with e1
    have e3:u=v:=e3
    have e1:a=b:=e1
    rw [e1,e3,A3X e2]
theorem A7U {l l':List (Str×W)} (e:O2 l=O2 l'):l=l':=by
  unfold O2 at e
  injection e with e1 e2
  refine A3X ?_
  unfold smap at e1 e2 ⊢
  rw [List.map_map] at e1 e2
  refine List.ext_getElem (by simpa using congrArg List.length e1) fun i h1 h2=> ?_
  have h1':i < l.length:=by simpa using h1
  have h2':i < l'.length:=by simpa using h2
  have a:=congrArg (fun z=> z[i]?) e1
  have b:=congrArg (fun z=> z[i]?) e2
  simp only [List.getElem?_map,List.getElem?_eq_getElem h1',List.getElem?_eq_getElem h2',Option.map_some,Function.comp] at a b
  simp only [List.getElem_map]
  injection a with a
  injection b with b
  have a:W.str l[i].1=W.str l'[i].1:=a
  have b:l[i].2=l'[i].2:=b
  rw [a,b]
section
variable {Q:RR→AH→Prop} {E:AExc→AH→Prop} {h:AH} {a:Addr} {n f C nm:Str} {fs:List (Str×W)} {w u v:W} {l:List (Str×W)} {s:Str} {ws:List W}
theorem A3q {k:SV→MC} (e:h a=some (.ins n fs)) (l:fs.lookup f=some w):A1T n f (.val (.ref a)) k h Q E=k (.val w) h Q E:=
  propext ⟨fun ⟨fs',w',z1,z2,z3⟩=> by rw [e] at z1;cases z1;rw [l] at z2;cases z2;exact z3,fun z=> ⟨fs,w,e,l,z⟩⟩
theorem B0U {k:MC} (e:h a=some (.ins n fs)) (l:fs.length < 1000):A0E n f (.val (.ref a)) w k h Q E=k (B9 h a (.ins n (v5 f w fs))) Q E:=
  propext ⟨fun ⟨fs',z1,z2,z3⟩=> by rw [e] at z1;cases z1;exact z3,fun z=> ⟨fs,e,l,z⟩⟩
theorem B6f {k:Addr→MC} (e:h a=some (.ins C fs)) (l:fs.lookup nm=none):Y3 C nm (.val (.ref a)) k h Q E=k a h Q E:=
  propext ⟨fun z=> z.2,fun z=> ⟨⟨fs,e,l⟩,z⟩⟩
theorem A09 {c:Cont} (e:h a=some (.cont c)):K3 h (.val (.ref a))= .cv c:=by
  show (match h a with
    | some (.cont c)=> Vw.cv c
    | _=> .wv (.ref a))=_
  rw [e]
theorem cvM {l:List (Str×W)}:(Vw.cv (.map (smap l))).toW=O2 l:=by
  unfold O2 smap
  simp only [Vw.toW,Cont.fz]
theorem C5Q {neg:Bool} {P:RV→Prop} {vw:Vw} (e:vw.toW=O2 l):inM neg vw (.str s) P=P (.val (.bl (if neg=true then !(l.lookup s).isSome else (l.lookup s).isSome))):=
  propext ⟨fun ⟨l',s',z1,z2,z3⟩=> by rw [e] at z1;cases A7U z1;cases z2;exact z3,fun z=> ⟨l,s,e,rfl,z⟩⟩
theorem A78 {neg:Bool} {k:SV→MC} (e:h a=some (.cont (.map (smap l)))):inX neg (.str s) (.val (.ref a)) k h Q E=k (.val (.bl (if neg=true then !(l.lookup s).isSome else (l.lookup s).isSome))) h Q E:=by
  unfold inX
  rw [A09 e,C5Q cvM]
  rfl
theorem B5g {P:RV→Prop} {vw:Vw} (e:vw.toW=O2 l) (hu:l.lookup s=some u):A6P vw (.str s) P=P (.val u):=
  propext ⟨fun ⟨l',s',u',z1,z2,z3,z4⟩=> by rw [e] at z1;cases A7U z1;cases z2;rw [hu] at z3;cases z3;exact z4,fun z=> ⟨l,s,u,e,rfl,hu,z⟩⟩
theorem A2l {k:SV→MC} (e:h a=some (.cont (.map (smap l)))) (hu:l.lookup s=some u):A26 (.val (.ref a)) (.str s) k h Q E=k (.val u) h Q E:=by
  unfold A26
  rw [A09 e,B5g cvM hu]
  rfl
theorem C1r {P:RV→Prop}:n8 [.cv (.map (smap l))] P=P (.val (.int l.length)):=
  propext ⟨fun ⟨l',z1,z2⟩=> by cases A3X z1;exact z2,fun z=> ⟨l,rfl,z⟩⟩
theorem C1V {P:RV→Prop}:A1H [.cv (.map (smap l))] P=P (.own (.seq (l.map fun p=> W.str p.1))):=
  propext ⟨fun ⟨l',z1,z2⟩=> by cases A3X z1;exact z2,fun z=> ⟨l,rfl,z⟩⟩
theorem B0g {k:SV→MC} (e:h a=some (.cont (.map (smap l)))):cb n8 [.val (.ref a)] k h Q E=k (.val (.int l.length)) h Q E:=by
  unfold cb
  rw [List.map_cons,List.map_nil,A09 e,C1r]
  rfl
theorem C2T {k:SV→MC} (e:h a=some (.cont (.map (smap l)))):cb A1H [.val (.ref a)] k h Q E=k (.own (.seq (l.map fun p=> W.str p.1))) h Q E:=by
  unfold cb
  rw [List.map_cons,List.map_nil,A09 e,C1V]
  rfl
theorem A7m {k:MC} (e:h a=some (.cont (.map (smap l)))) (hl:l.length < sizeLine):f8 (.val (.ref a)) (.str s) v k h Q E=k (B9 h a (.cont (.map (smap (Q9 l s v))))) Q E:=
  propext ⟨fun ⟨l',s',z1,z2,z3,z4⟩=> by rw [e] at z1;injection z1 with z1;injection z1 with z1;injection z1 with z1;cases A3X z1;cases z2;exact z4,fun z=> ⟨l,s,e,rfl,hl,z⟩⟩
theorem B0G {k:MC} (e:h a=some (.cont (.map (smap l)))) (hl:(l.lookup s).isSome=true):A6V (.val (.ref a)) (.str s) k h Q E=k (B9 h a (.cont (.map (smap (W4 l s))))) Q E:=
  propext ⟨fun ⟨l',s',z1,z2,z3,z4⟩=> by rw [e] at z1;injection z1 with z1;injection z1 with z1;injection z1 with z1;cases A3X z1;cases z2;exact z4,fun z=> ⟨l,s,e,rfl,hl,z⟩⟩
theorem A5f {k:(AH→Prop)→List W→MC} (e:h a=some (.cont (.seq ws))):A0C (.val (.ref a)) k h Q E=k (fun g=> g a=some (.cont (.seq ws))) ws h Q E:=
  propext ⟨fun ⟨ws',z1,z2⟩=> by rw [e] at z1;cases z1;exact z2,fun z=> ⟨ws,e,z⟩⟩
theorem A5Y {α:Type} {ok:AH→Prop} {body:W→(Option W→MC)→MC} {k:List W→MC} (e:α→W) (f:α→Option W) (o:ok h):∀(l:List α) (acc:List W),(∀a∈l,∀kk,body (e a) kk h Q E=kk (f a) h Q E)→acc.length+l.length≤sizeLine→A1X ok body k (l.map e) acc h Q E=k (acc++l.filterMap f) h Q E
  | [],acc,_,_=> by
    show (ok h∧k acc h Q E)=_
    simp [o]
  | w::ws,acc,hb,hl=> by
    rw [List.length_cons] at hl
    show (ok h∧body (e w) _ h Q E)=_
    rw [hb w (by simp)]
    cases q:f w with
    | none=>
      rw [List.filterMap_cons_none q,←A5Y (k:=k) e f o ws acc (fun w hw=> hb w (by simp [hw])) (by omega)]
      exact propext ⟨fun z=> z.2,fun z=> ⟨o,z⟩⟩
    | some y=>
      rw [List.filterMap_cons_some q,List.append_cons,←A5Y (k:=k) e f o ws (acc++[y]) (fun w hw=> hb w (by simp [hw])) (by rw [List.length_append,List.length_cons,List.length_nil];omega)]
      exact propext ⟨fun z=> z.2.2,fun z=> ⟨o,by omega,z⟩⟩
theorem B4H {α:Type} {ok:AH→Prop} {body:W→Unit→(Unit→MC)→(Unit→MC)→MC} {k:Unit→MC} (e:α→W) (r:α→Option AExc) (o:ok h):∀l:List α,(∀a∈l,∀kn kb,body (e a) () kn kb h Q E=match r a with
    | none=> kn () h Q E
    | some x=> E x h)→Y1 ok body k (l.map e) () h Q E=match l.findSome? r with
    | none=> k () h Q E
    | some x=> E x h
  | [],_=> by
    show (ok h∧k () h Q E)=_
    simp [o]
  | w::ws,hb=> by
    show (ok h∧body (e w) () (Y1 ok body k (ws.map e)) k h Q E)=_
    rw [hb w (by simp),List.findSome?_cons]
    cases q:r w with
    | none=>
      have z:=B4H (k:=k) e r o ws fun w hw=> hb w (by simp [hw])
      show (ok h∧Y1 ok body k (ws.map e) () h Q E)=_
      rw [z]
      exact propext ⟨fun z=> z.2,fun z=> ⟨o,z⟩⟩
    | some x=> exact propext ⟨fun z=> z.2,fun z=> ⟨o,z⟩⟩
theorem A9v {α σ τ:Type} {ok:AH→Prop} {body:W→σ→(σ→MC)→(σ→MC)→MC} {k:σ→MC} (e:α→W) (eS:τ→σ) (f:τ→α→τ) (o:ok h) (I:Nat→τ→Prop):∀(l:List α) (t:τ) (i:Nat),I i t→(∀(j:Nat) a,l[j]? =some a→∀t kn kb,I (i+j) t→I (i+j+1) (f t a)∧body (e a) (eS t) kn kb h Q E=kn (eS (f t a)) h Q E)→Y1 ok body k (l.map e) (eS t) h Q E=k (eS (l.foldl f t)) h Q E
  | [],t,i,_,_=> by
    show (ok h∧k (eS t) h Q E)=_
    simp [o]
  | a::l,t,i,h0,hb=> by
    show (ok h∧body (e a) (eS t) (Y1 ok body k (l.map e)) k h Q E)=_
    obtain ⟨i',z⟩:=hb 0 a rfl t (Y1 ok body k (l.map e)) k h0
    rw [z,A9v e eS f o I l (f t a) (i+1) i' fun j b hj t kn kb hi=> ?_,List.foldl_cons]
    · exact propext ⟨fun z=> z.2,fun z=> ⟨o,z⟩⟩
    · have z:=hb (j+1) b (by simpa using hj) t kn kb (by rwa [show i+(j+1)=i+1+j by omega])
      rwa [show i+(j+1)+1=i+1+j+1 by omega] at z
theorem B4n {α:Type} {ok:AH→Prop} {body:W→Unit→(Unit→MC)→(Unit→MC)→MC} {k:Unit→MC} (e:α→W) (o:ok h):∀l:List α,(∀a∈l,∀kn kb,kn () h Q E→body (e a) () kn kb h Q E)→k () h Q E→Y1 ok body k (l.map e) () h Q E
  | [],_,z=> ⟨o,z⟩
  | a::l,hb,z=> ⟨o,hb a (by simp) _ _ (B4n e o l (fun b hm=> hb b (by simp [hm])) z)⟩
theorem C6N {neg:Bool} {a b:Str} {k:SV→MC}:D4 (oInS neg) (.val (.str a)) (.val (.str b)) k=k (.val (.bl (if neg=true then !A0t a b else A0t a b))):=rfl
theorem B5P {xs:List W} {j:Int} {k:SV→MC}:D4 oMulX (.val (.lst xs)) (.val (.int j)) k=J9 (-(2 ^ 63)≤j∧j < 2 ^ 63∧xs.length*j.toNat≤sizeLine) (k (.own (.seq (List.replicate j.toNat xs).flatten))):=by
  funext h Q E
  exact propext ⟨fun ⟨ys,e,z1,z2⟩=> (by cases e;exact ⟨z1,z2⟩),fun ⟨z1,z2⟩=> ⟨xs,rfl,z1,z2⟩⟩
theorem C3Z {i:Int} {k:Str→MC}:B2C (.val (.int i)) k=J9 (i.natAbs.log2 < 1920) (k (toString i)):=rfl
theorem C5J {i:Int} {k:SV→MC}:cb A1N [.val (.int i)] k=J9 (i.natAbs.log2 < 1920) (k (.val (.str (toString i)))):=rfl
theorem C4S {o:M5} {y:SV} {k:SV→MC} {c:Cont} (e:h a=some (.cont c)):D4 o (.val (.ref a)) y k h Q E=D4 o (.own c) y k h Q E:=by
  unfold D4
  rw [A09 e]
  rfl
theorem C4o {o:L4} {k:SV→MC} {c:Cont} (e:h a=some (.cont c)):cb o [.val (.ref a)] k h Q E=cb o [.own c] k h Q E:=by
  unfold cb
  rw [List.map_cons,List.map_nil,A09 e]
  rfl
theorem B49:∀{l:List (Str×W)} {s:Str},l.lookup s=none→(l.any fun p=> decide (p.1=s))=false
  | [],_,_=> rfl
  | (g,u)::l,s,e=> by
    rw [List.lookup_cons] at e
    cases q:s==g with
    | true=> rw [q] at e;cases e
    | false=>
      rw [q] at e
      rw [List.any_cons,B49 e,Bool.or_false]
      exact decide_eq_false fun z=> by
        have z:g=s:=z
        rw [z,beq_self_eq_true] at q
        cases q
theorem A93 {l:List (Str×W)} {s:Str} {w:W} (e:l.lookup s=none):Q9 l s w=l++[(s,w)]:=by
  unfold Q9
  rw [B49 e]
  rfl
theorem C28 {ma:D5} {k:MC} {ws:List W} (e:h a=some (.cont (.seq ws))) (l:ws.length < sizeLine) (hm:∀K:List W→MC,ma K h Q E=K [w] h Q E):lmR i6 (.val (.ref a)) ma k h Q E=k (B9 h a (.cont (.seq (ws++[w])))) Q E:=by
  show ((∃xs,h a=some (.cont (.seq xs)))∧ma _ h Q E)=_
  rw [hm]
  show (_∧(match h a with
    | some (.cont (.seq xs))=> i6 xs [w] fun xs' _=> k (B9 h a (.cont (.seq xs'))) Q E
    | _=> False))=_
  rw [e]
  exact propext ⟨fun z=> z.2.2,fun z=> ⟨⟨ws,rfl⟩,l,z⟩⟩
end
end Ab
namespace Ab
open PySem PySem.Spec PyProof.Rows L2 RZ
def B2I (xs:List SV) (k:List W→MC):MC:=match xs with
  | [x,y,z]=> R3 x fun i=> R3 y fun j=> R3 z fun c=> J9 (c= -1∧ -(2 ^ 62)≤i∧i < 2 ^ 62∧ -(2 ^ 62)≤j∧j < 2 ^ 62) (k (B7a i (i - j).toNat))
  | _=> bad
def C5t (a:CS):D5:=fun k=> a fun xs=> B2I xs k
section
variable {Q:RR→AH→Prop} {E:AExc→AH→Prop} {env:A0} {tr:V4} {mr:CS}
@[simp] theorem C70 {a:CS} {k:List W→MC}:C5t a k=a fun w=> B2I w k:=rfl
@[simp] theorem C7s {i j:Int} {k:List W→MC}:B2I [.val (.int i),.val (.int j),.val (.int (-1))] k=J9 (-(2 ^ 62)≤i∧i < 2 ^ 62∧ -(2 ^ 62)≤j∧j < 2 ^ 62) (k (B7a i (i - j).toNat)):=by
  funext h Q E
  exact propext ⟨fun ⟨a,z⟩=> ⟨a.2,z⟩,fun ⟨a,z⟩=> ⟨⟨rfl,a⟩,z⟩⟩
end
end Ab
namespace Ab
open PySem PySem.Spec PyProof.Rows L2 RZ
section
variable {Q:RR→AH→Prop} {E:AExc→AH→Prop} {h:AH} {l:List (Str×W)} {s:Str} {u w:W}
theorem C21 {k:SV→MC} (hu:l.lookup s=some u):A26 (.val (O2 l)) (.str s) k=k (.val u):=by
  funext h Q E
  unfold A26
  rw [show K3 h (.val (O2 l))= .wv (O2 l) from rfl,B5g rfl hu]
  rfl
end
def B7X (x:SV) (w:W) (k:SV→MC):MC:=fun h Q E=> match x with
  | .own (.map kvs)=> ∃l s,kvs=smap l∧w= .str s∧(l.lookup s).isSome=true∧k (.own (.map (smap (W4 l s)))) h Q E
  | _=> False
def C6l (x:SV) (mk:CW) (k:SV→MC):MC:=fun h Q E=> (∃l,x= .own (.map (smap l)))∧mk (fun w=> B7X x w k) h Q E
def itK (w:W) (k:List W→MC):MC:=fun h Q E=> ∃l,w=O2 l∧k (l.map fun p=> W.str p.1) h Q E
def B11 (a:CW):D5:=fun k=> a fun w=> itK w k
def B1k (x y:SV) (k:SV→SV→MC):MC:=match x,y with
  | .own c,.own d=> k (.own c) (.own d)
  | _,_=> bad
def C6n (a b:CE) (k:SV→SV→MC):MC:=a fun x=> b fun y=> B1k x y k
def C6P (mv:CW) (x:SV) (mk1:CW) (y:SV) (mk2:SV→CW) (k:SV→SV→MC):MC:=mv fun w=> un2 w fun a b=> mk1 fun w1=> A36 x w1 a fun x'=> mk2 x' fun w2=> A36 y w2 b fun y'=> k x' y'
def C5x (mv:CW) (m1:CE) (mk1:CW) (m2:CE) (mk2:CW) (m3:CE) (mk3:CW) (k:MC):MC:=mv fun w=> un3 w fun a b c=> m1 fun x=> mk1 fun w1=> f8 x w1 a (m2 fun y=> mk2 fun w2=> f8 y w2 b (m3 fun z=> mk3 fun w3=> f8 z w3 c k))
section
variable {Q:RR→AH→Prop} {E:AExc→AH→Prop} {env:A0} {t t1 t2 t3 ta tb:AT} {m m1 m2 m3 ma mb:CE} {tv tv2 tk1 tk2 tk3:D3} {mv mv2 mk1 mk2 mk3:CW} {D:AEnds} {i j:Nat}
@[simp] theorem C8p {l:List (Str×W)} {mk:CW} {k:SV→MC}:C6l (.own (.map (smap l))) mk k=mk fun w=> B7X (.own (.map (smap l))) w k:=by
  funext h Q E
  exact propext ⟨fun z=> z.2,fun z=> ⟨⟨l,rfl⟩,z⟩⟩
@[simp] theorem C40 {a:CW} {k:List W→MC}:B11 a k=a fun w=> itK w k:=rfl
@[simp] theorem C8e {a b:CE} {k:SV→SV→MC}:C6n a b k=a fun x=> b fun y=> B1k x y k:=rfl
@[simp] theorem C7d {c d:Cont} {k:SV→SV→MC}:B1k (.own c) (.own d) k=k (.own c) (.own d):=rfl
@[simp] theorem C71 {mv:CW} {x:SV} {mk1:CW} {y:SV} {mk2:SV→CW} {k:SV→SV→MC}:C6P mv x mk1 y mk2 k=mv fun w=> un2 w fun a b=> mk1 fun w1=> A36 x w1 a fun x'=> mk2 x' fun w2=> A36 y w2 b fun y'=> k x' y':=rfl
@[simp] theorem C8U {mv:CW} {m1:CE} {mk1:CW} {m2:CE} {mk2:CW} {m3:CE} {mk3:CW} {k:MC}:C5x mv m1 mk1 m2 mk2 m3 mk3 k=mv fun w=> un3 w fun a b c=> m1 fun x=> mk1 fun w1=> f8 x w1 a (m2 fun y=> mk2 fun w2=> f8 y w2 b (m3 fun z=> mk3 fun w3=> f8 z w3 c k)):=rfl
theorem C5y {l:List (Str×W)} {k:List W→MC}:itK (O2 l) k=k (l.map fun p=> W.str p.1):=by
  funext h Q E
  exact propext ⟨fun ⟨l',e,z⟩=> by cases A7U e;exact z,fun z=> ⟨l,rfl,z⟩⟩
theorem C46 (a:SA Q E env tv mv):SA Q E env (B1I tv) (B11 mv):=fun h k K hk z=> a h _ _ (fun w h1 ⟨l,e,z⟩=> ⟨l,e,hk _ _ z⟩) z
end
end Ab
namespace Ab
open PySem PySem.Spec PyProof.Rows L2 RZ
theorem C3y:LmM A1V:=fun xs ws Q Q' k q=> by
  unfold A1V at q ⊢
  split at q
  · obtain ⟨ys,e,m,q⟩:=q
    exact ⟨ys,e,m,k _ _ q⟩
  · exact q
theorem B5m:∀{a b:List Str},a.map W.str=b.map W.str→a=b
  | [],[],_=> rfl
  | [],_::_,e=> by cases e
  | _::_,[],e=> by cases e
  | x::a,y::b,e=> by
    rw [List.map_cons,List.map_cons] at e
    injection e with e1 e2
    injection e1 with e1
    rw [e1,B5m e2]
@[simp] theorem C7b {xs:List W} {i:Int} {w:W} {k1:SV→W→MC}:lm C4Q (.own (.seq xs)) [.int i,w] k1=J9 (xs.length < sizeLine∧0≤i∧i < 2 ^ 63) (k1 (.own (.seq (xs.take i.toNat++[w]++xs.drop i.toNat))) .non):=by
  funext h Q E
  exact propext ⟨fun ⟨a,b,c,z⟩=> ⟨⟨a,b,c⟩,z⟩,fun ⟨⟨a,b,c⟩,z⟩=> ⟨a,b,c,z⟩⟩
@[simp] theorem C7a {xs:List W} {k1:SV→W→MC}:lm C11 (.own (.seq xs)) [] k1=k1 (.own (.seq xs.reverse)) .non:=rfl
@[simp] theorem C7g {xs:List W} {k1:SV→W→MC}:lm C4y (.own (.seq xs)) [] k1=k1 (.own (.seq [])) .non:=rfl
def A86 (x:SV) (k:MC):MC:=fun h Q E=> isM (K3 h x)∧k h Q E
def A8C (x:SV) (w d:W) (k:SV→MC):MC:=fun h Q E=> A8c (K3 h x) w d fun r=> g9 k r h Q E
def B0q (m:CE) (mk md:CW):CE:=fun k=> m fun x=> A86 x (mk fun w=> md fun d=> A8C x w d k)
theorem C1Y {v:Vw} {w d:W} {P P':RV→Prop} (k:∀r,P r→P' r) (z:A8c v w d P):A8c v w d P':=let ⟨l,s,a,b,c⟩:=z;⟨l,s,a,b,k _ c⟩
section
variable {Q:RR→AH→Prop} {E:AExc→AH→Prop} {env:A0} {t:AT} {m:CE} {tv tv2:D3} {mv mv2:CW}
theorem C2o (b:SE Q E env t m) (a:SA Q E env tv mv) (c:SA Q E env tv2 mv2):SN Q E env (aGetMD t tv tv2) (B0q m mv mv2):=fun h k K hk z=> b h _ _ (fun r x h1 rl z=> by
  refine ⟨by rw [R9 rl];exact z.1,a h1 _ _ (fun w h2 z=> c h2 _ _ (fun d h3 z=> ?_) z) z.2⟩
  rw [R9 rl]
  exact C1Y (fun r z=> A22 hk r z) z) z
end
@[simp] theorem C3G {m:CE} {mk md:CW} {k:SV→MC}:B0q m mk md k=m fun x=> A86 x (mk fun w=> md fun d=> A8C x w d k):=rfl
section
variable {h:AH} {Q:RR→AH→Prop} {E:AExc→AH→Prop} {a:Addr} {l:List (Str×W)} {s:Str}
theorem C39 {k:MC} (e:h a=some (.cont (.map (smap l)))):A86 (.val (.ref a)) k h Q E=k h Q E:=by
  unfold A86
  rw [A09 e]
  exact propext ⟨fun z=> z.2,fun z=> ⟨⟨l,cvM⟩,z⟩⟩
theorem C1k {d:W} {k:SV→MC} (e:h a=some (.cont (.map (smap l)))):A8C (.val (.ref a)) (.str s) d k h Q E=k (.val ((l.lookup s).getD d)) h Q E:=by
  unfold A8C
  rw [A09 e]
  refine propext ⟨fun ⟨l',s',z1,z2,z3⟩=> ?_,fun z=> ⟨l,s,cvM,rfl,z⟩⟩
  rw [cvM] at z1
  cases A7U z1
  cases z2
  exact z3
end
def B2Q (x:SV) (k:MC):MC:=fun h Q E=> match x with
  | .val (.ref a)=> (∃l,h a=some (.cont (.map (smap l))))∧k h Q E
  | _=> False
def B14 (m:CE) (mk:CW) (k:MC):MC:=m fun x=> B2Q x (mk fun w=> A6V x w k)
section
variable {Q:RR→AH→Prop} {E:AExc→AH→Prop} {env:A0} {D:AEnds} {t:AT} {m:CE} {tv:D3} {mv:CW}
theorem C4B {k:MC} (o:SN Q E env t m) (b:SA Q E env tv mv) (n:∀h,k h Q E→D.nx env h):∀h,B14 m mv k h Q E→T6 (B1X t tv) D env h:=fun h z=>
  o h _ _ (fun x h2 z=> by
    cases x with
    | own c=> exact z.elim
    | val w0=>
      cases w0 with
      | ref p=>
        obtain ⟨⟨l0,e0⟩,z⟩:=z
        refine ⟨⟨l0,u1 e0⟩,b h2 _ _ (fun w h3 zz=> ?_) z⟩
        obtain ⟨l,s,z1,z2,z3,z4⟩:=zz
        obtain ⟨u,hu⟩:=Option.isSome_iff_exists.mp z3
        exact ⟨l,s,u,u1 z1,z2,hu,n _ z4⟩
      | _=> exact z.elim) z
end
@[simp] theorem C5d {m:CE} {mk:CW} {k:MC}:B14 m mk k=m fun x=> B2Q x (mk fun w=> A6V x w k):=rfl
theorem C3r {h:AH} {Q:RR→AH→Prop} {E:AExc→AH→Prop} {a:Addr} {l:List (Str×W)} {k:MC} (e:h a=some (.cont (.map (smap l)))):B2Q (.val (.ref a)) k h Q E=k h Q E:=
  propext ⟨fun z=> z.2,fun z=> ⟨⟨l,e⟩,z⟩⟩
end Ab
namespace Ab
open PySem PySem.Spec PyProof.Rows L2 RZ
@[simp] theorem C8A {i:Int} {k:SV→MC}:cb B62 [.val (.int i)] k=J9 (i.natAbs.log2 < 1920) (k (.val (.str (toString i)))):=rfl
@[simp] theorem C8F {x:Str} {k:SV→MC}:cb B62 [.val (.str x)] k=k (.val (.str x)):=rfl
def A6Q (x:SV) (k:MC):MC:=fun h Q E=> (∃s,K3 h x= .wv (.str s))∧k h Q E
def B6w (x y:SV) (k:SV→MC):MC:=fun h Q E=> ∃(s:Str) (ys:List Str),K3 h x= .wv (.str s)∧(K3 h y).items=some (ys.map W.str)∧(ys.map (·.length)).sum+ys.length*s.length≤16777216∧k (.val (.str (Txt.join s ys))) h Q E
def C5z (m me:CE):CE:=fun k=> m fun x=> A6Q x (me fun y=> B6w x y k)
section
variable {Q:RR→AH→Prop} {E:AExc→AH→Prop} {env:A0} {t te:AT} {m me:CE}
end
@[simp] theorem C8q {m me:CE} {k:SV→MC}:C5z m me k=m fun x=> A6Q x (me fun y=> B6w x y k):=rfl
@[simp] theorem C7l {s:Str} {k:MC}:A6Q (.val (.str s)) k=k:=by
  funext h Q E
  exact propext ⟨fun z=> z.2,fun z=> ⟨⟨s,rfl⟩,z⟩⟩
end Ab
namespace Ab
open PySem PySem.Spec PyProof.Rows L2 RZ
def eM1 (o:L4) (m me:CE):CE:=fun k=> m fun x=> A6Q x (me fun y=> cb o [x,y] k)
def C6d (neg:Bool) (tab:List (Str×Int)) (mk:CW):CE:=fun k=> mk fun w=> fun h Q E=> ∃s,w= .str s∧k (.val (.bl (if neg=true then !(n7 tab s).isSome else (n7 tab s).isSome))) h Q E
def C6L (tab:List (Str×Int)) (mk:CW):CE:=fun k=> mk fun w=> fun h Q E=> ∃s i,w= .str s∧n7 tab s=some i∧k (.val (.int i)) h Q E
section
variable {Q:RR→AH→Prop} {E:AExc→AH→Prop} {env:A0} {t te:AT} {m me:CE} {tv:D3} {mv:CW}
end
def B63 (neg:Bool) (tab:List (Str×Int)) (w:W) (k:SV→MC):MC:=fun h Q E=> ∃s,w= .str s∧k (.val (.bl (if neg=true then !(n7 tab s).isSome else (n7 tab s).isSome))) h Q E
def C5r (tab:List (Str×Int)) (w:W) (k:SV→MC):MC:=fun h Q E=> ∃s i,w= .str s∧n7 tab s=some i∧k (.val (.int i)) h Q E
@[simp] theorem C9j {o:L4} {m me:CE} {k:SV→MC}:eM1 o m me k=m fun x=> A6Q x (me fun y=> cb o [x,y] k):=rfl
@[simp] theorem C9B {neg:Bool} {tab:List (Str×Int)} {mk:CW} {k:SV→MC}:C6d neg tab mk k=mk fun w=> B63 neg tab w k:=rfl
@[simp] theorem C85 {tab:List (Str×Int)} {mk:CW} {k:SV→MC}:C6L tab mk k=mk fun w=> C5r tab w k:=rfl
@[simp] theorem C9F {neg:Bool} {tab:List (Str×Int)} {s:Str} {k:SV→MC}:B63 neg tab (.str s) k=k (.val (.bl (if neg=true then !(n7 tab s).isSome else (n7 tab s).isSome))):=by
  funext h Q E
  exact propext ⟨fun ⟨s',e,z⟩=> by injection e with e;subst e;exact z,fun z=> ⟨s,rfl,z⟩⟩
@[simp] theorem C8L {a b:Str} {k:SV→MC}:cb C4n [.val (.str a),.val (.str b)] k=J9 ((b.length==0)=false∧a.length+2≤sizeLine) (k (.own (.seq ((Txt.split a b).map W.str)))):=by
  funext h Q E
  exact propext ⟨fun ⟨a,b,z⟩=> ⟨⟨a,b⟩,z⟩,fun ⟨⟨a,b⟩,z⟩=> ⟨a,b,z⟩⟩
end Ab
namespace Ab
open PySem PySem.Spec PyProof.Rows L2 RZ
@[simp] theorem C9H {b:Bool} {k:SV→MC}:cb C6J [.val (.bl b)] k=k (.val (.int (if b then 1 else 0))):=rfl
end Ab
namespace Ab
open PySem PySem.Spec PyProof.Rows L2 RZ
end Ab
namespace Ab
open PySem PySem.Spec PyProof.Rows L2 RZ
def B01 (x:W) (f:W→CE):CE:=fun k h Q E=> ∃q l,x= .ref q∧h q=some (.cont (.map (smap l)))∧f (O2 l) (fun r=> fun _ _ _=> ∃b,r= .val (.bl b)∧k (.val (.bl b)) h Q E) (fun _=> none) Q E
theorem C2U {Q:RR→AH→Prop} {E:AExc→AH→Prop} {env:A0} {t:AT} {i:Nat} {x:W} {f:W→CE} {envL:W→A0} (e:env[i]? =some (some (.val x))) (he:∀w,(noE env).set i (some (.val w))=envL w) (a:∀w,SE Q E (envL w) t (f w)):SN Q E env (B0v i t) (B01 x f):=fun h k K hk ⟨q,l,ex,hq,z⟩=> by
  subst ex
  refine ⟨q,l,e,hq,?_⟩
  rw [he]
  refine a _ _ _ _ (fun r s h' rl ⟨b,es,z⟩=> ?_) z
  subst es
  refine ⟨b,?_,hk _ _ z⟩
  cases r with
  | val w=> cases rl;rfl
  | own c=> cases rl
  | slot i=> obtain ⟨c,e,_⟩:=rl;cases e
theorem C2k {q:Addr} {l:List (Str×W)} {f:W→CE} {k:SV→MC} {h:AH} {Q:RR→AH→Prop} {E:AExc→AH→Prop} {b:Bool} (hq:h q=some (.cont (.map (smap l)))) (e:∀k':SV→MC,f (O2 l) k'=k' (.val (.bl b))):B01 (.ref q) f k h Q E=k (.val (.bl b)) h Q E:=by
  refine propext ⟨fun ⟨q',l',e1,e2,z⟩=> ?_,fun z=> ⟨q,l,rfl,hq,?_⟩⟩
  · cases e1
    rw [hq] at e2
    have e3:O2 l=O2 l':=by
      injection e2 with e2
      injection e2 with e2
      show (Cont.map (smap l)).fz=_
      injection e2 with e2
      rw [e2]
    rw [←e3,e] at z
    obtain ⟨b',e4,z⟩:=z
    cases e4
    exact z
  · rw [e]
    exact ⟨b,rfl,z⟩
end Ab
namespace Ab
open PySem PySem.Spec PyProof.Rows L2 RZ
def V3 (ss:List Int):Prop:=1≤ss.length∧ss.length≤6∧∀s∈ss,1≤s∧s≤40
inductive Dd where
  | swap (i j:Nat) | tap (n:Int) (c:Nat) | drain (n:Int) (c:Nat) | over (n:Int) (cs:List Nat) | down (n:Int) (cs:List Nat)
abbrev P7 (c:Nat):W:= .int (c:Int)
def Dd.w:Dd→W
  | .swap i j=> .tup [.str "swap",P7 i,P7 j]
  | .tap n c=> .tup [.str "tap",.int n,P7 c]
  | .drain n c=> .tup [.str "drain",.int n,P7 c]
  | .over n cs=> .tup (.str "over":: .int n::cs.map P7)
  | .down n cs=> .tup (.str "down":: .int n::cs.map P7)
def B7R (ss:List Int) (cs:List Nat):Prop:=2≤cs.length∧cs.length≤ss.length∧cs.Nodup∧∀c∈cs,c < ss.length
def z8:Int:=1000000000000000000000000000000
def Dd.ok (ss:List Int):Dd→Prop
  | .swap i j=> i < ss.length∧j < ss.length∧i≠j∧ss[i]? =ss[j]?
  | .tap n c=> 0≤n∧n < z8∧c < ss.length
  | .drain n c=> 0≤n∧n < z8∧c < ss.length
  | .over n cs=> 0≤n∧n < z8∧B7R ss cs
  | .down n cs=> 0≤n∧n < z8∧B7R ss cs
theorem B0a {c:Nat}:P7 c= .int (c:Int):=rfl
theorem C59 (d:Dd):d.w.nb 1=true:=by
  cases d <;> refine B1B (n:=0) fun x hx=> ?_
  all_goals simp only [List.mem_cons,List.not_mem_nil,or_false,List.mem_map] at hx
  · rcases hx with rfl | rfl | rfl <;> rfl
  · rcases hx with rfl | rfl | rfl <;> rfl
  · rcases hx with rfl | rfl | rfl <;> rfl
  · rcases hx with rfl | rfl | ⟨c,_,rfl⟩ <;> rfl
  · rcases hx with rfl | rfl | ⟨c,_,rfl⟩ <;> rfl
theorem A3S (n:Nat):T1 0 n=(List.range n).map P7:=C3Y
def Dd.word:Dd→Str
  | .swap _ _=> "swap"
  | .tap _ _=> "tap"
  | .drain _ _=> "drain"
  | .over _ _=> "over"
  | .down _ _=> "down"
def Dd.rest:Dd→List W
  | .swap i j=> [P7 i,P7 j]
  | .tap n c=> [.int n,P7 c]
  | .drain n c=> [.int n,P7 c]
  | .over n cs=> .int n::cs.map P7
  | .down n cs=> .int n::cs.map P7
theorem Dd.w_eq (d:Dd):d.w= .tup (.str d.word::d.rest):=by cases d <;> rfl
end Ab
namespace Ab
open PySem PySem.Spec PyProof.Rows L2 RZ
def A40 (x_script:W):MC:=
  ((Q5 (A6 (A2 (E6 Q4 (C7 (eSl (eV (.val x_script)) oNo (A3x (eC (.int 63)))) D7))) (A6 (A2 (eC (.int 0))) (A6 (A2 (eC (.int 0))) (A6 (A2 (eC (.int 9465))) (A6 (A2 (eC (.int 0))) B4)))))) ret)
def A2g:List W→MC
  | [x_script]=> A40 x_script
  | _=> bad
def A4y (x_bag x_sides:W):MC:=
  (join (fun (s1:SV)=> (K5 (E4 (A8 oGe (A8 oIx (eV s1) (eC (.int 2))) (eV (.val x_sides)))) ((A2 (A8 T0 (A8 oIx (eV s1) (eC (.int 2))) (eV (.val x_sides)))) fun x_side=> (u9 (A2 (A8 o5 (A8 oIx (eV s1) (eC (.int 2))) (eV (.val x_sides)))) s1 (eC (.int 2)) fun x_bag=> ((eV (.val x_side)) ret))) (u9 (A2 (A8 oAdd (A8 oIx (eV s1) (eC (.int 4))) (eC (.int 1)))) s1 (eC (.int 4)) fun x_bag=> ((A2 (A8 oIx (eV x_bag) (eC (.int 3)))) fun x_mix=> (u9 (A2 (A8 T0 (A8 oAdd (A8 oAdd (A8 oAdd (A8 oMulT (A8 T0 (A8 oMulT (eV (.val x_mix)) (eV (.val x_mix))) (eC (.int 2147483629))) (eC (.int 5))) (A8 oMulT (eV (.val x_mix)) (eC (.int 16811)))) (A8 oMulT (eC (.int 7919)) (A8 oIx (eV x_bag) (eC (.int 4))))) (eC (.int 2531011))) (eC (.int 2147483647)))) x_bag (eC (.int 3)) fun x_bag=> ((A8 T0 (A8 oAdd (A8 o5 (A8 oIx (eV x_bag) (eC (.int 3))) (eC (.int 61))) (A8 oMulT (A8 T0 (A8 oIx (eV x_bag) (eC (.int 3))) (eC (.int 8191))) (eC (.int 31)))) (eV (.val x_sides))) ret)))))) fun kj3=> (K5 (tAnd (E4 (A8 oLt (A8 oIx (eV (.val x_bag)) (eC (.int 2))) (eV (.val x_sides)))) (E4 (A8 oLt (A8 oIx (eV (.val x_bag)) (eC (.int 1))) (E6 D2 (C7 (A8 oIx (eV (.val x_bag)) (eC (.int 0))) D7))))) ((A2 (A8 oIx (A8 oIx (eV (.val x_bag)) (eC (.int 0))) (A8 oIx (eV (.val x_bag)) (eC (.int 1))))) fun x_cell=> (u9 (A2 (A8 oAdd (A8 oIx (eV (.val x_bag)) (eC (.int 1))) (eC (.int 1)))) (.val x_bag) (eC (.int 1)) fun x_bag=> (u9 (A2 (eC (.int 0))) x_bag (eC (.int 2)) fun x_bag=> (K5 (E4 (A8 oGe (eV (.val x_cell)) (A8 A2R (eC (.int 10)) (eC (.int 18))))) (u9 (A2 (eV (.val x_cell))) x_bag (eC (.int 2)) fun x_bag=> (kj3 x_bag)) (u9 (A2 (A8 T0 (A8 oAdd (A8 oAdd (A8 oMulT (A8 oIx (eV x_bag) (eC (.int 3))) (eC (.int 48271))) (A8 oMulT (A8 T0 (eV (.val x_cell)) (eC (.int 2147483629))) (eC (.int 69621)))) (eC (.int 12345))) (eC (.int 2147483647)))) x_bag (eC (.int 3)) fun x_bag=> (kj3 x_bag)))))) (kj3 (.val x_bag))))
def E8:List W→MC
  | [x_bag,x_sides]=> A4y x_bag x_sides
  | _=> bad
def A45 (x_bag x_row:W):MC:=
  ((A8 oIx (eV (.val x_row)) (G3 E8 (A6 (A2 (eV (.val x_bag))) (A6 (A2 (E6 D2 (C7 (eV (.val x_row)) D7))) B4)))) ret)
def R4:List W→MC
  | [x_bag,x_row]=> A45 x_bag x_row
  | _=> bad
section
variable {Q:RR→AH→Prop} {E:AExc→AH→Prop} {h:AH} {p:Addr} {xs:List W}
theorem B0c {σ:Type} {k:σ→MC} {f:(σ→MC)→MC} (P:σ→AH→Prop) (hk:∀s h,P s h→k s h Q E) (hf:∀kk:σ→MC,(∀s h,P s h→kk s h Q E)→f kk h Q E):join k f h Q E:=hf k hk
theorem A0p {i:Int} {k:SV→MC} (e:h p=some (.cont (.seq xs))):D4 oIx (.val (.ref p)) (.val (.int i)) k h Q E=V5 xs i (fun w=> k (.val w)) h Q E:=by
  have ev:K3 h (.val (.ref p))= .cv (.seq xs):=by
    show (match h p with
      | some (.cont c)=> Vw.cv c
      | _=> .wv (.ref p))=_
    rw [e]
  show oIx (K3 h (.val (.ref p))) (.wv (.int i)) _=_
  rw [ev,B41 rfl (fun _ z=> by cases z)]
  unfold V5
  cases L2.atI xs i <;> rfl
theorem A2s {i:Int} {w:W} {k:SV→MC} {j:Nat} (e:h p=some (.cont (.seq xs))) (ej:ixN xs.length i=some j):A2J (.val (.ref p)) (.val (.int i)) w k h Q E=k (.val (.ref p)) (B9 h p (.cont (.seq (xs.set j w)))) Q E:=by
  show (match h p with
      | some (.cont (.seq xs))=> ∃j,ixN xs.length i=some j∧k (.val (.ref p)) (B9 h p (.cont (.seq (xs.set j w)))) Q E
      | _=> False)=_
  rw [e]
  show (∃j,ixN xs.length i=some j∧k (.val (.ref p)) (B9 h p (.cont (.seq (xs.set j w)))) Q E)=_
  rw [ej]
  refine propext ⟨fun ⟨_,a,b⟩=> ?_,fun z=> ⟨j,rfl,z⟩⟩
  cases a
  exact b
theorem A0n {b:Prop} [Decidable b] {A B:MC} (x:b→A h Q E) (y:¬b→B h Q E):(if b then A else B) h Q E:=by
  split
  · exact x ‹_›
  · exact y ‹_›
end
def A6J (ns:List Int) (i b m c:Int):AO:= .cont (.seq [.lst (ns.map .int),.int i,.int b,.int m,.int c])
def Bag (n:Nat) (h:AH) (p:Addr):Prop:=∃(ns:List Int) (i b m c:Int),h p=some (A6J ns i b m c)∧0≤i∧i≤ns.length∧0≤b∧0≤m∧m < 2147483648∧0≤c∧c≤n
theorem Bag.le {n m:Nat} {h:AH} {p:Addr} (b:Bag n h p) (l:n≤m):Bag m h p:=let ⟨ns,i,x,y,c,a1,a2,a3,a4,a5,a6,a7,a8⟩:=b;⟨ns,i,x,y,c,a1,a2,a3,a4,a5,a6,a7,by omega⟩
def Dr (c:Nat) (m:Addr→MC) (P:RR→Prop):Prop:=∀(p:Addr) (n:Nat) (h:AH) (Q:RR→AH→Prop) (E:AExc→AH→Prop),Bag n h p→n+c≤1000000000000000→(∀r h',P r→Bag (n+c) h' p→Bt p h h'→Q r h')→m p h Q E
section
variable {Q:RR→AH→Prop} {E:AExc→AH→Prop} {h:AH} {p:Addr} {n c:Nat} {m:Addr→MC} {P:RR→Prop} {K:SV→MC}
theorem Dr.call (d:Dr c m P) (b:Bag n h p) (l:n+c≤1000000000000000) (q:∀r h',P r→Bag (n+c) h' p→Bt p h h'→K r.sv h' Q E):call (m p) K h Q E:=d p n h _ _ b l q
theorem Dr.call0 (d:Dr c m P) (b:Bag n h p) (l:n+c≤1000000000000000) (q:∀r h',P r→Bag (n+c) h' p→Bt p h h'→K r.sv h' Q E):call0 (m p) K h Q E:=d p n h _ _ b l q
theorem Dr.imp {P':RR→Prop} {c':Nat} (d:Dr c m P) (i:∀r,P r→P' r) (l:c≤c'):Dr c' m P':=fun p n h Q E b l' q=> d p n h Q E b (by omega) fun r h' z b' t=> q r h' (i r z) (b'.le (by omega)) t
end
theorem C2Z {ns:List Int} {i b m c s:Int} {h:AH} {p:Addr} {Q:RR→AH→Prop} {E:AExc→AH→Prop} (hp:h p=some (A6J ns i b m c)) (i0:0≤i) (i1:i≤ns.length) (b0:0≤b) (m0:0≤m) (m1:m < 2147483648) (c0:0≤c)
    (c1:c≤1000000000000000) (s1:1≤s) (cd:∀b:Int,CDivW b s)
    (q:∀k h',0≤k→k < s→(∃b' m' c',h' p=some (A6J ns i b' m' c')∧0≤b'∧0≤m'∧m' < 2147483648∧0≤c'∧c'≤c+1)→Bt p h h'→Q (.val (.int k)) h'):
    (K5 (E4 (A8 oGe (A8 oIx (eV (.val (.ref p))) (eC (.int 2))) (eV (.val (.int s))))) ((A2 (A8 T0 (A8 oIx (eV (.val (.ref p))) (eC (.int 2))) (eV (.val (.int s))))) fun x_side=> (u9 (A2 (A8 o5 (A8 oIx (eV (.val (.ref p))) (eC (.int 2))) (eV (.val (.int s))))) (.val (.ref p)) (eC (.int 2)) fun x_bag=> ((eV (.val x_side)) ret))) (u9 (A2 (A8 oAdd (A8 oIx (eV (.val (.ref p))) (eC (.int 4))) (eC (.int 1)))) (.val (.ref p)) (eC (.int 4)) fun x_bag=> ((A2 (A8 oIx (eV x_bag) (eC (.int 3)))) fun x_mix=> (u9 (A2 (A8 T0 (A8 oAdd (A8 oAdd (A8 oAdd (A8 oMulT (A8 T0 (A8 oMulT (eV (.val x_mix)) (eV (.val x_mix))) (eC (.int 2147483629))) (eC (.int 5))) (A8 oMulT (eV (.val x_mix)) (eC (.int 16811)))) (A8 oMulT (eC (.int 7919)) (A8 oIx (eV x_bag) (eC (.int 4))))) (eC (.int 2531011))) (eC (.int 2147483647)))) x_bag (eC (.int 3)) fun x_bag=> ((A8 T0 (A8 oAdd (A8 o5 (A8 oIx (eV x_bag) (eC (.int 3))) (eC (.int 61))) (A8 oMulT (A8 T0 (A8 oIx (eV x_bag) (eC (.int 3))) (eC (.int 8191))) (eC (.int 31)))) (eV (.val (.int s)))) ret))))) h Q E:=by
  have cd:=cd b
  have hp':h p=some (.cont (.seq [.lst (ns.map .int),.int i,.int b,.int m,.int c])):=hp
  have e2:ixN 5 2=some 2:=rfl
  have e3:ixN 5 3=some 3:=rfl
  have e4:ixN 5 4=some 4:=rfl
  simp only [M1,K4,F4,C3,D8,A0p hp',A29,B19,F0,decide_eq_true_eq]
  refine A0n (fun _=> ?_) fun _=> ?_
  · simp only [E5,F4,C3,D8,A5u,A0p hp',A29,A8h,B0s,m6,C2]
    refine ⟨by omega,cd,?_⟩
    rw [A2s hp' e2]
    exact q _ _ (Int.emod_nonneg _ (by omega)) (Int.emod_lt_of_pos _ (by omega)) ⟨_,_,_,M6,Int.ediv_nonneg b0 (by omega),m0,m1,c0,by omega⟩ .upd
  · simp only [E5,F4,C3,D8,A5u,A0p hp',B7B,o6,C2]
    rw [A2s hp' e4]
    have h1:B9 h p (.cont (.seq ([.lst (ns.map .int),.int i,.int b,.int m,.int c].set 4 (.int (c+1))))) p=some (.cont (.seq [.lst (ns.map .int),.int i,.int b,.int m,.int (c+1)])):=M6
    have x0:0≤m*m % 2147483629:=Int.emod_nonneg _ (by decide)
    have x1:m*m % 2147483629 < 2147483629:=Int.emod_lt_of_pos _ (by decide)
    simp only [E5,F4,C3,D8,A5u,A0p h1,B7B,B1c,o6,A8V,A8h,m6,C2]
    refine ⟨A2E m0 (by omega) m0 (by omega),by decide,A2E x0 (by omega) (by decide) (by decide),A2E m0 (by omega) (by decide) (by decide),A2E (by decide) (by decide) (by omega) (by omega),by decide,?_⟩
    rw [A2s h1 e3]
    generalize m*m % 2147483629*5+m*16811+7919*(c+1)+2531011=y
    have g0:0≤y % 2147483647:=Int.emod_nonneg _ (by decide)
    have g1:y % 2147483647 < 2147483647:=Int.emod_lt_of_pos _ (by decide)
    have w0:0≤y % 2147483647 % 8191:=Int.emod_nonneg _ (by decide)
    have w1:y % 2147483647 % 8191 < 8191:=Int.emod_lt_of_pos _ (by decide)
    have h2:B9 (B9 h p (.cont (.seq ([.lst (ns.map .int),.int i,.int b,.int m,.int c].set 4 (.int (c+1)))))) p (.cont (.seq ([.lst (ns.map .int),.int i,.int b,.int m,.int (c+1)].set 3 (.int (y % 2147483647))))) p=some (.cont (.seq [.lst (ns.map .int),.int i,.int b,.int (y % 2147483647),.int (c+1)])):=M6
    simp only [A0p h2,B1c,o6,A8V,A8h,B0s,m6]
    refine ⟨wide_div (b:=10) (by decide) (by decide) (by decide) (by decide),by decide,A2E w0 (by omega) (by decide) (by decide),by omega,?_⟩
    exact q _ _ (Int.emod_nonneg _ (by omega)) (Int.emod_lt_of_pos _ (by omega)) ⟨_,_,_,M6,b0,g0,by omega,by omega,by omega⟩ (Bt.upd.trans .upd)
theorem C2F {s:Int} (s1:1≤s) (s2:∀b:Int,CDivW b s):Dr 1 (fun p=> E8 [.ref p,.int s]) fun r=> ∃k,r= .val (.int k)∧0≤k∧k < s:=by
  intro p n h Q E ⟨ns,i,b,m,c,hp,i0,i1,b0,m0,m1,c0,c1⟩ hn q
  have q':∀k h',0≤k→k < s→(∃i' b' m' c',h' p=some (A6J ns i' b' m' c')∧0≤i'∧i'≤ns.length∧0≤b'∧0≤m'∧m' < 2147483648∧0≤c'∧c'≤c+1)→Bt p h h'→Q (.val (.int k)) h':=
    fun k h' k0 k1 ⟨i',b',m',c',a0,a1,a2,a3,a4,a5,a6,a7⟩ t=> q _ _ ⟨k,rfl,k0,k1⟩ ⟨ns,i',b',m',c',a0,a1,a2,a3,a4,a5,a6,by omega⟩ t
  clear q
  show A4y (.ref p) (.int s) h Q E
  unfold A4y
  have hp':h p=some (.cont (.seq [.lst (ns.map .int),.int i,.int b,.int m,.int c])):=hp
  refine B0c (fun x k=> x= .val (.ref p)∧∃i' b' m':Int,0≤i'∧i'≤ns.length∧0≤b'∧0≤m'∧m' < 2147483648∧k p=some (A6J ns i' b' m' c)∧Bt p h k) ?_ ?_
  · rintro _ k ⟨rfl,i',b',m',z1,z2,z3,z4,z5,z6,z7⟩
    exact C2Z z6 z1 z2 z3 z4 z5 c0 (by omega) s1 s2 fun k h' k0 k1 ⟨b2,m2,c2,a0,a1,a2,a3,a4,a5⟩ t=> q' k h' k0 k1 ⟨i',b2,m2,c2,a0,z1,z2,a1,a2,a3,a4,a5⟩ (z7.trans t)
  · intro kk hk
    have same:kk (.val (.ref p)) h Q E:=hk _ _ ⟨rfl,i,b,m,i0,i1,b0,m0,m1,hp,.refl⟩
    have e1:ixN 5 1=some 1:=rfl
    have e2:ixN 5 2=some 2:=rfl
    have e3:ixN 5 3=some 3:=rfl
    simp only [M1,A5j,K4,F4,C3,D8,A0p hp',A29,B2D,F0,decide_eq_true_eq]
    refine A0n (fun _=> ?_) fun _=> by rw [if_neg Bool.false_ne_true];exact same
    simp only [K8,K6,K7,F4,C3,D8,A0p hp',A1J,n9,A2A,B2D,F0,decide_eq_true_eq,List.length_map]
    refine A0n (fun h2=> ?_) fun _=> same
    obtain ⟨j,rfl⟩:=Int.eq_ofNat_of_zero_le i0
    have hj:j < ns.length:=by omega
    simp only [E5,F4,C3,D8,A5u,A0p hp',A1J,n9,A3A,A5X hj,o6,C2]
    generalize ns[j]=v
    rw [A2s hp' e1]
    have h1:B9 h p (.cont (.seq ([.lst (ns.map .int),.int (j:Int),.int b,.int m,.int c].set 1 (.int ((j:Int)+1))))) p=some (.cont (.seq [.lst (ns.map .int),.int ((j:Int)+1),.int b,.int m,.int c])):=M6
    rw [A2s h1 e2]
    generalize hk1:B9 (B9 h p (.cont (.seq ([.lst (ns.map .int),.int (j:Int),.int b,.int m,.int c].set 1 (.int ((j:Int)+1)))))) p (.cont (.seq ([.lst (ns.map .int),.int ((j:Int)+1),.int b,.int m,.int c].set 2 (.int 0))))=h2'
    have hp2:h2' p=some (.cont (.seq [.lst (ns.map .int),.int ((j:Int)+1),.int 0,.int m,.int c])):=by rw [←hk1];exact M6
    have bt:Bt p h h2':=by rw [←hk1];exact Bt.upd.trans .upd
    simp only [M1,K4,F4,C3,D8,B7D,m6,B19,F0,decide_eq_true_eq]
    refine ⟨⟨by decide,by decide,by decide⟩,A0n (fun h3=> ?_) fun h3=> ?_⟩
    · have z:(0:Int)≤10 ^ Int.toNat 18:=by decide
      rw [A2s hp2 e2]
      exact hk _ _ ⟨rfl,(j:Int)+1,v,m,by omega,by omega,by omega,m0,m1,M6,bt.trans .upd⟩
    · have a0:0≤v % 2147483629:=Int.emod_nonneg _ (by decide)
      have a1:v % 2147483629 < 2147483629:=Int.emod_lt_of_pos _ (by decide)
      simp only [A5u,E5,F4,C3,D8,A0p hp2,B1c,A8V,A8h,o6,m6,C2]
      refine ⟨A2E m0 (by omega) (by decide) (by decide),by decide,A2E a0 (by omega) (by decide) (by decide),by decide,?_⟩
      rw [A2s hp2 e3]
      have b1:0≤(m*48271+v % 2147483629*69621+12345) % 2147483647:=Int.emod_nonneg _ (by decide)
      have b2:(m*48271+v % 2147483629*69621+12345) % 2147483647 < 2147483647:=Int.emod_lt_of_pos _ (by decide)
      exact hk _ _ ⟨rfl,(j:Int)+1,0,_,by omega,by omega,by omega,b1,by omega,M6,bt.trans .upd⟩
theorem X7 {s:Int} (s1:1≤s) (s2:s≤10 ^ 40):Dr 1 (fun p=> E8 [.ref p,.int s]) fun r=> ∃k,r= .val (.int k)∧0≤k∧k < s:=C2F s1 fun b=> wide_div (b:=200) (by omega) (by omega) (by decide) (by decide)
theorem C3n {ns:List Int} (h:ns.length≤63):A2g [.lst (ns.map .int)]=ret (.own (.seq [.lst (ns.map .int),.int 0,.int 0,.int 9465,.int 0])):=by
  show A40 _=_
  unfold A40
  simp only [m8,G5,G0,E5,K8,K6,K7,A8x,C3,D8,A8j,A7u,l8,B1d,C44,Q2,C2]
  rw [F3 (by simp [G4]),show o8 (ns.map W.int) none (some 63)=(ns.map W.int).take 63 from A8G (k:=63),List.take_of_length_le (by rw [List.length_map];exact h)]
theorem C2v {h:AH} {p:Addr} {ns:List Int}:Bag 0 (B9 h p (.cont (.seq [.lst (ns.map .int),.int 0,.int 0,.int 9465,.int 0]))) p:=⟨ns,0,0,9465,0,M6,by omega,by omega,by omega,by omega,by omega,by omega,by omega⟩
theorem A5c {row:W} {xs:List W} (hr:row= .lst xs∨row= .tup xs) (h0:xs≠[]) (h1:xs.length≤1000000):Dr 1 (fun p=> R4 [.ref p,row]) fun r=> ∃w,r= .val w∧w∈xs:=by
  intro p n h Q E b hn q
  have l0:0 < xs.length:=List.length_pos_iff.mpr h0
  show A45 (.ref p) row h Q E
  unfold A45
  have go:call (E8 [.ref p,.int xs.length]) (fun x=> D4 oIx (.val row) x ret) h Q E:=by
    refine (X7 (by omega) (by omega)).call b hn fun r h' ⟨k,e,k0,k1⟩ b' t=> ?_
    subst e
    obtain ⟨j,rfl⟩:=Int.eq_ofNat_of_zero_le k0
    have hj:j < xs.length:=by omega
    rcases hr with rfl | rfl <;> (simp only [P9,W3,A3A,A1y hj];exact q _ _ ⟨_,rfl,List.getElem_mem hj⟩ b' t)
  rcases hr with rfl | rfl <;> simpa only [F4,C3,P6,G5,G0,E5,K8,K6,K7,A2A,W2,C2] using go
end Ab
namespace Ab
open PySem PySem.Spec PyProof.Rows L2 RZ
def A4t (x_bag x_mcasks x_most:W):MC:=
  ((E6 U4 (C7 (v8 (A2G (C7 (A8 oAdd (eC (.int 1)) (G3 E8 (A6 (A2 (eV (.val x_bag))) (A6 (A2 (eV (.val x_mcasks))) B4)))) D7)) fun x_mcask kk=> g8 A0B (A2 (A8 oAdd (eC (.int 1)) (u4 E8 (A6 (A2 (eV (.val x_bag))) (A6 (A2 (eV (.val x_most))) B4))))) kk) D7)) ret)
def A2d:List W→MC
  | [x_bag,x_mcasks,x_most]=> A4t x_bag x_mcasks x_most
  | _=> bad
def A4T (x_bag:W):MC:=
  ((G3 A2d (A6 (A2 (eV (.val x_bag))) (A6 (A2 (eC (.int 6))) (A6 (A2 (G3 R4 (A6 (A2 (eV (.val x_bag))) (A6 (A2 (Q5 (A6 (A2 (eC (.int 40))) (A6 (A2 (eC (.int 9))) (A6 (A2 (eC (.int 4))) (A6 (A2 (eC (.int 2))) B4)))))) B4)))) B4)))) ret)
def A2W:List W→MC
  | [x_bag]=> A4T x_bag
  | _=> bad
def A4j (x_bag:W):MC:=
  ((A2 (Q5 (A6 (A2 (eC (.int 0))) (A6 (A2 (eC (.int 1))) (A6 (A2 (eC (.int 2))) (A6 (A2 (eC (.int 3))) (A6 (A2 (A8 oAdd (eC (.int 1)) (G3 E8 (A6 (A2 (eV (.val x_bag))) (A6 (A2 (eC (.int 9))) B4))))) (A6 (A2 (G3 E8 (A6 (A2 (eV (.val x_bag))) (A6 (A2 (eC (.int 45))) B4)))) (A6 (A2 (A8 A1a (A8 A2R (eC (.int 10)) (eC (.int 30))) (eC (.int 1)))) (A6 (A2 (G3 E8 (A6 (A2 (eV (.val x_bag))) (A6 (A2 (A8 A2R (eC (.int 10)) (eC (.int 30)))) B4)))) B4)))))))))) fun x_some=> ((G3 R4 (A6 (A2 (eV (.val x_bag))) (A6 (A2 (eV (.val x_some))) B4))) ret))
def A2b:List W→MC
  | [x_bag]=> A4j x_bag
  | _=> bad
def A6K (body:W→SV→(SV→Option W→MC)→MC) (k:SV→List W→MC):List W→SV→List W→MC
  | [],s,acc=> k s acc
  | w::ws,s,acc=> body w s fun s' o=> match o with
    | some y=> J9 (acc.length < sizeLine) (A6K body k ws s' (acc++[y]))
    | none=> A6K body k ws s' acc
def A4X (x_bag x_row:W):MC:=
  (E6 Q4 (C7 (eV (.val x_row)) D7)) fun x_left=> A2z (A2 (eV (.val x_row))) fun ws=>
    A6K (fun _ s kk=> lmC A13 s (A6 (A2 (u4 E8 (A6 (A2 (eV (.val x_bag))) (A6 (A2 (E6 D2 (C7 (eV s) D7))) B4)))) B4) fun s' w=> kk s' (some w)) (fun _ acc=> ret (.own (.seq acc))) ws x_left []
def A2a:List W→MC
  | [x_bag,x_row]=> A4X x_bag x_row
  | _=> bad
def A4K (x_bag x_mcasks x_mmany:W):MC:=
  ((E6 U4 (C7 (eSl (G3 A2a (A6 (A2 (eV (.val x_bag))) (A6 (A2 (B1j (eV (.val x_mcasks)))) B4))) oNo (A3x (eV (.val x_mmany)))) D7)) ret)
def A0H:List W→MC
  | [x_bag,x_mcasks,x_mmany]=> A4K x_bag x_mcasks x_mmany
  | _=> bad
def A4n (x_msizes:W):MC:=
  ((Q5 B4) fun x_found=> (A3I (A2G (C7 (E6 D2 (C7 (eV (.val x_msizes)) D7)) D7)) x_found (fun x_mone (s1:SV) kn3 kb4=> ((v8 (A2G (C7 (E6 D2 (C7 (eV (.val x_msizes)) D7)) D7)) fun x_at kk=> g8 (tAnd (E4 (A8 (D6 true) (eV (.val x_at)) (eV (.val x_mone)))) (E4 (A8 (D6 false) (A8 oIx (eV (.val x_msizes)) (eV (.val x_at))) (A8 oIx (eV (.val x_msizes)) (eV (.val x_mone)))))) (A2 (eV (.val x_at))) kk) fun x_near=> (A89 s1 (v8 (A2z (A2 (eV (.val (SV.fz x_near))))) fun x_at kk=> g8 A0B (A2 (T7 (A6 (A2 (eV (.val x_mone))) (A6 (A2 (eV (.val x_at))) B4)))) kk) fun x_found=> (kn3 x_found)))) fun (s1:SV)=> ((eV s1) ret)))
def A2c:List W→MC
  | [x_msizes]=> A4n x_msizes
  | _=> bad
def A4w (x_bag x_msizes x_number_here x_taps:W):MC:=
  ((A2 (G3 E8 (A6 (A2 (eV (.val x_bag))) (A6 (A2 (eC (.int 12))) B4)))) fun x_how=> ((A2 (G3 A2c (A6 (A2 (eV (.val x_msizes))) B4))) fun x_pairs=> (K5 (tAnd (E4 (A8 (D6 false) (eV (.val x_how)) (eC (.int 0)))) (E4 (A8 (D6 true) (eV (.val x_pairs)) (Q5 B4)))) ((A8 oAdd (T7 (A6 (A2 (eC (.str ("swap":Str)))) B4)) (G3 R4 (A6 (A2 (eV (.val x_bag))) (A6 (A2 (eV (.val x_pairs))) B4)))) ret) (K5 (tAnd (E4 (A8 oLt (eV (.val x_how)) (eC (.int 3)))) (E4 (eV (.val x_taps)))) ((T7 (A6 (A2 (eC (.str ("tap":Str)))) (A6 (A2 (G3 R4 (A6 (A2 (eV (.val x_bag))) (A6 (A2 (Q5 (A6 (A2 (eC (.int 1))) (A6 (A2 (eC (.int 1))) (A6 (A2 (eC (.int 2))) (A6 (A2 (eC (.int 3))) (A6 (A2 (eV (.val x_number_here))) B4))))))) B4)))) (A6 (A2 (G3 E8 (A6 (A2 (eV (.val x_bag))) (A6 (A2 (E6 D2 (C7 (eV (.val x_msizes)) D7))) B4)))) B4)))) ret) (K5 (tOr (E4 (A8 (D6 false) (eV (.val x_how)) (eC (.int 3)))) (E4 (A8 (D6 false) (E6 D2 (C7 (eV (.val x_msizes)) D7)) (eC (.int 1))))) ((T7 (A6 (A2 (eC (.str ("drain":Str)))) (A6 (A2 (eV (.val x_number_here))) (A6 (A2 (G3 E8 (A6 (A2 (eV (.val x_bag))) (A6 (A2 (E6 D2 (C7 (eV (.val x_msizes)) D7))) B4)))) B4)))) ret) ((A2 (A8 oAdd (eC (.int 2)) (G3 E8 (A6 (A2 (eV (.val x_bag))) (A6 (A2 (A8 A1a (E6 D2 (C7 (eV (.val x_msizes)) D7)) (eC (.int 1)))) B4))))) fun x_mmany=> ((A2 (A8 oIx (Q5 (A6 (A2 (eC (.str ("over":Str)))) (A6 (A2 (eC (.str ("down":Str)))) B4))) (A8 o5 (G3 E8 (A6 (A2 (eV (.val x_bag))) (A6 (A2 (eC (.int 3))) B4))) (eC (.int 2))))) fun x_word=> ((A8 oAdd (T7 (A6 (A2 (eV (.val x_word))) (A6 (A2 (eV (.val x_number_here))) B4))) (G3 A0H (A6 (A2 (eV (.val x_bag))) (A6 (A2 (E6 D2 (C7 (eV (.val x_msizes)) D7))) (A6 (A2 (eV (.val x_mmany))) B4))))) ret))))))))
def A2f:List W→MC
  | [x_bag,x_msizes,x_number_here,x_taps]=> A4w x_bag x_msizes x_number_here x_taps
  | _=> bad
def A5B (x_bag x_msizes x_most x_taps:W):MC:=
  ((v8 (A2G (C7 (G3 E8 (A6 (A2 (eV (.val x_bag))) (A6 (A2 (A8 oAdd (eV (.val x_most)) (eC (.int 1)))) B4))) D7)) fun x_k kk=> g8 A0B (A2 (u4 A2f (A6 (A2 (eV (.val x_bag))) (A6 (A2 (eV (.val x_msizes))) (A6 (A2 (u4 A2b (A6 (A2 (eV (.val x_bag))) B4))) (A6 (A2 (eV (.val x_taps))) B4)))))) kk) ret)
def A2j:List W→MC
  | [x_bag,x_msizes,x_most,x_taps]=> A5B x_bag x_msizes x_most x_taps
  | _=> bad
theorem B4b {α:Type} {P:α→Prop} {e:α→W}:∀{ws ys:List W},All2 (fun _ y=> ∃a,y=e a∧P a) ws ys→∃as:List α,ys=as.map e∧as.length=ws.length∧∀a∈as,P a
  | _,_,.nil=> ⟨[],rfl,rfl,fun _ h=> by cases h⟩
  | _,_,.cons ⟨a,e1,hp⟩ r=> by
    obtain ⟨as,e2,l,h⟩:=B4b r
    subst e1 e2
    exact ⟨a::as,rfl,by rw [List.length_cons,List.length_cons,l],fun b hb=> by
      rcases List.mem_cons.mp hb with rfl | hb
      · exact hp
      · exact h b hb⟩
theorem B7E {α:Type} {P:α→Prop} {e:α→W} {Q:RR→AH→Prop} {E:AExc→AH→Prop} {body:W→(Option W→MC)→MC} {k:List W→MC} {p:Addr} {n c:Nat} {h:AH} (ws:List W) (hl:ws.length≤1000) (b:Bag n h p) (hn:n+ws.length*c≤1000000000000000)
    (hb:∀w∈ws,∀m h1 kk,m+c≤1000000000000000→Bag m h1 p→(∀a h',P a→Bag (m+c) h' p→Bt p h1 h'→kk (some (e a)) h' Q E)→body w kk h1 Q E)
    (q:∀(as:List α) h',as.length=ws.length→(∀a∈as,P a)→Bag (n+ws.length*c) h' p→Bt p h h'→k (as.map e) h' Q E):U6 body k ws [] h Q E:=by
  refine A8q (fun i h'=> Bag (n+i*c) h' p∧Bt p h h') (fun _ y=> ∃a,y=e a∧P a) ws [] 0 h (by simp [G4];omega) ⟨by simpa using b,.refl⟩ (fun w hw j h1 kk hj ⟨b1,t1⟩ hk=> ?_) fun ys h' ay ⟨b',t'⟩=> ?_
  · have z:j*c+c≤ws.length*c:=by rw [←Nat.succ_mul];exact Nat.mul_le_mul_right _ (by omega)
    refine hb w hw _ h1 kk (by omega) b1 fun a h' pa b2 t2=> hk _ h' ⟨a,rfl,pa⟩ ⟨by rw [Nat.succ_mul,←Nat.add_assoc];exact b2,t1.trans t2⟩
  · obtain ⟨as,rfl,l,pa⟩:=B4b ay
    rw [List.nil_append]
    exact q as h' l pa (by simpa using b') t'
theorem C2Q {mc mo:Int} (h0:1≤mc) (h1:mc≤6) (g0:1≤mo) (g1:mo≤40):Dr 10 (fun p=> A2d [.ref p,.int mc,.int mo]) fun r=> ∃ss:List Int,r= .val (.tup (ss.map .int))∧1≤ss.length∧ss.length≤mc∧∀s∈ss,1≤s∧s≤mo:=by
  intro p n h Q E b hn q
  show A4t (.ref p) (.int mc) (.int mo) h Q E
  unfold A4t
  simp only [K8,K6,K7,T2,W1,F4,D8,C3,P6,G5,G0,E5,C2]
  refine (X7 h0 (by omega)).call b (by omega) fun r h' ⟨k,e,k0,k1⟩ b' t=> ?_
  subst e
  simp only [P9,o6,x8,m6]
  refine ⟨by omega,?_⟩
  refine B7E (P:=fun s=> 1≤s∧s≤mo) (e:=W.int) (c:=1) _ (by rw [A05];omega) b' (by rw [A05];omega) (fun w hw m h1 kk hm b1 hk=> ?_) fun ss h2 l ps b2 t2=> ?_
  · simp only [R6,S8,if_true,E5,F4,D8,C3,U3,G5,G0,C2]
    refine (X7 g0 (by omega)).call0 b1 (by omega) fun r h' ⟨k,e,k0,k1⟩ b' t=> ?_
    subst e
    simp only [P9,o6,C2]
    exact hk _ _ ⟨by omega,by omega⟩ b' t
  · rw [A05] at l b2
    simp only [B6F]
    exact q _ _ ⟨ss,rfl,by omega,by omega,ps⟩ (b2.le (by omega)) (t.trans t2)
theorem any_sizes_dr:Dr 20 (fun p=> A2W [.ref p]) fun r=> ∃ss:List Int,r= .val (.tup (ss.map .int))∧V3 ss:=by
  intro p n h Q E b hn q
  show A4T (.ref p) h Q E
  unfold A4T
  simp only [D8,C3,P6,G5,G0,E5,C2,m8,Q2]
  rw [F3 (by simp [G4])]
  refine (A5c (.inl rfl) (by simp) (by simp)).call b (by omega) fun r h' ⟨w,e,hw⟩ b' t=> ?_
  subst e
  obtain ⟨mo,rfl,g0,g1⟩:∃mo:Int,w= .int mo∧1≤mo∧mo≤40:=by
    simp only [List.mem_cons,List.not_mem_nil,or_false] at hw
    rcases hw with rfl | rfl | rfl | rfl <;> exact ⟨_,rfl,by omega,by omega⟩
  simp only [P9,C2]
  refine (C2Q (by omega) (by omega) g0 g1).call b' (by omega) fun r h2 ⟨ss,e,l1,l2,ps⟩ b2 t2=> ?_
  subst e
  exact q _ _ ⟨ss,rfl,l1,by omega,fun s hs=> ⟨(ps s hs).1,Int.le_trans (ps s hs).2 g1⟩⟩ (b2.le (by omega)) (t.trans t2)
theorem number_dr:Dr 5 (fun p=> A2b [.ref p]) fun r=> ∃i:Int,r= .val (.int i)∧0≤i∧i < z8:=by
  intro p n h Q E b hn q
  show A4j (.ref p) h Q E
  unfold A4j
  simp only [E5,m8,P6,G5,G0,C3,D8,F4,C2]
  refine (X7 (by omega) (by omega)).call b (by omega) fun r h1 ⟨i1,e,_,_⟩ b1 t1=> ?_
  subst e
  simp only [P9,o6,C2]
  refine (X7 (by omega) (by omega)).call b1 (by omega) fun r h2 ⟨i2,e,_,_⟩ b2 t2=> ?_
  subst e
  simp only [P9,B7D,m6,B65,C2]
  refine ⟨⟨by decide,by decide,by decide⟩,⟨by decide,by decide,by decide⟩,?_⟩
  refine (X7 (by decide) (by decide)).call b2 (by omega) fun r h3 ⟨i3,e,_,z3⟩ b3 t3=> ?_
  subst e
  rw [F3 (by simp [G4])]
  simp only [P9,C2,Q2]
  refine (A5c (.inl rfl) (by simp) (by simp)).call b3 (by omega) fun r h4 ⟨w,e,hw⟩ b4 t4=> ?_
  subst e
  have g:(10:Int) ^ Int.toNat 30=z8:=by decide
  obtain ⟨i,rfl,g0,g1⟩:∃i:Int,w= .int i∧0≤i∧i < z8:=by
    rw [g] at hw z3
    have g:z8=1000000000000000000000000000000:=rfl
    simp only [List.mem_cons,List.not_mem_nil,or_false] at hw
    rcases hw with rfl | rfl | rfl | rfl | rfl | rfl | rfl | rfl <;> exact ⟨_,rfl,by omega,by omega⟩
  exact q _ _ ⟨i,rfl,g0,g1⟩ (b4.le (by omega)) (t1.trans (t2.trans (t3.trans t4)))
theorem C4q {j n:Nat} (hj:j < n):seqIndex? (j:Int) n=some j:=by
  unfold seqIndex?
  have h0:¬((j:Int) < 0):=by omega
  have h1:(j:Int) < (n:Int):=by omega
  simp [h0,h1]
theorem B3s {α:Type}:∀{l:List α} {j:Nat} (h:j < l.length),(l[j]::l.eraseIdx j).Perm l
  | a::l,0,_=> .refl _
  | a::l,j+1,h=> by
    have h':j < l.length:=by rw [List.length_cons] at h;omega
    show (l[j]::a::l.eraseIdx j).Perm (a::l)
    exact (List.Perm.swap _ _ _).trans (.cons _ (B3s h'))
theorem C0M {xs:List W} (hl:xs.length≤100):Dr 100 (fun p=> A2a [.ref p,.lst xs]) fun r=> ∃ys:List W,r= .own (.seq ys)∧ys.Perm xs:=by
  intro p n h Q E b hn q
  show A4X (.ref p) (.lst xs) h Q E
  unfold A4X
  simp only [K8,K6,K7,C3,A3Y,E5,C2,A3Q,B02]
  have go:∀(ws left acc:List W) (m:Nat) (h:AH),Bag m h p→m+left.length≤1000000000000000→left.length=ws.length→left.length≤100→acc.length+left.length≤100→
      (∀ys h',ys.Perm left→Bag (m+left.length) h' p→Bt p h h'→Q (.own (.seq (acc++ys))) h')→
      A6K (fun _ s kk=> lmC A13 s (A6 (A2 (u4 E8 (A6 (A2 (eV (.val (.ref p)))) (A6 (A2 (E6 D2 (C7 (eV s) D7))) B4)))) B4) fun s' w=> kk s' (some w)) (fun _ acc=> ret (.own (.seq acc))) ws (.own (.seq left)) acc h Q E:=by
    intro ws
    induction ws with
    | nil=>
      intro left acc m h b _ el _ _ q
      obtain rfl:left=[]:=List.length_eq_zero_iff.mp el
      have z:=q [] h (.refl _) b .refl
      rw [List.append_nil] at z
      exact z
    | cons w ws ih=>
      intro left acc m h b hm el l1 l2 q
      rw [List.length_cons] at el
      refine ⟨trivial,?_⟩
      simp only [G5,G0,E5,U3,C3,K8,K6,K7,A8P,C2]
      refine (X7 (by omega) (by omega)).call0 b (by omega) fun r h1 ⟨k,e,k0,k1⟩ b1 t1=> ?_
      subst e
      obtain ⟨j,rfl⟩:=Int.eq_ofNat_of_zero_le k0
      have hj:j < left.length:=by omega
      refine ⟨by omega,by omega,j,left[j],?_,List.getElem?_eq_getElem hj,?_⟩
      · exact C4q hj
      · have le:(left.eraseIdx j).length=left.length - 1:=List.length_eraseIdx_of_lt hj
        refine ⟨by rw [G4];omega,?_⟩
        refine ih (left.eraseIdx j) (acc++[left[j]]) (m+1) h1 b1 (by omega) (by omega) (by omega) (by rw [List.length_append,List.length_singleton];omega) fun ys h' py b' t'=> ?_
        have z:=q (left[j]::ys) h' ?_ (by rw [show m+left.length=m+1+(left.eraseIdx j).length by omega];exact b') (t1.trans t')
        · simpa using z
        · refine List.Perm.trans (.cons _ py) ?_
          exact B3s hj
  exact go xs xs [] n h b (by omega) rfl hl (by simpa using hl) fun ys h' py b' t'=> q _ _ ⟨ys,by simp,py⟩ (b'.le (by omega)) t'
theorem C1y {α:Type} {e:α→W} (g:W→α) (ge:∀a,g (e a)=a) {ys:List W} {xs:List α} (h:ys.Perm (xs.map e)):∃as:List α,ys=as.map e∧as.Perm xs:=by
  refine ⟨ys.map g,?_,?_⟩
  · rw [List.map_map]
    refine (List.map_id' ys).symm.trans (List.map_congr_left fun y hy=> ?_)
    obtain ⟨a,_,rfl⟩:=List.mem_map.mp (h.mem_iff.mp hy)
    simp [ge]
  · have z:=h.map g
    rw [List.map_map] at z
    have:xs.map (g∘e)=xs:=(List.map_congr_left fun a _=> ge a).trans (List.map_id' xs)
    rw [this] at z
    exact z
def C6E:W→Nat
  | .int i=> i.toNat
  | _=> 0
theorem B9E {m:Nat} {k:Int} (hm:m≤6) (k0:0≤k) (k1:k≤m):Dr 100 (fun p=> A0H [.ref p,.int m,.int k]) fun r=> ∃cs:List Nat,r= .val (.tup (cs.map P7))∧(cs.length:Int)=k∧cs.Nodup∧∀c∈cs,c < m:=by
  intro p n h Q E b hn q
  show A4K (.ref p) (.int m) (.int k) h Q E
  unfold A4K
  simp only [K8,K6,K7,A8x,P6,G5,G0,E5,C3,C41,A8j,A7u,C2G,m6,C2,Q2]
  refine ⟨⟨by omega,by omega⟩,?_⟩
  rw [show T1 0 (m:Int).toNat=(List.range m).map P7 from A3S m]
  refine (C0M (by simp;omega)).call b (by omega) fun r h1 ⟨ys,e,py⟩ b1 t1=> ?_
  subst e
  obtain ⟨cs,rfl,pc⟩:=C1y C6E (fun _=> rfl) py
  obtain ⟨j,rfl⟩:=Int.eq_ofNat_of_zero_le k0
  simp only [A3k,l8,C6Y,B6F,A8G]
  have lc:cs.length=m:=by have:=pc.length_eq;simpa using this
  refine q _ _ ⟨cs.take j,by rw [List.map_take];rfl,by rw [List.length_take];omega,?_,fun c hc=> ?_⟩ b1 t1
  · exact (List.take_sublist j cs).nodup (pc.nodup_iff.mpr List.nodup_range)
  · have:=pc.mem_iff.mp ((List.take_sublist j cs).subset hc)
    simpa using this
def A2D (ss:List Int):List (Nat×Nat):=(List.range ss.length).flatMap fun i=> ((List.range ss.length).filter fun j=> j≠i∧ss[j]? =ss[i]?).map fun j=> (i,j)
def A27 (p:Nat×Nat):W:= .tup [P7 p.1,P7 p.2]
theorem A7s {ss:List Int} {i:Nat}:((List.range ss.length).filter fun j=> j≠i∧ss[j]? =ss[i]?).length≤ss.length:=by
  refine Nat.le_trans (List.length_filter_le _ _) ?_
  simp
theorem C1t {ss:List Int} (hl:ss.length≤6):A2c [.tup (ss.map .int)]=ret (.own (.seq ((A2D ss).map A27))):=by
  show A4n _=_
  unfold A4n
  simp only [m8,G0,A5l,W1,K6,K7,K8,C3,W2,List.length_map]
  rw [F3 (by simp [G4]),x8,F3 (by omega),A3S]
  simp only [Int.toNat_natCast]
  rw [show SV.own (.seq [])=(fun acc:List (Nat×Nat)=> SV.own (.seq (acc.map A27))) [] from rfl]
  rw [B5s P7 (fun acc:List (Nat×Nat)=> SV.own (.seq (acc.map A27))) (fun acc i=> acc++((List.range ss.length).filter fun j=> j≠i∧ss[j]? =ss[i]?).map fun j=> (i,j)) (fun n acc=> acc.length≤6*n) _ _ 0 (Nat.le_refl _) fun n i hi acc la=> ⟨?_,fun kn=> ?_⟩]
  · show ret _=_
    rw [←List.flatMap_eq_foldl]
    rfl
  · rw [List.length_append,List.length_map]
    have:=A7s (ss:=ss) (i:=i)
    omega
  · obtain ⟨hn,ei⟩:=List.getElem?_eq_some_iff.mp hi
    rw [List.getElem_range] at ei
    rw [List.length_range] at hn
    subst ei
    simp only [T2,W1,K6,K7,K8,C3,W2,List.length_map]
    rw [x8,F3 (by omega),A3S]
    simp only [Int.toNat_natCast]
    rw [C54 P7 (fun j=> decide (j≠n∧ss[j]? =ss[n]?)) P7 _ (fun j hj kk=> ?_) (by simp [G4];omega)]
    · simp only [B0l,T2,A3Y,E5,C3,Q2,C2,A3Q]
      rw [A5i P7 (fun j=> A27 (n,j)) _ (fun j hj kk=> ?_) (by have:=A7s (ss:=ss) (i:=n);simp only [G4];omega)]
      · have:=A7s (ss:=ss) (i:=n)
        rw [B6b,F3 (by rw [List.length_map,List.length_map];simp only [G4];omega)]
        congr 2
        rw [List.map_append,List.map_map]
        rfl
      · simp only [R6,S8,if_true,E5,A3B,G5,G0,C3,C2]
        rw [F3 (by simp [G4])]
        rfl
    · have hj':j < ss.length:=by simpa using hj
      simp only [R6,A5j,K4,F4,C3,C2,E5]
      rw [A6L (sp S9) (sp S9)]
      simp only [C2,B0a,W3,A5X hj',A5X hn,W.int.injEq,List.getElem?_eq_getElem hj',List.getElem?_eq_getElem hn]
      rw [Y2 (sp S9) (sp S9)]
      have ci:((j:Int)=(n:Int))↔j=n:=by omega
      by_cases c1:j=n <;> by_cases c2:ss[j]=ss[n] <;> simp [c1,c2,ci]
theorem C04 {ss:List Int} {q:Nat×Nat} (h:q∈A2D ss):q.1 < ss.length∧q.2 < ss.length∧q.1≠q.2∧ss[q.1]? =ss[q.2]? :=by
  unfold A2D at h
  obtain ⟨i,hi,h⟩:=List.mem_flatMap.mp h
  obtain ⟨j,hj,rfl⟩:=List.mem_map.mp h
  obtain ⟨hj1,hj2⟩:=List.mem_filter.mp hj
  rw [List.mem_range] at hi hj1
  have z:=of_decide_eq_true hj2
  exact ⟨hi,hj1,fun e=> z.1 e.symm,z.2.symm⟩
theorem C0s {ss:List Int} (hl:ss.length≤6):(A2D ss).length≤36:=by
  unfold A2D
  rw [List.length_flatMap]
  have:∀(l:List Nat),(l.map fun i=> (((List.range ss.length).filter fun j=> j≠i∧ss[j]? =ss[i]?).map fun j=> (i,j)).length).sum≤6*l.length:=fun l=> by
    induction l with
    | nil=> simp
    | cons i l ih=>
      rw [List.map_cons,List.sum_cons,List.length_cons,List.length_map]
      have:=A7s (ss:=ss) (i:=i)
      omega
  refine Nat.le_trans (this _) ?_
  rw [List.length_range]
  omega
def B1a:Dd→Prop
  | .tap _ _=> True
  | _=> False
theorem C3s {ss:List Int} {i:Int} {taps:Bool} (hs:V3 ss) (i0:0≤i) (i1:i < z8):Dr 200 (fun p=> A2f [.ref p,.tup (ss.map .int),.int i,.bl taps]) fun r=> ∃d:Dd,r= .val d.w∧d.ok ss∧(taps=false→¬B1a d):=by
  intro p n h Q E b hn q
  show A4w (.ref p) (.tup (ss.map .int)) (.int i) (.bl taps) h Q E
  unfold A4w
  obtain ⟨l1,l2,s3⟩:=id hs
  have gr:z8=1000000000000000000000000000000:=rfl
  simp only [E5,P6,G5,G0,C3,D8,C2]
  refine (X7 (by omega) (by omega)).call b (by omega) fun r h1 ⟨k,e,k0,k1⟩ b1 t1=> ?_
  subst e
  simp only [P9,C2,C1t l2,U8,Q2,M1,A5j,K4,F4,C3,D8,m8,G0,W5]
  rw [Y2 (sp S9) (sp S9)]
  have cask:∀{h1:AH} {m:Nat} {k:SV→MC},Bag m h1 p→m+1≤1000000000000000→(∀(c:Nat) h',c < ss.length→Bag (m+1) h' p→Bt p h1 h'→k (.val (P7 c)) h' Q E)→call (E8 [.ref p,.int ss.length]) k h1 Q E:=fun b1 l q=>
    (X7 (by omega) (by omega)).call b1 l fun r h' ⟨k,e,k0,k1⟩ b2 t2=> by
      subst e
      obtain ⟨c,rfl⟩:=Int.eq_ofNat_of_zero_le k0
      exact q c h' (by omega) b2 t2
  have tail:(if decide ((SV.val (W.int k)).fz=(SV.val (W.int 3)).fz)=true then
        (T7 (A6 (A2 (eC (.str ("drain":Str)))) (A6 (A2 (eV (.val (.int i)))) (A6 (A2 (G3 E8 (A6 (A2 (eV (.val (.ref p)))) (A6 (A2 (E6 D2 (C7 (eV (.val (.tup (ss.map .int)))) D7))) B4)))) B4)))) ret
      else bad) h1 Q E→True:=fun _=> trivial
  clear tail
  have rest:((K5 (tAnd (E4 (A8 oLt (eV (.val (.int k))) (eC (.int 3)))) (E4 (eV (.val (.bl taps))))) ((T7 (A6 (A2 (eC (.str ("tap":Str)))) (A6 (A2 (G3 R4 (A6 (A2 (eV (.val (.ref p)))) (A6 (A2 (Q5 (A6 (A2 (eC (.int 1))) (A6 (A2 (eC (.int 1))) (A6 (A2 (eC (.int 2))) (A6 (A2 (eC (.int 3))) (A6 (A2 (eV (.val (.int i)))) B4))))))) B4)))) (A6 (A2 (G3 E8 (A6 (A2 (eV (.val (.ref p)))) (A6 (A2 (E6 D2 (C7 (eV (.val (.tup (ss.map .int)))) D7))) B4)))) B4)))) ret) (K5 (tOr (E4 (A8 (D6 false) (eV (.val (.int k))) (eC (.int 3)))) (E4 (A8 (D6 false) (E6 D2 (C7 (eV (.val (.tup (ss.map .int)))) D7)) (eC (.int 1))))) ((T7 (A6 (A2 (eC (.str ("drain":Str)))) (A6 (A2 (eV (.val (.int i)))) (A6 (A2 (G3 E8 (A6 (A2 (eV (.val (.ref p)))) (A6 (A2 (E6 D2 (C7 (eV (.val (.tup (ss.map .int)))) D7))) B4)))) B4)))) ret) ((A2 (A8 oAdd (eC (.int 2)) (G3 E8 (A6 (A2 (eV (.val (.ref p)))) (A6 (A2 (A8 A1a (E6 D2 (C7 (eV (.val (.tup (ss.map .int)))) D7)) (eC (.int 1)))) B4))))) fun x_mmany=> ((A2 (A8 oIx (Q5 (A6 (A2 (eC (.str ("over":Str)))) (A6 (A2 (eC (.str ("down":Str)))) B4))) (A8 o5 (G3 E8 (A6 (A2 (eV (.val (.ref p)))) (A6 (A2 (eC (.int 3))) B4))) (eC (.int 2))))) fun x_word=> ((A8 oAdd (T7 (A6 (A2 (eV (.val x_word))) (A6 (A2 (eV (.val (.int i)))) B4))) (G3 A0H (A6 (A2 (eV (.val (.ref p)))) (A6 (A2 (E6 D2 (C7 (eV (.val (.tup (ss.map .int)))) D7))) (A6 (A2 (eV (.val x_mmany))) B4))))) ret)))))) h1 Q E:=by
    have drain:((T7 (A6 (A2 (eC (.str ("drain":Str)))) (A6 (A2 (eV (.val (.int i)))) (A6 (A2 (G3 E8 (A6 (A2 (eV (.val (.ref p)))) (A6 (A2 (E6 D2 (C7 (eV (.val (.tup (ss.map .int)))) D7))) B4)))) B4)))) ret) h1 Q E:=by
      simp only [A3B,G5,G0,E5,D8,C3,P6,K8,K6,K7,W2,List.length_map,C2]
      refine cask b1 (by omega) fun c h2 hc b2 t2=> ?_
      rw [F3 (by simp [G4])]
      exact q _ _ ⟨.drain i c,rfl,⟨i0,i1,hc⟩,fun _=> id⟩ (b2.le (by omega)) (t1.trans t2)
    have pour:((A2 (A8 oAdd (eC (.int 2)) (G3 E8 (A6 (A2 (eV (.val (.ref p)))) (A6 (A2 (A8 A1a (E6 D2 (C7 (eV (.val (.tup (ss.map .int)))) D7)) (eC (.int 1)))) B4))))) fun x_mmany=> ((A2 (A8 oIx (Q5 (A6 (A2 (eC (.str ("over":Str)))) (A6 (A2 (eC (.str ("down":Str)))) B4))) (A8 o5 (G3 E8 (A6 (A2 (eV (.val (.ref p)))) (A6 (A2 (eC (.int 3))) B4))) (eC (.int 2))))) fun x_word=> ((A8 oAdd (T7 (A6 (A2 (eV (.val x_word))) (A6 (A2 (eV (.val (.int i)))) B4))) (G3 A0H (A6 (A2 (eV (.val (.ref p)))) (A6 (A2 (E6 D2 (C7 (eV (.val (.tup (ss.map .int)))) D7))) (A6 (A2 (eV (.val x_mmany))) B4))))) ret))) h1 Q E∨ss.length=1:=by
      by_cases h1':ss.length=1
      · exact .inr h1'
      refine .inl ?_
      simp only [E5,F4,D8,P6,G5,G0,C3,K8,K6,K7,W2,List.length_map,B65,C2]
      refine (X7 (by omega) (by omega)).call b1 (by omega) fun r h2 ⟨k2,e,g0,g1⟩ b2 t2=> ?_
      subst e
      simp only [P9,o6,C2,m8,G5,G0,E5,D8]
      rw [F3 (by simp [G4])]
      refine (X7 (by omega) (by omega)).call b2 (by omega) fun r h3 ⟨k3,e,j0,j1⟩ b3 t3=> ?_
      subst e
      simp only [P9,B0s,m6]
      refine ⟨wide_div (b:=10) (by decide) (by decide) (by decide) (by decide),?_⟩
      have word:∃word:Str,(word="over"∨word="down")∧∀k:SV→MC,D4 oIx (.own (.seq [.str ("over":Str),.str ("down":Str)])) (.val (.int (k3 / 2))) k=k (.val (.str word)):=by
        have:k3 / 2=0∨k3 / 2=1:=by omega
        rcases this with e | e
        · exact ⟨"over",.inl rfl,fun k=> by rw [e,B1r,n9]⟩
        · exact ⟨"down",.inr rfl,fun k=> by rw [e,B1r,A1J]⟩
      obtain ⟨word,hw,ew⟩:=word
      rw [ew]
      simp only [A3B,G5,G0,E5,C3,C2]
      rw [F3 (by simp [G4])]
      refine (B9E l2 (by omega) (by omega)).call b3 (by omega) fun r h4 ⟨cs,e,lc,nd,hc⟩ b4 t4=> ?_
      subst e
      simp only [P9,B03]
      rw [F3 (by simp only [List.length_cons,List.length_nil,List.length_map,G4];omega)]
      have tt:=t1.trans (t2.trans (t3.trans t4))
      rcases hw with rfl | rfl
      · exact q _ _ ⟨.over i cs,rfl,⟨i0,i1,by omega,by omega,nd,hc⟩,fun _=> id⟩ (b4.le (by omega)) tt
      · exact q _ _ ⟨.down i cs,rfl,⟨i0,i1,by omega,by omega,nd,hc⟩,fun _=> id⟩ (b4.le (by omega)) tt
    have back:(K5 (tOr (E4 (A8 (D6 false) (eV (.val (.int k))) (eC (.int 3)))) (E4 (A8 (D6 false) (E6 D2 (C7 (eV (.val (.tup (ss.map .int)))) D7)) (eC (.int 1))))) ((T7 (A6 (A2 (eC (.str ("drain":Str)))) (A6 (A2 (eV (.val (.int i)))) (A6 (A2 (G3 E8 (A6 (A2 (eV (.val (.ref p)))) (A6 (A2 (E6 D2 (C7 (eV (.val (.tup (ss.map .int)))) D7))) B4)))) B4)))) ret) ((A2 (A8 oAdd (eC (.int 2)) (G3 E8 (A6 (A2 (eV (.val (.ref p)))) (A6 (A2 (A8 A1a (E6 D2 (C7 (eV (.val (.tup (ss.map .int)))) D7)) (eC (.int 1)))) B4))))) fun x_mmany=> ((A2 (A8 oIx (Q5 (A6 (A2 (eC (.str ("over":Str)))) (A6 (A2 (eC (.str ("down":Str)))) B4))) (A8 o5 (G3 E8 (A6 (A2 (eV (.val (.ref p)))) (A6 (A2 (eC (.int 3))) B4))) (eC (.int 2))))) fun x_word=> ((A8 oAdd (T7 (A6 (A2 (eV (.val x_word))) (A6 (A2 (eV (.val (.int i)))) B4))) (G3 A0H (A6 (A2 (eV (.val (.ref p)))) (A6 (A2 (E6 D2 (C7 (eV (.val (.tup (ss.map .int)))) D7))) (A6 (A2 (eV (.val x_mmany))) B4))))) ret)))) h1 Q E:=by
      unfold K5
      rw [W5,K4,F4,C3,D8,Y2 (sp S9) (sp S9)]
      refine A0n (fun _=> by rw [if_pos rfl];exact drain) fun _=> ?_
      rw [K4,F4,K8,K6,C3,K7,W2,D8,Y2 (sp S9) (sp S9)]
      refine A0n (fun _=> drain) fun z=> pour.resolve_right fun z2=> z ?_
      rw [List.length_map,z2]
      simp
    rw [M1,A5j,K4,F4,C3,D8,B2D,F0]
    refine A0n (fun _=> ?_) fun _=> by rw [if_neg Bool.false_ne_true];exact back
    rw [K4,C3,F0]
    refine A0n (fun ht=> ?_) fun _=> back
    simp only [A3B,G5,G0,E5,D8,C3,P6,m8,C2,Q2]
    rw [F3 (by simp [G4])]
    refine (A5c (.inl rfl) (by simp) (by simp)).call b1 (by omega) fun r h2 ⟨w,e,hw⟩ b2 t2=> ?_
    subst e
    obtain ⟨i',rfl,g0,g1⟩:∃i':Int,w= .int i'∧0≤i'∧i' < z8:=by
      simp only [List.mem_cons,List.not_mem_nil,or_false] at hw
      rcases hw with rfl | rfl | rfl | rfl | rfl <;> exact ⟨_,rfl,by omega,by omega⟩
    simp only [P9,C2,K8,K6,K7,C3,W2,List.length_map]
    refine cask b2 (by omega) fun c h3 hc b3 t3=> ?_
    rw [F3 (by simp [G4])]
    exact q _ _ ⟨.tap i' c,rfl,⟨g0,g1,hc⟩,fun e=> by rw [ht] at e;cases e⟩ (b3.le (by omega)) (t1.trans (t2.trans t3))
  have pl:∀x∈(A2D ss).map A27,x.nb 1=true:=C5b fun a _=> B1B fun x hx=> by
    simp only [List.mem_cons,List.not_mem_nil,or_false] at hx
    rcases hx with rfl | rfl <;> rfl
  refine A0n (fun _=> ?_) fun _=> by rw [if_neg Bool.false_ne_true];exact rest
  rw [F3 (by simp [G4]),A6L (sp (A5n 1 (by omega) pl)) (so (c:= .seq []) (A5n 0 (by omega) (by simp)))]
  refine A0n (fun z=> ?_) fun _=> rest
  have ne:A2D ss≠[]:=fun e=> by simp [e] at z
  simp only [A3B,G5,G0,E5,D8,C3,P6,C2]
  rw [F3 (by simp [G4])]
  have al:=C0s l2
  refine (A5c (xs:=(A2D ss).map A27) (.inl rfl) (by simpa using ne) (by simp;omega)).call b1 (by omega) fun r h2 ⟨w,e,hw⟩ b2 t2=> ?_
  subst e
  obtain ⟨pr,hp,rfl⟩:=List.mem_map.mp hw
  obtain ⟨c1,c2,c3,c4⟩:=C04 hp
  simp only [P9,A27,B03]
  rw [F3 (by simp [G4])]
  exact q _ _ ⟨.swap pr.1 pr.2,rfl,⟨c1,c2,c3,c4⟩,fun _=> id⟩ (b2.le (by omega)) (t1.trans t2)
theorem C4v {ss:List Int} {most:Int} {taps:Bool} (hs:V3 ss) (m0:0≤most) (m1:most≤500):Dr 200000 (fun p=> A2j [.ref p,.tup (ss.map .int),.int most,.bl taps]) fun r=> ∃ds:List Dd,r= .own (.seq (ds.map Dd.w))∧(ds.length:Int)≤most∧∀d∈ds,d.ok ss∧(taps=false→¬B1a d):=by
  intro p n h Q E b hn q
  show A5B (.ref p) (.tup (ss.map .int)) (.int most) (.bl taps) h Q E
  unfold A5B
  simp only [T2,W1,K6,K7,P6,G5,G0,E5,C3,D8,F4,o6,C2]
  refine (X7 (by omega) (by omega)).call b (by omega) fun r h1 ⟨k,e,k0,k1⟩ b1 t1=> ?_
  subst e
  rw [P9,x8,m6]
  refine ⟨by omega,B7E (P:=fun d:Dd=> d.ok ss∧(taps=false→¬B1a d)) (e:=Dd.w) (c:=300) _ (by rw [A05];omega) b1 (by rw [A05];omega) (fun w hw m h2 kk hm b2 hk=> ?_) fun ds h2 l ps b2 t2=> ?_⟩
  · simp only [R6,S8,if_true,E5,U3,G5,G0,C3,C2]
    refine number_dr.call0 b2 (by omega) fun r h3 ⟨i,e,i0,i1⟩ b3 t3=> ?_
    subst e
    refine (C3s hs i0 i1).call0 b3 (by omega) fun r h4 ⟨d,e,dk,dt⟩ b4 t4=> ?_
    subst e
    exact hk d _ ⟨dk,dt⟩ (b4.le (by omega)) (t3.trans t4)
  · rw [A05] at l b2
    exact q _ _ ⟨ds,rfl,by omega,ps⟩ (b2.le (by omega)) (t1.trans t2)
end Ab
namespace Ab
open PySem PySem.Spec PyProof.Rows L2 RZ
def A46 (x_word x_many x_casks:W):MC:=
  ((eIf (E4 (A8 (O7 false) (eV (.val x_word)) (eC (.tup [.str ("over":Str),.str ("down":Str)])))) (A1Z (fun i j=> decide (i≤j)) (fun i j=> decide (i≤j)) (eC (.int 4)) (eV (.val x_many)) (A8 oAdd (eC (.int 2)) (eV (.val x_casks)))) (A8 (D6 false) (eV (.val x_many)) (eC (.int 3)))) ret)
def A2h:List W→MC
  | [x_word,x_many,x_casks]=> A46 x_word x_many x_casks
  | _=> bad
def A42 (x_things x_start x_casks:W):MC:=
  (A3I (A8Z (A2 (eV (.val x_things)))) () (fun w6 (s1:Unit) kn3 kb4=> un2 w6 fun x_at x_cask=> (K5 (tOr (A0x (E4 (A1Z (fun i j=> decide (i≤j)) (fun i j=> decide (i < j)) (eC (.int 0)) (eV (.val x_cask)) (eV (.val x_casks))))) (E4 (A8 (O7 false) (eV (.val x_cask)) (eSl (eV (.val x_things)) oNo (A3x (eV (.val x_at))))))) ((A8 oAdd (eV (.val x_start)) (eV (.val x_at))) ret) (kn3 ()))) fun (s1:Unit)=> ((eC .non) ret))
def A0P:List W→MC
  | [x_things,x_start,x_casks]=> A42 x_things x_start x_casks
  | _=> bad
def A5D (x_sizes x_deed:W):MC:=
  (K5 (tOr (E4 (A8 (D6 false) (E6 D2 (C7 (eV (.val x_deed)) D7)) (eC (.int 0)))) (E4 (A8 (O7 true) (A8 oIx (eV (.val x_deed)) (eC (.int 0))) (A8 oAdd (eC (.tup [.str ("over":Str),.str ("down":Str)])) (eC (.tup [.str ("swap":Str),.str ("tap":Str),.str ("drain":Str)])))))) ((eC (.int 0)) ret) (K5 (A0x (E4 (G3 A2h (A6 (A2 (A8 oIx (eV (.val x_deed)) (eC (.int 0)))) (A6 (A2 (E6 D2 (C7 (eV (.val x_deed)) D7))) (A6 (A2 (E6 D2 (C7 (eV (.val x_sizes)) D7))) B4)))))) ((A6I (eC (.int 1))) ret) (A8W (A2 (eV (.val x_deed))) fun x_word x_things=> (K5 (E4 (A8 (D6 false) (eV (.val x_word)) (eC (.str ("swap":Str))))) ((A2 (G3 A0P (A6 (A2 (eV (.val (SV.fz x_things)))) (A6 (A2 (eC (.int 1))) (A6 (A2 (E6 D2 (C7 (eV (.val x_sizes)) D7))) B4))))) fun x_bad=> (K5 (E4 (A8 (N5 true) (eV (.val x_bad)) (eC .non))) ((eV (.val x_bad)) ret) ((eIf (E4 (A8 (D6 false) (A8 oIx (eV (.val x_sizes)) (A8 oIx (eV (.val (SV.fz x_things))) (eC (.int 0)))) (A8 oIx (eV (.val x_sizes)) (A8 oIx (eV (.val (SV.fz x_things))) (eC (.int 1)))))) (eC .non) (eC (.int 2))) ret))) (A8W (A2 (eV (.val (SV.fz x_things)))) fun x_many x_casks=> (K5 (A0x (E4 (A1Z (fun i j=> decide (i≤j)) (fun i j=> decide (i < j)) (eC (.int 0)) (eV (.val x_many)) (eC (.int 1000000000000000000000000000000))))) ((eC (.int 1)) ret) ((G3 A0P (A6 (A2 (eV (.val (SV.fz x_casks)))) (A6 (A2 (eC (.int 2))) (A6 (A2 (E6 D2 (C7 (eV (.val x_sizes)) D7))) B4)))) ret)))))))
def A1u:List W→MC
  | [x_sizes,x_deed]=> A5D x_sizes x_deed
  | _=> bad
theorem B33 {α:Type} {l:List α} {q:α×Nat} (h:q∈l.zipIdx):l[q.2]? =some q.1:=by
  obtain ⟨a,i⟩:=q
  simpa using List.mem_zipIdx_iff_getElem?.mp h
theorem A48 {w:Str} {m c:Int}:A2h [.str w,.int m,.int c]=ret (.val (.bl (if w="over"∨w="down" then decide (4≤m∧m≤2+c) else decide (m=3)))):=by
  show A46 _ _ _=_
  unfold A46
  simp only [A1W,K4,F4,C3,D8]
  rw [A81 (y:= .val (.tup [.str ("over":Str),.str ("down":Str)])) (sp O4) (fun _=> rfl) (fun z hz=> by
    simp only [List.mem_cons,List.not_mem_nil,or_false] at hz
    rcases hz with rfl | rfl <;> rfl)]
  by_cases h:w="over"∨w="down"
  · rw [if_pos h,if_pos (decide_eq_true (by rcases h with rfl | rfl <;> simp))]
    simp only [A0s,D8,C3,F4,o6,l8]
    by_cases g1:4≤m <;> by_cases g2:m≤2+c <;> simp [g1,g2]
  · rw [if_neg h,if_neg (by simpa using h)]
    rw [A6W (sp S9) (sp S9)]
    simp [C3t]
def B7U:Option Int→W
  | none=> .non
  | some i=> .int i
theorem B9l {cs:List Int} {st casks:Int} (hl:cs.length≤1000):A0P [.lst (cs.map .int),.int st,.int casks]=ret (.val (B7U (A3e casks [] cs st))):=by
  show A42 _ _ _=_
  unfold A42
  simp only [A5l,B5i,E5,C3,C2,A3Q,B0t]
  rw [B4W (fun q:Int×Nat=> W.tup [.int (q.2:Int),.int q.1]) (fun q=> if ¬(0≤q.1∧q.1 < casks)∨q.1∈cs.take q.2 then some (ret (.val (.int (st+q.2)))) else none) cs.zipIdx fun q hq kn=> ?_]
  · have go:∀(r seen:List Int) (n:Nat),seen=cs.take n→r=cs.drop n→((r.zipIdx n).findSome? (fun q=> if ¬(0≤q.1∧q.1 < casks)∨q.1∈cs.take q.2 then some (ret (.val (.int (st+q.2)))) else none)).getD (eC .non ret)=ret (.val (B7U (A3e casks seen r (st+n)))):=by
      intro r
      induction r with
      | nil=> intro seen n _ _;rfl
      | cons c r ih=>
        intro seen n e1 e2
        rw [List.zipIdx_cons,List.findSome?_cons]
        simp only [A3e]
        by_cases h:¬(0≤c∧c < casks)∨c∈cs.take n
        · rw [if_pos h,if_pos (e1▸h)]
          rfl
        · rw [if_neg h,if_neg (e1▸h)]
          have hn:n < cs.length:=by
            have:=congrArg List.length e2
            simp at this
            omega
          have e3:cs[n]? =some c:=by
            have:=congrArg (fun l:List Int=> l[0]?) e2
            rw [List.getElem?_drop] at this
            simpa using this.symm
          have z:=ih (seen++[c]) (n+1) (by rw [e1,List.take_add_one,e3];rfl) (by
            have:=congrArg List.tail e2
            rw [List.tail_drop] at this
            simpa using this)
          rw [show st+((n+1:Nat):Int)=st+(n:Int)+1 by omega] at z
          exact z
    have z:=go cs [] 0 rfl rfl
    simpa using z
  · obtain ⟨c,n⟩:=q
    simp only [A73,M1,W5,A0l,K4,A0s,F4,D8,C3,l8,F0,A8x,A8j,A7u,B1d,A8G]
    have tin:∀k:Bool→MC,(D4 (O7 false) (.val (.int c)) (.own (.seq ((cs.map W.int).take n))) fun r=> T3 r k)=k (decide (c∈cs.take n)):=fun k=> by
      rw [A81 (y:= .own (.seq ((cs.map W.int).take n))) (sp S9) (fun _=> rfl) (fun z hz=> by
        obtain ⟨i,_,rfl⟩:=List.mem_map.mp ((List.take_sublist n _).subset hz)
        exact B6k)]
      have e:W.int c∈(cs.map W.int).take n↔c∈cs.take n:=by
        rw [←List.map_take,List.mem_map]
        exact ⟨fun ⟨x,hx,e⟩=> by cases e;exact hx,fun h=> ⟨c,h,rfl⟩⟩
      rw [C2,decide_eq_decide.mpr e]
    simp only [tin,o6]
    by_cases g1:0≤c <;> by_cases g2:c < casks <;> by_cases g3:c∈cs.take n <;> simp [g1,g2,g3]
theorem B3w {n:Nat}:∀(cs seen:List Nat) (k:Int),(∀c∈cs,c < n)→cs.Nodup→(∀c∈cs,c∉seen)→A3e n (seen.map fun (c:Nat)=> (c:Int)) (cs.map fun (c:Nat)=> (c:Int)) k=none
  | [],_,_,_,_,_=> rfl
  | c::cs,seen,k,h1,h2,h3=> by
    have hc:=h1 c (by simp)
    have hs:=h3 c (by simp)
    have ns:¬(¬(0≤(c:Int)∧(c:Int) < n)∨(c:Int)∈seen.map fun (c:Nat)=> (c:Int)):=fun z=> by
      rcases z with z | z
      · exact z ⟨by omega,by omega⟩
      · obtain ⟨x,hx,e⟩:=List.mem_map.mp z
        have:x=c:=by omega
        exact hs (this▸hx)
    show (if ¬(0≤(c:Int)∧(c:Int) < n)∨(c:Int)∈seen.map (fun (c:Nat)=> (c:Int)) then some k else A3e n (seen.map (fun (c:Nat)=> (c:Int))++[(c:Int)]) (cs.map fun (c:Nat)=> (c:Int)) (k+1))=none
    rw [if_neg ns,show seen.map (fun (c:Nat)=> (c:Int))++[(c:Int)]=(seen++[c]).map (fun (c:Nat)=> (c:Int)) by simp]
    obtain ⟨h4,h5⟩:=List.nodup_cons.mp h2
    refine B3w cs (seen++[c]) (k+1) (fun x hx=> h1 x (by simp [hx])) h5 fun x hx z=> ?_
    rcases List.mem_append.mp z with z | z
    · exact h3 x (by simp [hx]) z
    · rw [List.mem_singleton.mp z] at hx
      exact h4 hx
theorem A4q {n:Nat} {cs:List Nat} {k:Int} (h1:∀c∈cs,c < n) (h2:cs.Nodup) (hl:cs.length≤1000):A0P [.lst (cs.map P7),.int k,.int n]=ret (.val .non):=by
  have z:=B9l (cs:=cs.map fun (c:Nat)=> (c:Int)) (st:=k) (casks:=n) (by simpa using hl)
  have b:=B3w cs [] k h1 h2 (by simp)
  simp only [List.map_nil] at b
  rw [b,List.map_map] at z
  exact z
theorem C4J {w:Str} {k:Bool→MC} {x y:List W}:(A8 oAdd (eC (.tup [.str ("over":Str),.str ("down":Str)])) (eC (.tup [.str ("swap":Str),.str ("tap":Str),.str ("drain":Str)])) fun z=> D4 (O7 true) (.val (.str w)) z fun r=> T3 r k)=k (!decide (w="over"∨w="down"∨w="swap"∨w="tap"∨w="drain")):=by
  simp only [F4,D8,B03]
  rw [F3 (by simp [G4]),C6C (y:= .val (.tup _)) (sp O4) (fun _=> rfl) (fun z hz=> by
    simp only [List.mem_append,List.mem_cons,List.not_mem_nil,or_false] at hz
    rcases hz with (rfl | rfl) | rfl | rfl | rfl <;> rfl)]
  simp
theorem C0Y {ss:List Int} {d:Dd} (hs:V3 ss) (hd:d.ok ss):A1u [.tup (ss.map .int),d.w]=ret (.val .non):=by
  show A5D _ _=_
  unfold A5D
  obtain ⟨l1,l2,s3⟩:=hs
  have len:∀(xs:List W),¬(W.int ((xs.length+1:Nat):Int))= .int 0:=fun xs e=> by
    injection e with e
    omega
  have head:∀{w:Str} {xs:List W} {m1 m2:MC},(w="over"∨w="down"∨w="swap"∨w="tap"∨w="drain")→
      K5 (tOr (E4 (A8 (D6 false) (E6 D2 (C7 (eV (.val (.tup (.str w::xs)))) D7)) (eC (.int 0)))) (E4 (A8 (O7 true) (A8 oIx (eV (.val (.tup (.str w::xs)))) (eC (.int 0))) (A8 oAdd (eC (.tup [.str ("over":Str),.str ("down":Str)])) (eC (.tup [.str ("swap":Str),.str ("tap":Str),.str ("drain":Str)])))))) m1 m2=m2:=by
    intro w xs m1 m2 hw
    rw [M1,W5,K4,F4,K8,K6,C3,K7,W2,D8,Y2 (sp S9) (sp S9),List.length_cons]
    rw [C2,C2,decide_eq_false (len xs),if_neg Bool.false_ne_true,K4,F4,F4,C3,D8,W3,n9,C4J (x:=[]) (y:=[]),decide_eq_true hw]
    simp
  cases d with
  | swap i j=>
    obtain ⟨hi,hj,ne,es⟩:=hd
    rw [Dd.w,head (by simp)]
    have bf:=A4q (n:=ss.length) (cs:=[i,j]) (k:=1) (by simp [hi,hj]) (by simp [ne]) (by simp)
    have e1:ss[i]=ss[j]:=by
      rw [List.getElem?_eq_getElem hi,List.getElem?_eq_getElem hj] at es
      exact Option.some.inj es
    simp only [M1,A0l,K4,P6,G5,G0,E5,F4,C3,D8,W3,n9,C2,K8,K6,K7,W2,List.length_map,A48,U8,F0,List.length_cons,List.length_nil,
      k9,String.reduceEq,or_self,if_false,Nat.zero_add,Nat.reduceAdd,Int.cast_ofNat_Int,decide_true,Bool.not_true,Bool.false_eq_true,A5d,A5T,Q2]
    rw [Y2 (sp O4) (sp O4)]
    simp only [C2,decide_true,if_true,List.map_cons,List.map_nil] at bf ⊢
    rw [bf]
    simp only [U8,C2]
    rw [C4k C5M]
    simp only [decide_true,Bool.not_true,Bool.false_eq_true,if_false,A1W,K4,F4,C3,D8,A3A,n9,A1J,W3,A5X hi,A5X hj]
    rw [Y2 (sp S9) (sp S9),e1]
    simp
  | tap n c=>
    obtain ⟨n0,n1,hc⟩:=hd
    rw [Dd.w,head (by simp)]
    have bf:=A4q (n:=ss.length) (cs:=[c]) (k:=2) (by simp [hc]) (by simp) (by simp)
    have e0:decide (n < 1000000000000000000000000000000)=true:=decide_eq_true n1
    simp only [M1,A0l,K4,P6,G5,G0,E5,F4,C3,D8,W3,n9,C2,K8,K6,K7,W2,List.length_map,A48,U8,F0,List.length_cons,List.length_nil,
      k9,String.reduceEq,or_self,if_false,Nat.zero_add,Nat.reduceAdd,Int.cast_ofNat_Int,decide_true,Bool.not_true,Bool.false_eq_true,A5d,A5T,Q2]
    rw [Y2 (sp O4) (sp O4)]
    simp only [C2,W.str.injEq,k9,String.reduceEq,decide_false,Bool.false_eq_true,if_false,A7p,A0s,D8,C3,l8,F0,decide_eq_true n0,if_true,e0,Bool.not_true,Q2]
    simp only [List.map_cons,List.map_nil] at bf
    rw [bf]
    rfl
  | drain n c=>
    obtain ⟨n0,n1,hc⟩:=hd
    rw [Dd.w,head (by simp)]
    have bf:=A4q (n:=ss.length) (cs:=[c]) (k:=2) (by simp [hc]) (by simp) (by simp)
    have e0:decide (n < 1000000000000000000000000000000)=true:=decide_eq_true n1
    simp only [M1,A0l,K4,P6,G5,G0,E5,F4,C3,D8,W3,n9,C2,K8,K6,K7,W2,List.length_map,A48,U8,F0,List.length_cons,List.length_nil,
      k9,String.reduceEq,or_self,if_false,Nat.zero_add,Nat.reduceAdd,Int.cast_ofNat_Int,decide_true,Bool.not_true,Bool.false_eq_true,A5d,A5T,Q2]
    rw [Y2 (sp O4) (sp O4)]
    simp only [C2,W.str.injEq,k9,String.reduceEq,decide_false,Bool.false_eq_true,if_false,A7p,A0s,D8,C3,l8,F0,decide_eq_true n0,if_true,e0,Bool.not_true,Q2]
    simp only [List.map_cons,List.map_nil] at bf
    rw [bf]
    rfl
  | over n cs=>
    obtain ⟨n0,n1,c1,c2,c3,c4⟩:=hd
    rw [Dd.w,head (by simp)]
    have bf:=A4q (n:=ss.length) (cs:=cs) (k:=2) c4 c3 (by omega)
    have e0:decide (n < 1000000000000000000000000000000)=true:=decide_eq_true n1
    have e1:decide (4≤((cs.length+1+1:Nat):Int)∧((cs.length+1+1:Nat):Int)≤2+(ss.length:Int))=true:=decide_eq_true ⟨by omega,by omega⟩
    simp only [M1,A0l,K4,P6,G5,G0,E5,F4,C3,D8,W3,n9,C2,K8,K6,K7,W2,List.length_map,A48,U8,F0,List.length_cons,
      true_or,if_true,e1,Bool.not_true,Bool.false_eq_true,if_false,A5d,A5T,Q2]
    rw [Y2 (sp O4) (sp O4)]
    simp only [C2,W.str.injEq,k9,String.reduceEq,decide_false,Bool.false_eq_true,if_false,A7p,A0s,D8,C3,l8,F0,decide_eq_true n0,if_true,e0,Bool.not_true,Q2]
    rw [bf]
    rfl
  | down n cs=>
    obtain ⟨n0,n1,c1,c2,c3,c4⟩:=hd
    rw [Dd.w,head (by simp)]
    have bf:=A4q (n:=ss.length) (cs:=cs) (k:=2) c4 c3 (by omega)
    have e0:decide (n < 1000000000000000000000000000000)=true:=decide_eq_true n1
    have e1:decide (4≤((cs.length+1+1:Nat):Int)∧((cs.length+1+1:Nat):Int)≤2+(ss.length:Int))=true:=decide_eq_true ⟨by omega,by omega⟩
    simp only [M1,A0l,K4,P6,G5,G0,E5,F4,C3,D8,W3,n9,C2,K8,K6,K7,W2,List.length_map,A48,U8,F0,List.length_cons,
      or_true,if_true,e1,Bool.not_true,Bool.false_eq_true,if_false,A5d,A5T,Q2]
    rw [Y2 (sp O4) (sp O4)]
    simp only [C2,W.str.injEq,k9,String.reduceEq,decide_false,Bool.false_eq_true,if_false,A7p,A0s,D8,C3,l8,F0,decide_eq_true n0,if_true,e0,Bool.not_true,Q2]
    rw [bf]
    rfl
def C1s (ss:List Int) (p:Int×List Int) (c:Nat):Int×List Int:=
  let n:=min (p.2.getD c 0+p.1) (ss.getD c 0)
  (p.2.getD c 0+p.1 - n,p.2.set c n)
def B4G (ss cs:List Int) (g:Int):List Nat→List Int
  | []=> cs
  | c::r=>
    let p:=r.foldl (C1s ss) (g,cs.set c (cs.getD c 0 - g))
    p.2.set c (p.2.getD c 0+p.1)
def Dd.pour (ss cs:List Int):Dd→List Int
  | .swap i j=> (cs.set i (cs.getD j 0)).set j (cs.getD i 0)
  | .tap n c=> cs.set c (min (cs.getD c 0+n) (ss.getD c 0))
  | .drain n c=> cs.set c (max (cs.getD c 0 - n) 0)
  | .over n r=> B4G ss cs (min n (cs.getD (r.headD 0) 0)) r
  | .down n r=> B4G ss cs (max (cs.getD (r.headD 0) 0 - n) 0) r
end Ab
namespace Ab
open PySem PySem.Spec PyProof.Rows L2 RZ
theorem B0B {l:List Int} {c i:Nat} {x:Int}:(l.set c x).getD i 0=if i=c∧c < l.length then x else l.getD i 0:=by
  simp only [List.getD_eq_getElem?_getD,List.getElem?_set]
  by_cases h:c=i
  · subst h
    by_cases h2:c < l.length
    · simp [h2]
    · simp [h2]
  · rw [if_neg h,if_neg (fun z=> h z.1.symm)]
theorem B5E:∀{l:List Int} {c:Nat} {x:Int},c < l.length→(l.set c x).sum=l.sum - l.getD c 0+x
  | a::l,0,x,_=> by simp [List.sum_cons];omega
  | a::l,c+1,x,h=> by
    have ih:=B5E (l:=l) (c:=c) (x:=x) (by simpa using h)
    simp only [List.set_cons_succ,List.sum_cons,ih,List.getD_cons_succ]
    omega
def Ct (ss cs:List Int):Prop:=cs.length=ss.length∧∀i,i < ss.length→0≤cs.getD i 0∧cs.getD i 0≤ss.getD i 0
def LeL (as bs:List Int):Prop:=as.length=bs.length∧∀i,as.getD i 0≤bs.getD i 0
noncomputable instance {as bs:List Int}:Decidable (LeL as bs):=Classical.propDecidable _
theorem LeL.set {as bs:List Int} {c:Nat} {x y:Int} (h:LeL as bs) (xy:x≤y):LeL (as.set c x) (bs.set c y):=by
  refine ⟨by rw [List.length_set,List.length_set];exact h.1,fun i=> ?_⟩
  rw [B0B,B0B,←h.1]
  split
  · exact xy
  · exact h.2 i
theorem LeL.refl {as:List Int}:LeL as as:=⟨rfl,fun _=> Int.le_refl _⟩
theorem LeL.trans {as bs cs:List Int} (h:LeL as bs) (g:LeL bs cs):LeL as cs:=⟨h.1.trans g.1,fun i=> Int.le_trans (h.2 i) (g.2 i)⟩
def Dd.still:Dd→Bool
  | .tap _ _=> false
  | .drain _ _=> false
  | _=> true
theorem B0r:∀{as bs:List Int},as.length=bs.length→LeL (List.zipWith min as bs) bs
  | [],[],_=> LeL.refl
  | a::as,b::bs,h=> by
    have ih:=B0r (as:=as) (bs:=bs) (by simpa using h)
    refine ⟨by simp only [List.length_zipWith,List.length_cons] at h ⊢;omega,fun i=> ?_⟩
    cases i with
    | zero=> simp;omega
    | succ i=> simpa using ih.2 i
  | [],_::_,h=> by simp at h
  | _::_,[],h=> by simp at h
theorem A5N {f:Int→Int→Int} {as bs:List Int} {i:Nat} (ha:i < as.length) (hb:i < bs.length):(List.zipWith f as bs).getD i 0=f (as.getD i 0) (bs.getD i 0):=by
  simp only [List.getD_eq_getElem?_getD,List.getElem?_zipWith,List.getElem?_eq_getElem ha,List.getElem?_eq_getElem hb]
  rfl
end Ab
namespace Ab
open PySem PySem.Spec PyProof.Rows L2 RZ
def Dd.ws (ds:List Dd):List W:=ds.map Dd.w
theorem B05:∀{as bs:List Int},LeL as bs→as.sum≤bs.sum
  | [],[],_=> Int.le_refl _
  | a::as,b::bs,h=> by
    have ih:=B05 (as:=as) (bs:=bs) ⟨by simpa using h.1,fun i=> by simpa using h.2 (i+1)⟩
    have:=h.2 0
    simp only [List.sum_cons,List.getD_cons_zero] at this ⊢
    omega
  | [],_::_,h=> by have:=h.1;simp at this
  | _::_,[],h=> by have:=h.1;simp at this
theorem A7f {l:List Int} {i:Nat} (h:l.length≤i):l.getD i 0=0:=by
  rw [List.getD_eq_getElem?_getD,List.getElem?_eq_none h];rfl
theorem B1q {as bs:List Int} (hl:as.length=bs.length) (h:∀i,i < as.length→as.getD i 0≤bs.getD i 0):LeL as bs:=⟨hl,fun i=> by
  by_cases hi:i < as.length
  · exact h i hi
  · rw [A7f (by omega),A7f (by omega)];exact Int.le_refl _⟩
theorem B5M {as bs:List Int} (h:as.length=bs.length):LeL (List.zipWith min as bs) as:=B1q (by rw [List.length_zipWith];omega) fun i hi=> by
  rw [List.length_zipWith] at hi
  rw [A5N (by omega) (by omega)]
  omega
theorem C5L {as bs cs:List Int} (h1:LeL cs as) (h2:LeL cs bs):LeL cs (List.zipWith min as bs):=B1q (by rw [List.length_zipWith,←h1.1,←h2.1];omega) fun i hi=> by
  have a:=h1.1
  have b:=h2.1
  rw [A5N (by omega) (by omega)]
  have:=h1.2 i
  have:=h2.2 i
  omega
theorem max_le {as bs cs:List Int} (h1:LeL as cs) (h2:LeL bs cs):LeL (List.zipWith max as bs) cs:=B1q (by rw [List.length_zipWith,h1.1,h2.1];omega) fun i hi=> by
  have a:=h1.1
  have b:=h2.1
  rw [List.length_zipWith] at hi
  rw [A5N (by omega) (by omega)]
  have:=h1.2 i
  have:=h2.2 i
  omega
end Ab
namespace Ab
open PySem PySem.Spec PyProof.Rows L2 RZ
def w4 (m__law_same:List W→MC) (x_found x_due:W):MC:=
  (K5 (E4 (A8 (N5 false) (eV (.val x_due)) (eC .non))) ((A8 (N5 false) (eV (.val x_found)) (eC .non)) ret) (K5 (E4 (E6 F6 (C7 (eV (.val x_due)) (C7 (eC (.ty "bool")) D7)))) ((A1Y (E6 F6 (C7 (eV (.val x_found)) (C7 (eC (.ty "bool")) D7))) (A8 (D6 false) (eV (.val x_found)) (eV (.val x_due)))) ret) (K5 (E4 (E6 F6 (C7 (eV (.val x_due)) (C7 (eC (.ty "int")) D7)))) ((A1Y (E6 F6 (C7 (eV (.val x_found)) (C7 (eC (.ty "int")) D7))) (A1Y (B15 (E6 F6 (C7 (eV (.val x_found)) (C7 (eC (.ty "bool")) D7)))) (A8 (D6 false) (eV (.val x_found)) (eV (.val x_due))))) ret) (K5 (E4 (E6 F6 (C7 (eV (.val x_due)) (C7 (eC (.ty "str")) D7)))) ((A1Y (E6 F6 (C7 (eV (.val x_found)) (C7 (eC (.ty "str")) D7))) (A8 (D6 false) (eV (.val x_found)) (eV (.val x_due)))) ret) (K5 (tOr (E4 (A8 (D6 true) (E6 F6 (C7 (eV (.val x_due)) (C7 (eC (.ty "tuple")) D7))) (E6 F6 (C7 (eV (.val x_found)) (C7 (eC (.ty "tuple")) D7))))) (E4 (A8 (D6 true) (E6 F6 (C7 (eV (.val x_due)) (C7 (eC (.ty "list")) D7))) (E6 F6 (C7 (eV (.val x_found)) (C7 (eC (.ty "list")) D7)))))) ((eC (.bl false)) ret) (K5 (E4 (A8 (D6 true) (E6 D2 (C7 (eV (.val x_found)) D7)) (E6 D2 (C7 (eV (.val x_due)) D7)))) ((eC (.bl false)) ret) ((E6 A3J (C7 (v8 (A2G (C7 (E6 D2 (C7 (eV (.val x_due)) D7)) D7)) fun x_at kk=> g8 A0B (A2 (u4 m__law_same (A6 (A2 (A8 oIx (eV (.val x_found)) (eV (.val x_at)))) (A6 (A2 (A8 oIx (eV (.val x_due)) (eV (.val x_at)))) B4)))) kk) D7)) ret)))))))
def m__law_same:Nat→List W→MC
  | 0=> fun _=> bad
  | d+1=> fun ws=> match ws with
    | [x_found,x_due]=> w4 (m__law_same d) x_found x_due
    | _=> bad
section
variable {k:SV→MC} {b c:Bool} {i:Int} {x:Str} {xs:List W} {T:String}
theorem O0 {w:W} {n:String} {r:Bool} (hv:∀h,viewW h w= .wv w) (e1:w.tyName=some n) (e2:v3 n T=some r):cb F6 [.val w,.val (.ty T)] k=k (.val (.bl r)):=by
  funext h Q E
  show F6 [viewW h w,.wv (.ty T)] _=_
  rw [hv,B64]
  show (match (Vw.wv w).tyName with
    | some n=> (match v3 n T with
      | some b=> g9 k (.val (.bl b)) h Q E
      | none=> False)
    | none=> False)=_
  rw [show (Vw.wv w).tyName=w.tyName from rfl,e1]
  show (match v3 n T with
      | some b=> g9 k (.val (.bl b)) h Q E
      | none=> False)=_
  rw [e2]
  rfl
theorem A0S:cb F6 [.val .non,.val (.ty "bool")] k=k (.val (.bl false)):=O0 (fun _=> rfl) rfl rfl
theorem A0e:cb F6 [.val .non,.val (.ty "int")] k=k (.val (.bl false)):=O0 (fun _=> rfl) rfl rfl
theorem A0a:cb F6 [.val .non,.val (.ty "str")] k=k (.val (.bl false)):=O0 (fun _=> rfl) rfl rfl
theorem A0J:cb F6 [.val .non,.val (.ty "tuple")] k=k (.val (.bl false)):=O0 (fun _=> rfl) rfl rfl
theorem A0T:cb F6 [.val .non,.val (.ty "list")] k=k (.val (.bl false)):=O0 (fun _=> rfl) rfl rfl
theorem A0X:cb F6 [.val (.bl b),.val (.ty "bool")] k=k (.val (.bl true)):=O0 (fun _=> rfl) rfl rfl
theorem A0i:cb F6 [.val (.bl b),.val (.ty "int")] k=k (.val (.bl true)):=O0 (fun _=> rfl) rfl rfl
theorem A0g:cb F6 [.val (.bl b),.val (.ty "str")] k=k (.val (.bl false)):=O0 (fun _=> rfl) rfl rfl
theorem A0O:cb F6 [.val (.bl b),.val (.ty "tuple")] k=k (.val (.bl false)):=O0 (fun _=> rfl) rfl rfl
theorem A0W:cb F6 [.val (.bl b),.val (.ty "list")] k=k (.val (.bl false)):=O0 (fun _=> rfl) rfl rfl
theorem A0Q:cb F6 [.val (.int i),.val (.ty "bool")] k=k (.val (.bl false)):=O0 (fun _=> rfl) rfl rfl
theorem A0c:cb F6 [.val (.int i),.val (.ty "int")] k=k (.val (.bl true)):=O0 (fun _=> rfl) rfl rfl
theorem A0Y:cb F6 [.val (.int i),.val (.ty "str")] k=k (.val (.bl false)):=O0 (fun _=> rfl) rfl rfl
theorem A0K:cb F6 [.val (.int i),.val (.ty "tuple")] k=k (.val (.bl false)):=O0 (fun _=> rfl) rfl rfl
theorem A0V:cb F6 [.val (.int i),.val (.ty "list")] k=k (.val (.bl false)):=O0 (fun _=> rfl) rfl rfl
theorem A0M:cb F6 [.val (.str x),.val (.ty "bool")] k=k (.val (.bl false)):=O0 (fun _=> rfl) rfl rfl
theorem A0b:cb F6 [.val (.str x),.val (.ty "int")] k=k (.val (.bl false)):=O0 (fun _=> rfl) rfl rfl
theorem A0f:cb F6 [.val (.str x),.val (.ty "str")] k=k (.val (.bl true)):=O0 (fun _=> rfl) rfl rfl
theorem A0L:cb F6 [.val (.str x),.val (.ty "tuple")] k=k (.val (.bl false)):=O0 (fun _=> rfl) rfl rfl
theorem A0N:cb F6 [.val (.str x),.val (.ty "list")] k=k (.val (.bl false)):=O0 (fun _=> rfl) rfl rfl
theorem A0U:cb F6 [.val (.tup xs),.val (.ty "bool")] k=k (.val (.bl false)):=O0 (fun _=> rfl) rfl rfl
theorem A0d:cb F6 [.val (.tup xs),.val (.ty "int")] k=k (.val (.bl false)):=O0 (fun _=> rfl) rfl rfl
theorem A0Z:cb F6 [.val (.tup xs),.val (.ty "str")] k=k (.val (.bl false)):=O0 (fun _=> rfl) rfl rfl
theorem A0I:cb F6 [.val (.tup xs),.val (.ty "tuple")] k=k (.val (.bl true)):=O0 (fun _=> rfl) rfl rfl
theorem A0R:cb F6 [.val (.tup xs),.val (.ty "list")] k=k (.val (.bl false)):=O0 (fun _=> rfl) rfl rfl
theorem w7:cb F6 [.val (.lst xs),.val (.ty "bool")] k=k (.val (.bl false)):=O0 (fun _=> rfl) rfl rfl
theorem w9:cb F6 [.val (.lst xs),.val (.ty "int")] k=k (.val (.bl false)):=O0 (fun _=> rfl) rfl rfl
theorem w8:cb F6 [.val (.lst xs),.val (.ty "str")] k=k (.val (.bl false)):=O0 (fun _=> rfl) rfl rfl
theorem p9:cb F6 [.val (.lst xs),.val (.ty "tuple")] k=k (.val (.bl false)):=O0 (fun _=> rfl) rfl rfl
theorem q9:cb F6 [.val (.lst xs),.val (.ty "list")] k=k (.val (.bl true)):=O0 (fun _=> rfl) rfl rfl
theorem A8R:N3 (.bl b) (.bl c)=decide (b=c):=by cases b <;> cases c <;> rfl
theorem A2H:D4 (D6 false) (.val (.bl b)) (.val (.bl c)) k=k (.val (.bl (decide (b=c)))):=by
  funext h Q E
  show (_∧_∧_)=_
  refine propext ⟨fun z=> ?_,fun z=> ⟨rfl,rfl,?_⟩⟩
  · have z:=z.2.2
    rw [←A8R]
    exact z
  · rw [←A8R] at z
    exact z
theorem B6A:D4 (N5 false) (.val (.bl b)) (.val .non) k=k (.val (.bl false)):=y7 (fun _=> rfl)
theorem m9:D4 (D6 true) (.val (.bl b)) (.val (.bl c)) k=k (.val (.bl (!decide (b=c)))):=by
  funext h Q E
  show (_∧_∧_)=_
  refine propext ⟨fun z=> ?_,fun z=> ⟨rfl,rfl,?_⟩⟩
  · have z:=z.2.2
    rw [←A8R]
    exact z
  · rw [←A8R] at z
    exact z
end
mutual
def W.sm:Nat→W→Bool
  | _,.non=> true
  | _,.bl _=> true
  | _,.int _=> true
  | _,.str _=> true
  | n+1,.tup xs=> decide (xs.length≤100000) && W.sms n xs
  | n+1,.lst xs=> decide (xs.length≤100000) && W.sms n xs
  | _,_=> false
def W.sms:Nat→List W→Bool
  | _,[]=> true
  | n,x::xs=> W.sm n x && W.sms n xs
end
theorem W.sms_mem {n:Nat}:∀{xs:List W},W.sms n xs=true→∀x∈xs,x.sm n=true
  | [],_,x,h=> by cases h
  | y::ys,e,x,h=> by
    simp only [W.sms,Bool.and_eq_true] at e
    rcases List.mem_cons.mp h with rfl | h
    · exact e.1
    · exact W.sms_mem e.2 x h
theorem W.sms_of {n:Nat}:∀{xs:List W},(∀x∈xs,x.sm n=true)→W.sms n xs=true
  | [],_=> rfl
  | x::xs,h=> by
    simp only [W.sms,Bool.and_eq_true]
    exact ⟨h x (by simp),W.sms_of fun y hy=> h y (by simp [hy])⟩
theorem C5A {n:Nat} {xs:List W} (l:xs.length≤100000) (h:∀x∈xs,x.sm n=true):(W.tup xs).sm (n+1)=true:=by
  simp only [W.sm,Bool.and_eq_true,decide_eq_true_eq];exact ⟨l,W.sms_of h⟩
theorem B1M {n:Nat} {xs:List W} (l:xs.length≤100000) (h:∀x∈xs,x.sm n=true):(W.lst xs).sm (n+1)=true:=by
  simp only [W.sm,Bool.and_eq_true,decide_eq_true_eq];exact ⟨l,W.sms_of h⟩
theorem B5C:∀(d:Nat) (w:W),w.sm d=true→m__law_same (d+1) [w,w]=ret (.val (.bl true)):=by
  intro d
  induction d with
  | zero=>
    intro w h
    show w4 _ w w=_
    unfold w4
    cases w with
    | non=> simp only [↓C3,↓D8,↓F4,↓E5,↓G0,↓G5,↓K7,↓K6,↓K8,↓S8,↓K4,↓W5,↓Y0,↓u8,↓U3,↓W1,↓M1,↓R6,↓T2,↓F0,↓B5n,if_true,if_false,Bool.not_true,Bool.not_false,Bool.false_eq_true,decide_true,↓A0S,↓A0e,↓A0a,↓A0J,↓A0T,↓A0X,↓A0i,↓A0g,↓A0O,↓A0W,↓A0Q,↓A0c,↓A0Y,↓A0K,↓A0V,↓A0M,↓A0b,↓A0f,↓A0L,↓A0N,↓A0U,↓A0d,↓A0Z,↓A0I,↓A0R,↓w7,↓w9,↓w8,↓p9,↓q9,↓A2H,↓m9]
    | bl b=> simp only [↓C3,↓D8,↓F4,↓E5,↓G0,↓G5,↓K7,↓K6,↓K8,↓S8,↓K4,↓W5,↓Y0,↓u8,↓U3,↓W1,↓M1,↓R6,↓T2,↓F0,if_true,if_false,Bool.not_true,Bool.false_eq_true,decide_true,↓B6A,↓A0S,↓A0e,↓A0a,↓A0J,↓A0T,↓A0X,↓A0i,↓A0g,↓A0O,↓A0W,↓A0Q,↓A0c,↓A0Y,↓A0K,↓A0V,↓A0M,↓A0b,↓A0f,↓A0L,↓A0N,↓A0U,↓A0d,↓A0Z,↓A0I,↓A0R,↓w7,↓w9,↓w8,↓p9,↓q9,↓A2H,↓m9]
    | int i=> simp only [↓C3,↓D8,↓F4,↓E5,↓G0,↓G5,↓K7,↓K6,↓K8,↓S8,↓K4,↓W5,↓Y0,↓u8,↓U3,↓W1,↓M1,↓R6,↓T2,↓F0,↓A8Y,↓B5Z,if_true,if_false,Bool.not_true,Bool.not_false,Bool.false_eq_true,decide_true,↓A0S,↓A0e,↓A0a,↓A0J,↓A0T,↓A0X,↓A0i,↓A0g,↓A0O,↓A0W,↓A0Q,↓A0c,↓A0Y,↓A0K,↓A0V,↓A0M,↓A0b,↓A0f,↓A0L,↓A0N,↓A0U,↓A0d,↓A0Z,↓A0I,↓A0R,↓w7,↓w9,↓w8,↓p9,↓q9,↓A2H,↓m9]
    | str x=> simp only [↓C3,↓D8,↓F4,↓E5,↓G0,↓G5,↓K7,↓K6,↓K8,↓S8,↓K4,↓W5,↓Y0,↓u8,↓U3,↓W1,↓M1,↓R6,↓T2,↓F0,↓x8,↓B09,↓A3C,↓A8K,↓B5U,if_true,if_false,Bool.not_true,Bool.not_false,Bool.false_eq_true,decide_true,Int.toNat_natCast,G4,↓A0S,↓A0e,↓A0a,↓A0J,↓A0T,↓A0X,↓A0i,↓A0g,↓A0O,↓A0W,↓A0Q,↓A0c,↓A0Y,↓A0K,↓A0V,↓A0M,↓A0b,↓A0f,↓A0L,↓A0N,↓A0U,↓A0d,↓A0Z,↓A0I,↓A0R,↓w7,↓w9,↓w8,↓p9,↓q9,↓A2H,↓m9]
    | tup xs=> simp [W.sm] at h
    | lst xs=> simp [W.sm] at h
    | dct _ _=> simp [W.sm] at h
    | ref _=> simp [W.sm] at h
    | ty _=> simp [W.sm] at h
  | succ d ih=>
    intro w h
    show w4 (m__law_same (d+1)) w w=_
    unfold w4
    have seq:∀xs:List W,xs.length≤100000→(∀x∈xs,x.sm d=true)→∀v:W,(∀(i:Nat) (k:SV→MC),i < xs.length→D4 oIx (.val v) (.val (.int i)) k=V5 xs i fun w=> k (.val w))→
        ∀k:SV→MC,U6 (fun x_at kk=> D4 oIx (.val v) (.val x_at) fun x=> D4 oIx (.val v) (.val x_at) fun y=> call0 (m__law_same (d+1) [x.fz,y.fz]) fun z=> kk (some z.fz)) (fun acc=> k (.own (.seq acc))) (T1 0 xs.length) []=k (.own (.seq ((List.replicate xs.length true).map W.bl))):=by
      intro xs hl hx v hv k
      rw [A3S,A5i P7 (fun _=> .bl true) _ (fun i hi kk=> ?_) (by simp [G4];omega)]
      · congr 3
        rw [List.map_const',List.map_replicate,List.length_range]
      · have hi:i < xs.length:=by simpa using hi
        rw [hv i _ hi,A1y hi,hv i _ hi,A1y hi,C2,ih _ (hx _ (List.getElem_mem hi)),A3R,C2]
    cases w with
    | non=> simp only [↓C3,↓D8,↓F4,↓E5,↓G0,↓G5,↓K7,↓K6,↓K8,↓S8,↓K4,↓W5,↓Y0,↓u8,↓U3,↓W1,↓M1,↓R6,↓T2,↓F0,↓B5n,if_true,if_false,Bool.not_true,Bool.not_false,Bool.false_eq_true,decide_true,↓A0S,↓A0e,↓A0a,↓A0J,↓A0T,↓A0X,↓A0i,↓A0g,↓A0O,↓A0W,↓A0Q,↓A0c,↓A0Y,↓A0K,↓A0V,↓A0M,↓A0b,↓A0f,↓A0L,↓A0N,↓A0U,↓A0d,↓A0Z,↓A0I,↓A0R,↓w7,↓w9,↓w8,↓p9,↓q9,↓A2H,↓m9]
    | bl b=> simp only [↓C3,↓D8,↓F4,↓E5,↓G0,↓G5,↓K7,↓K6,↓K8,↓S8,↓K4,↓W5,↓Y0,↓u8,↓U3,↓W1,↓M1,↓R6,↓T2,↓F0,if_true,if_false,Bool.not_true,Bool.false_eq_true,decide_true,↓B6A,↓A0S,↓A0e,↓A0a,↓A0J,↓A0T,↓A0X,↓A0i,↓A0g,↓A0O,↓A0W,↓A0Q,↓A0c,↓A0Y,↓A0K,↓A0V,↓A0M,↓A0b,↓A0f,↓A0L,↓A0N,↓A0U,↓A0d,↓A0Z,↓A0I,↓A0R,↓w7,↓w9,↓w8,↓p9,↓q9,↓A2H,↓m9]
    | int i=> simp only [↓C3,↓D8,↓F4,↓E5,↓G0,↓G5,↓K7,↓K6,↓K8,↓S8,↓K4,↓W5,↓Y0,↓u8,↓U3,↓W1,↓M1,↓R6,↓T2,↓F0,↓A8Y,↓B5Z,if_true,if_false,Bool.not_true,Bool.not_false,Bool.false_eq_true,decide_true,↓A0S,↓A0e,↓A0a,↓A0J,↓A0T,↓A0X,↓A0i,↓A0g,↓A0O,↓A0W,↓A0Q,↓A0c,↓A0Y,↓A0K,↓A0V,↓A0M,↓A0b,↓A0f,↓A0L,↓A0N,↓A0U,↓A0d,↓A0Z,↓A0I,↓A0R,↓w7,↓w9,↓w8,↓p9,↓q9,↓A2H,↓m9]
    | str x=> simp only [↓C3,↓D8,↓F4,↓E5,↓G0,↓G5,↓K7,↓K6,↓K8,↓S8,↓K4,↓W5,↓Y0,↓u8,↓U3,↓W1,↓M1,↓R6,↓T2,↓F0,↓x8,↓B09,↓A3C,↓A8K,↓B5U,if_true,if_false,Bool.not_true,Bool.not_false,Bool.false_eq_true,decide_true,Int.toNat_natCast,G4,↓A0S,↓A0e,↓A0a,↓A0J,↓A0T,↓A0X,↓A0i,↓A0g,↓A0O,↓A0W,↓A0Q,↓A0c,↓A0Y,↓A0K,↓A0V,↓A0M,↓A0b,↓A0f,↓A0L,↓A0N,↓A0U,↓A0d,↓A0Z,↓A0I,↓A0R,↓w7,↓w9,↓w8,↓p9,↓q9,↓A2H,↓m9]
    | tup xs=>
      simp only [W.sm,Bool.and_eq_true,decide_eq_true_eq] at h
      have hl:=h.1
      simp only [↓C3,↓D8,↓F4,↓E5,↓G0,↓G5,↓K7,↓K6,↓K8,↓S8,↓K4,↓W5,↓Y0,↓u8,↓U3,↓W1,↓M1,↓R6,↓T2,↓F0,↓x8,↓W2,↓A3C,↓C3B,if_true,if_false,Bool.not_true,Bool.not_false,Bool.false_eq_true,decide_true,Int.toNat_natCast,↓A0S,↓A0e,↓A0a,↓A0J,↓A0T,↓A0X,↓A0i,↓A0g,↓A0O,↓A0W,↓A0Q,↓A0c,↓A0Y,↓A0K,↓A0V,↓A0M,↓A0b,↓A0f,↓A0L,↓A0N,↓A0U,↓A0d,↓A0Z,↓A0I,↓A0R,↓w7,↓w9,↓w8,↓p9,↓q9,↓m9]
      rw [F3 (by omega)]
      refine (seq xs h.1 (W.sms_mem h.2) (.tup xs) (fun i k _=> W3) (fun z=> cb A3J [z] ret)).trans ?_
      rw [A5r]
      simp
    | lst xs=>
      simp only [W.sm,Bool.and_eq_true,decide_eq_true_eq] at h
      have hl:=h.1
      simp only [↓C3,↓D8,↓F4,↓E5,↓G0,↓G5,↓K7,↓K6,↓K8,↓S8,↓K4,↓W5,↓Y0,↓u8,↓U3,↓W1,↓M1,↓R6,↓T2,↓F0,↓x8,↓A2A,↓A3C,↓B0N,if_true,if_false,Bool.not_true,Bool.not_false,Bool.false_eq_true,decide_true,Int.toNat_natCast,↓A0S,↓A0e,↓A0a,↓A0J,↓A0T,↓A0X,↓A0i,↓A0g,↓A0O,↓A0W,↓A0Q,↓A0c,↓A0Y,↓A0K,↓A0V,↓A0M,↓A0b,↓A0f,↓A0L,↓A0N,↓A0U,↓A0d,↓A0Z,↓A0I,↓A0R,↓w7,↓w9,↓w8,↓p9,↓q9,↓m9]
      rw [F3 (by omega)]
      refine (seq xs h.1 (W.sms_mem h.2) (.lst xs) (fun i k _=> A3A) (fun z=> cb A3J [z] ret)).trans ?_
      rw [A5r]
      simp
    | dct _ _=> simp [W.sm] at h
    | ref _=> simp [W.sm] at h
    | ty _=> simp [W.sm] at h
end Ab
namespace Ab
open PySem PySem.Spec PyProof.Rows L2 RZ
def A4Z (x_sizes:W):MC:=
  (K5 (A0x (E4 (A1Z (fun i j=> decide (i≤j)) (fun i j=> decide (i≤j)) (eC (.int 1)) (E6 D2 (C7 (eV (.val x_sizes)) D7)) (eC (.int 6))))) (y0 "BadSizes" "bad sizes" ["cask"] (A6 (A2 (A6I (eC (.int 1)))) B4)) (A3I (A8Z (A2 (eV (.val x_sizes)))) () (fun w6 (s1:Unit) kn3 kb4=> un2 w6 fun x_cask x_size=> (K5 (A0x (E4 (A1Z (fun i j=> decide (i≤j)) (fun i j=> decide (i≤j)) (eC (.int 1)) (eV (.val x_size)) (eC (.int 40))))) (y0 "BadSizes" "bad sizes" ["cask"] (A6 (A2 (eV (.val x_cask))) B4)) (kn3 ()))) fun (s1:Unit)=> (ret (.val .non))))
def A2Z:List W→MC
  | [x_sizes]=> A4Z x_sizes
  | _=> bad
def A5H (x_text:W):MC:=
  ((A1Y (A1Z (fun i j=> decide (i≤j)) (fun i j=> decide (i≤j)) (eC (.int 1)) (E6 D2 (C7 (eV (.val x_text)) D7)) (eC (.int 8))) (E6 A3J (C7 (v8 (B1D (eV (.val x_text))) fun x_sign kk=> g8 A0B (A2 (A8 (oInS false) (eV (.val x_sign)) (eC (.str ("abcdefghijklmnopqrstuvwxyz":Str))))) kk) D7))) ret)
def A2k:List W→MC
  | [x_text]=> A5H x_text
  | _=> bad
def A5J (x_step:W):MC:=
  ((A1Y (A8 oGt (E6 D2 (C7 (eV (.val x_step)) D7)) (eC (.int 0))) (A8 (D6 false) (A8 oIx (eV (.val x_step)) (eC (.int 0))) (eC (.str ("call":Str))))) ret)
def N6:List W→MC
  | [x_step]=> A5J x_step
  | _=> bad
def A4o (x_step:W):MC:=
  (K5 (E4 (A8 (D6 true) (E6 D2 (C7 (eV (.val x_step)) D7)) (eC (.int 3)))) ((A6I (eC (.int 1))) ret) ((eIf (E4 (A1Z (fun i j=> decide (i≤j)) (fun i j=> decide (i≤j)) (eC (.int 0)) (A8 oIx (eV (.val x_step)) (eC (.int 2))) (eC (.int 9)))) (eC .non) (eC (.int 2))) ret))
def A1t:List W→MC
  | [x_step]=> A4o x_step
  | _=> bad
def A4U (x_self x_sizes:W):MC:=
  ((G3 A2Z (A6 (A2 (eV (.val x_sizes))) B4)) fun _=> (A6F "Book" "casks" (A2 (eV (.val x_sizes))) (eV (.val x_self)) ((A6F "Book" "written" (A2Q A3s) (eV (.val x_self)) ((A6F "Book" "laid" (A2Q A3s) (eV (.val x_self)) ((ret (.val .non)))))))))
def A2X:List W→MC
  | [x_self,x_sizes]=> A4U x_self x_sizes
  | _=> bad
def A4O (x_self x_name:W):MC:=
  (K5 (E4 (A38 true (A2 (eV (.val x_name))) (W6 "Book" "written" (eV (.val x_self))))) (y0 "NoRound" "no round" ["name"] (A6 (A2 (eV (.val x_name))) B4)) ((A0u (W6 "Book" "written" (eV (.val x_self))) (A2 (eV (.val x_name)))) ret))
def T9:List W→MC
  | [x_self,x_name]=> A4O x_self x_name
  | _=> bad
def A4m (x_self x_name:W):MC:=
  ((d9 "Book" "there" T9 (eV (.val x_self)) (A6 (A2 (eV (.val x_name))) B4)) fun _=> ((E6 Q4 (C7 (A0u (W6 "Book" "laid" (eV (.val x_self))) (A2 (eV (.val x_name)))) D7)) ret))
def A1s:List W→MC
  | [x_self,x_name]=> A4m x_self x_name
  | _=> bad
def A4k (x_self:W):MC:=
  ((E6 A1H (C7 (W6 "Book" "written" (eV (.val x_self))) D7)) ret)
def A1r:List W→MC
  | [x_self]=> A4k x_self
  | _=> bad
def A4V (x_self:W):MC:=
  ((E6 n8 (C7 (W6 "Book" "written" (eV (.val x_self))) D7)) ret)
def A2Y:List W→MC
  | [x_self]=> A4V x_self
  | _=> bad
def A4M (x_self:W):MC:=
  ((B0I [(eC (.str ("Book(":Str))),(B16 (E6 n8 (C7 (W6 "Book" "written" (eV (.val x_self))) D7))),(eC (.str (" rounds)":Str)))]) ret)
def A2V:List W→MC
  | [x_self]=> A4M x_self
  | _=> bad
def A4I (x_self x_name:W):MC:=
  (K5 (A0x (E4 (G3 A2k (A6 (A2 (eV (.val x_name))) B4)))) (y0 "BadName" "bad name" [] B4) (K5 (E4 (A38 false (A2 (eV (.val x_name))) (W6 "Book" "written" (eV (.val x_self))))) (y0 "Taken" "taken" ["name"] (A6 (A2 (eV (.val x_name))) B4)) (K5 (E4 (A8 oGe (E6 n8 (C7 (W6 "Book" "written" (eV (.val x_self))) D7)) (eC (.int 12)))) (y0 "TooMany" "too many" ["most"] (A6 (A2 (eC (.int 12))) B4)) (ret (.val .non)))))
def A1j:List W→MC
  | [x_self,x_name]=> A4I x_self x_name
  | _=> bad
def A4P (x_self x_steps:W):MC:=
  ((Q5 B4) fun x_found=> (A59 (A2K (eV (.val x_steps))) x_found (fun x_step (s1:SV) kn3 kb4=> (K5 (E4 (G3 N6 (A6 (A2 (eV (.val x_step))) B4))) (A89 s1 (A8 oMulX (A0u (W6 "Book" "laid" (eV (.val x_self))) (A2 (A8 oIx (eV (.val x_step)) (eC (.int 1))))) (A8 oIx (eV (.val x_step)) (eC (.int 2)))) fun x_found=> (kn3 x_found)) (lmC i6 s1 (A6 (A2 (eV (.val x_step))) B4) fun x_found _=> (kn3 x_found)))) fun (s1:SV)=> ((eV s1) ret)))
def A1m:List W→MC
  | [x_self,x_steps]=> A4P x_self x_steps
  | _=> bad
def A4H (x_self x_at x_step:W):MC:=
  ((A2 (eIf (E4 (G3 N6 (A6 (A2 (eV (.val x_step))) B4))) (G3 A1t (A6 (A2 (eV (.val x_step))) B4)) (G3 A1u (A6 (A2 (W6 "Book" "casks" (eV (.val x_self)))) (A6 (A2 (eV (.val x_step))) B4))))) fun x_place=> (K5 (E4 (A8 (N5 true) (eV (.val x_place)) (eC .non))) (y0 "BadRow" "bad row" ["step","place"] (A6 (A2 (eV (.val x_at))) (A6 (A2 (eV (.val x_place))) B4))) (K5 (E4 (G3 N6 (A6 (A2 (eV (.val x_step))) B4))) ((d9 "Book" "there" T9 (eV (.val x_self)) (A6 (A2 (A8 oIx (eV (.val x_step)) (eC (.int 1)))) B4)) fun _=> (ret (.val .non))) (ret (.val .non)))))
def A1i:List W→MC
  | [x_self,x_at,x_step]=> A4H x_self x_at x_step
  | _=> bad
def A4d (x_self x_steps:W):MC:=
  ((E6 u7 (C7 (A3F (A2K (eV (.val x_steps))) fun x_step kk=> g8 A0B (A2 (eIf (E4 (u4 N6 (A6 (A2 (eV (.val x_step))) B4))) (A8 oMulT (A8 oIx (eV (.val x_step)) (eC (.int 2))) (E6 D2 (C7 (A0u (W6 "Book" "laid" (eV (.val x_self))) (A2 (A8 oIx (eV (.val x_step)) (eC (.int 1))))) D7))) (eC (.int 1)))) kk) D7)) ret)
def A1p:List W→MC
  | [x_self,x_steps]=> A4d x_self x_steps
  | _=> bad
def A2U (x_self x_name:W):MC:=
  ((d9 "Book" "there" T9 (eV (.val x_self)) (A6 (A2 (eV (.val x_name))) B4)) fun _=> ((Q5 B4) fun x_found=> (B1F "Book" "written" (.val x_self) x_found (fun x_other x_steps (s1:SV) kn3=> (K5 (E4 (E6 A6X (C7 (v8 (A2z (A2 (eV (.val x_steps)))) fun x_step kk=> g8 A0B (A2 (A1Y (u4 N6 (A6 (A2 (eV (.val x_step))) B4)) (A8 (D6 false) (A8 oIx (eV (.val x_step)) (eC (.int 1))) (eV (.val x_name))))) kk) D7))) (lmC i6 s1 (A6 (A2 (eV (.val x_other))) B4) fun x_found _=> (kn3 x_found)) (kn3 s1))) (fun (s1:SV)=> x_self.nodct=true∧x_name.nodct=true∧s1.nodct=true) fun (s1:SV)=> ((eV s1) ret))))
def j9:List W→MC
  | [x_self,x_name]=> A2U x_self x_name
  | _=> bad
def A4L (x_self x_name x_steps:W):MC:=
  ((d9 "Book" "look_new" A1j (eV (.val x_self)) (A6 (A2 (eV (.val x_name))) B4)) fun _=> (A59 (B2J (eV (.val x_steps))) () (fun w6 (s1:Unit) kn3 kb4=> un2 w6 fun x_at x_step=> ((d9 "Book" "look_step" A1i (eV (.val x_self)) (A6 (A2 (eV (.val x_at))) (A6 (A2 (eV (.val x_step))) B4))) fun _=> (kn3 ()))) fun (s1:Unit)=> (K5 (E4 (A8 oGt (d9 "Book" "length" A1p (eV (.val x_self)) (A6 (A2 (eV (.val x_steps))) B4)) (eC (.int 200)))) (y0 "TooLong" "too long" ["most"] (A6 (A2 (eC (.int 200))) B4)) (A8l (A2 (E6 Q4 (C7 (eV (.val x_steps)) D7))) (W6 "Book" "written" (eV (.val x_self))) (A2 (eV (.val x_name))) ((A8l (A2 (d9 "Book" "laid_out" A1m (eV (.val x_self)) (A6 (A2 (eV (.val x_steps))) B4))) (W6 "Book" "laid" (eV (.val x_self))) (A2 (eV (.val x_name))) ((ret (.val .non)))))))))
def A1l:List W→MC
  | [x_self,x_name,x_steps]=> A4L x_self x_name x_steps
  | _=> bad
def A76:Str:=("abcdefghijklmnopqrstuvwxyz":Str)
def A3j (x:Str):Bool:=decide ((1:Int)≤x.length) && (decide ((x.length:Int)≤8) && x.cps.toList.all fun c=> A0t ⟨#[c]⟩ A76)
theorem C0e {x:Str} (l:x.length≤1000):A2k [.str x]=ret (.val (.bl (A3j x))):=by
  show A5H _=_
  unfold A5H
  have l2:x.length≤16777216:=by omega
  have l3:x.cps.toList.length≤sizeLine:=by
    have e:x.cps.toList.length=x.length:=by simp [Str.length]
    rw [e,G4];omega
  simp only [↓B5J,↓C2O,↓C3,↓D8,↓F4,↓E5,↓K7,↓K6,↓K8,↓S8,↓Y0,↓A0s,↓R6,↓T2,↓l8,↓F0,↓A1P,↓B09,if_true,if_false,Bool.false_eq_true,decide_eq_true_eq,G4,l2,A1P]
  unfold A3j
  by_cases a:(1:Int)≤x.length
  · by_cases b:(x.length:Int)≤8
    · simp only [a,b,if_true,decide_true,Bool.true_and]
      show U6 _ _ (x.cps.toList.map fun c=> W.str ⟨#[c]⟩) []=_
      rw [A5i (fun c:Nat=> W.str ⟨#[c]⟩) (fun c=> .bl (A0t ⟨#[c]⟩ A76)) x.cps.toList (fun c _ kk=> by rw [C6N];rfl) l3]
      rw [show (x.cps.toList.map fun c=> W.bl (A0t ⟨#[c]⟩ A76))=(x.cps.toList.map fun c=> A0t ⟨#[c]⟩ A76).map W.bl by rw [List.map_map];rfl,A5r,List.all_map]
      rfl
    · simp only [a,b,if_true,if_false,decide_true,decide_false,Bool.true_and,Bool.false_and,Bool.false_eq_true]
  · simp only [a,if_false,decide_false,Bool.false_and,Bool.false_eq_true]
inductive St where
  | call (n:Str) (t:Nat) | deed (d:Dd)
def St.w:St→W
  | .call n t=> .tup [.str "call",.str n,.int (t:Int)]
  | .deed d=> d.w
def St.isC:St→Bool
  | .call _ _=> true
  | .deed _=> false
def St.ok (ss:List Int):St→Prop
  | .call _ t=> t≤9
  | .deed d=> d.ok ss
theorem C20 (d:Dd):d.word≠("call":Str):=by cases d <;> (show Str.ofString _≠Str.ofString _;rw [Ne,k9];decide)
theorem St.nb (s:St):s.w.nb 1=true:=by
  cases s with
  | call n t=> rfl
  | deed d=> exact C59 d
theorem B3k {c:Str} {r:List W} (hr:r.length≤1000):N6 [.tup (.str c::r)]=ret (.val (.bl (decide (c=("call":Str))))):=by
  show A5J _=_
  unfold A5J
  simp only [↓C3,↓D8,↓F4,↓K7,↓K6,↓K8,↓Y0,↓F0,↓B2E,↓W3,↓n9,↓W2,↓A8K,decide_eq_true_eq,List.length_cons]
  rw [if_pos (show (0:Int) < ((r.length+1:Nat):Int) by omega)]
theorem Dd.w_len (d:Dd) (ss:List Int) (hs:V3 ss) (h:d.ok ss):d.rest.length≤1000:=by
  have l6:=hs.2.1
  cases d with
  | over n cs=>
    have z:=h.2.2.2.1
    simp only [Dd.rest,List.length_cons,List.length_map]
    omega
  | down n cs=>
    have z:=h.2.2.2.1
    simp only [Dd.rest,List.length_cons,List.length_map]
    omega
  | _=> simp [Dd.rest]
theorem A7P {ss:List Int} (hs:V3 ss) {s:St} (h:s.ok ss):N6 [s.w]=ret (.val (.bl s.isC)):=by
  cases s with
  | call n t=> exact B3k (r:=[.str n,.int t]) (by simp)
  | deed d=>
    show N6 [d.w]=_
    rw [Dd.w_eq,B3k (d.w_len ss hs h),decide_eq_false (C20 d)]
    rfl
theorem B9O {n:Str} {t:Int}:A1t [.tup [.str "call",.str n,.int t]]=ret (.val (if 0≤t∧t≤9 then .non else .int 2)):=by
  show A4o _=_
  unfold A4o
  simp only [↓C3,↓D8,↓F4,↓K7,↓K6,↓K8,↓K4,↓A1W,↓C6G,↓A0s,↓M1,↓l8,↓F0,↓W3,↓A29,↓W2,↓A3C,if_false,Bool.false_eq_true,decide_eq_true_eq,List.length_cons,List.length_nil,Nat.zero_add,Nat.reduceAdd]
  rw [if_neg (by decide)]
  by_cases a:0≤t
  · by_cases b:t≤9
    · simp only [a,b,if_true,decide_true,and_self]
    · simp only [a,b,if_true,if_false,decide_false,and_false,Bool.false_eq_true]
  · simp only [a,if_false,false_and,Bool.false_eq_true]
structure Ent where
  name:Str
  steps:List St
  deeds:List Dd
def Ent.wr (e:Ent):Str×W:=(e.name,.lst (e.steps.map St.w))
def Ent.la (e:Ent):Str×W:=(e.name,.lst (e.deeds.map Dd.w))
structure BookAt (h:AH) (b:Addr) (s:W) (pw pl:Addr) (es:List Ent):Prop where
  ob:h b=some (.ins "Book" [("casks",s),("written",.ref pw),("laid",.ref pl)])
  wr:h pw=some (.cont (.map (smap (es.map Ent.wr))))
  la:h pl=some (.cont (.map (smap (es.map Ent.la))))
  ne:pw≠pl
theorem BookAt.nbw {h:AH} {b:Addr} {s:W} {pw pl:Addr} {es:List Ent} (B:BookAt h b s pw pl es):b≠pw:=fun z=> by
  have a:=B.ob
  rw [z,B.wr] at a
  cases a
def L6 (es:List Ent) (x:Str):Option Ent:=es.find? fun e=> e.name==x
theorem A5b {es:List Ent} {x:Str}:(es.map Ent.wr).lookup x=(L6 es x).map fun e=> W.lst (e.steps.map St.w):=by
  unfold L6
  induction es with
  | nil=> rfl
  | cons e es ih=>
    rw [List.map_cons,show Ent.wr e=(e.name,W.lst (e.steps.map St.w)) from rfl,List.lookup_cons,List.find?_cons]
    cases q:x==e.name with
    | true=>
      have q2:(e.name==x)=true:=BEq.comm.trans q
      rw [q2];rfl
    | false=>
      have q2:(e.name==x)=false:=BEq.comm.trans q
      rw [q2];exact ih
theorem A5h {es:List Ent} {x:Str}:(es.map Ent.la).lookup x=(L6 es x).map fun e=> W.lst (e.deeds.map Dd.w):=by
  unfold L6
  induction es with
  | nil=> rfl
  | cons e es ih=>
    rw [List.map_cons,show Ent.la e=(e.name,W.lst (e.deeds.map Dd.w)) from rfl,List.lookup_cons,List.find?_cons]
    cases q:x==e.name with
    | true=>
      have q2:(e.name==x)=true:=BEq.comm.trans q
      rw [q2];rfl
    | false=>
      have q2:(e.name==x)=false:=BEq.comm.trans q
      rw [q2];exact ih
section
variable {Q:RR→AH→Prop} {E:AExc→AH→Prop} {h:AH} {b pw pl:Addr} {s:W} {es:List Ent} {k:SV→MC}
theorem B4k (B:BookAt h b s pw pl es):A1T "Book" "casks" (.val (.ref b)) k h Q E=k (.val s) h Q E:=A3q B.ob rfl
theorem A02 (B:BookAt h b s pw pl es):A1T "Book" "written" (.val (.ref b)) k h Q E=k (.val (.ref pw)) h Q E:=A3q B.ob rfl
theorem B5u (B:BookAt h b s pw pl es):A1T "Book" "laid" (.val (.ref b)) k h Q E=k (.val (.ref pl)) h Q E:=A3q B.ob rfl
theorem i4 {nm:Str} {k:Addr→MC} (B:BookAt h b s pw pl es) (hn:([("casks",s),("written",W.ref pw),("laid",W.ref pl)]:List (Str×W)).lookup nm=none):Y3 "Book" nm (.val (.ref b)) k h Q E=k b h Q E:=B6f B.ob hn
theorem C2I (B:BookAt h b s pw pl es):A1r [.ref b] h Q E=Q (.own (.seq (es.map fun e=> W.str e.name))) h:=by
  show A4k _ h Q E=_
  unfold A4k
  simp only [↓e9,↓C3,↓K7,↓K6,↓K8]
  rw [A02 B,C2T B.wr,List.map_map]
  rfl
theorem C5K (B:BookAt h b s pw pl es):A2Y [.ref b] h Q E=Q (.val (.int es.length)) h:=by
  show A4V _ h Q E=_
  unfold A4V
  simp only [↓e9,↓C3,↓K7,↓K6,↓K8]
  rw [A02 B,B0g B.wr,List.length_map]
  rfl
def A5Z (x:Str):AExc:=⟨"NoRound",initF (W.str "no round") ["name"] [.str x]⟩
theorem A7c {x:Str} (B:BookAt h b s pw pl es):T9 [.ref b,.str x] h Q E=match L6 es x with
    | some e=> Q (.val (.lst (e.steps.map St.w))) h
    | none=> E (A5Z x) h:=by
  show A4O _ _ h Q E=_
  unfold A4O
  simp only [↓e9,↓A8f,↓A18,↓C3,↓E5,↓G0,↓G5,↓K4,↓M1,↓C2,↓A1w]
  rw [A02 B,A78 B.wr,A5b]
  cases q:L6 es x with
  | none=>
    simp only [↓F0,↓A5R,if_true,Bool.not_false,Option.map_none,Option.isSome_none]
    rfl
  | some e=>
    simp only [↓F0,if_true,if_false,Bool.not_true,Bool.false_eq_true,Option.map_some,Option.isSome_some]
    rw [A02 B,A2l B.wr (by rw [A5b,q];rfl)]
    rfl
theorem C33 {x:Str} {e:Ent} (B:BookAt h b s pw pl es) (q:L6 es x=some e):A1s [.ref b,.str x] h Q E=Q (.own (.seq (e.deeds.map Dd.w))) h:=by
  show A4m _ _ h Q E=_
  unfold A4m
  simp only [↓e9,↓u3,↓A18,↓C3,↓E5,↓G0,↓G5,↓K7,↓K6,↓K8,↓C2]
  rw [i4 B rfl]
  show T9 _ h _ _=_
  rw [A7c B,q]
  show A1T _ _ _ _ h Q E=_
  rw [B5u B,A2l B.la (by rw [A5h,q];rfl)]
  simp only [↓C49,↓A5t,↓B02]
def C4U:AExc:=⟨"BadName",initF (W.str "bad name") [] []⟩
def C6A (x:Str):AExc:=⟨"Taken",initF (W.str "taken") ["name"] [.str x]⟩
def C1c:AExc:=⟨"TooMany",initF (W.str "too many") ["most"] [.int 12]⟩
def A24 (es:List Ent) (x:Str):Option AExc:=if A3j x=false then some C4U else if (L6 es x).isSome=true then some (C6A x) else if 12≤es.length then some C1c else none
theorem C0R {x:Str} (lx:x.length≤1000) (B:BookAt h b s pw pl es):A1j [.ref b,.str x] h Q E=match A24 es x with
    | some e=> E e h
    | none=> Q (.val .non) h:=by
  show A4I _ _ h Q E=_
  unfold A4I
  simp only [↓e9,↓A8f,↓C3,↓D8,↓F4,↓E5,↓G0,↓G5,↓K7,↓K6,↓K8,↓K4,↓A0l,↓P6,↓M1,↓C2,↓F0,↓U8,↓A1w,C0e lx]
  unfold A24
  cases a:A3j x with
  | false=>
    simp only [↓A5R,if_true,Bool.not_false]
    rfl
  | true=>
    simp only [if_false,Bool.not_true,Bool.false_eq_true]
    rw [A02 B,A78 B.wr,A5b]
    cases q:L6 es x with
    | some e=>
      simp only [↓F0,↓A5R,if_true,if_false,Bool.not_true,Bool.false_eq_true,Option.map_some,Option.isSome_some]
      rfl
    | none=>
      simp only [↓F0,if_false,Bool.not_false,Bool.false_eq_true,Option.map_none,Option.isSome_none]
      rw [A02 B,B0g B.wr,List.length_map]
      simp only [↓F0,↓B19,decide_eq_true_eq]
      by_cases l:12≤es.length
      · rw [if_pos (show (12:Int)≤(es.length:Int) by omega),if_pos l]
        rfl
      · rw [if_neg (show ¬(12:Int)≤(es.length:Int) by omega),if_neg l]
        rfl
inductive Sw where
  | good (s:St) | odd (w:W) (p:Int)
def Sw.w:Sw→W
  | .good s=> s.w
  | .odd w _=> w
def Sw.ok (ss:List Int):Sw→Prop
  | .good s=> s.ok ss
  | .odd w p=> ∃c,N6 [w]=ret (.val (.bl c))∧(c=true→A1t [w]=ret (.val (.int p)))∧(c=false→A1u [.tup (ss.map .int),w]=ret (.val (.int p)))
def C5W (i:Int) (p:Int):AExc:=⟨"BadRow",initF (W.str "bad row") ["step","place"] [.int i,.int p]⟩
def A0k (es:List Ent) (i:Int):Sw→Option AExc
  | .good (.call n _)=> if (L6 es n).isSome=true then none else some (A5Z n)
  | .good (.deed _)=> none
  | .odd _ p=> some (C5W i p)
theorem B9s {ss:List Int} {x:Sw} {i:Int} (hs:V3 ss) (hx:x.ok ss) (B:BookAt h b (.tup (ss.map .int)) pw pl es):A1i [.ref b,.int i,x.w] h Q E=match A0k es i x with
    | some e=> E e h
    | none=> Q (.val .non) h:=by
  show A4H _ _ _ h Q E=_
  unfold A4H
  cases x with
  | good g=>
    have ic:=A7P hs (s:=g) hx
    cases g with
    | call n t=>
      have ht:t≤9:=hx
      have cf:=B9O (n:=n) (t:=t)
      rw [if_pos ⟨by omega,by omega⟩] at cf
      have ic:N6 [.tup [.str "call",.str n,.int (t:Int)]]=ret (.val (.bl true)):=ic
      simp only [Sw.w,St.w,↓e9,↓u3,↓C3,↓D8,↓F4,↓E5,↓G0,↓G5,↓K4,↓A1W,↓P6,↓M1,↓C2,↓F0,↓U8,↓W3,↓A1J,↓A94,↓A1w,if_true,if_false,Bool.false_eq_true,ic,cf]
      rw [i4 B rfl]
      show T9 _ h _ _=_
      rw [A7c B]
      cases q:L6 es n <;> simp only [A0k,q,Option.isSome_some,Option.isSome_none,if_true,if_false,Bool.false_eq_true] <;> rfl
    | deed d=>
      have fo:=C0Y hs (d:=d) hx
      have ic:N6 [d.w]=ret (.val (.bl false)):=ic
      simp only [Sw.w,St.w,↓e9,↓u3,↓C3,↓D8,↓F4,↓E5,↓G0,↓G5,↓K4,↓A1W,↓P6,↓M1,↓C2,↓F0,↓U8,↓A1w,if_false,Bool.false_eq_true,ic]
      rw [B4k B]
      simp only [↓C2,↓B6X,↓F0,↓A5t,↓U8,↓A94,if_false,Bool.false_eq_true,fo,ic]
      rfl
  | odd w p=>
    obtain ⟨c,ic,h1,h2⟩:=hx
    cases c with
    | true=>
      simp only [Sw.w,↓e9,↓u3,↓C3,↓D8,↓F4,↓E5,↓G0,↓G5,↓K4,↓A1W,↓P6,↓M1,↓C2,↓F0,↓A5R,↓U8,↓B42,↓A1w,if_true,ic,h1 rfl]
      rfl
    | false=>
      simp only [Sw.w,↓e9,↓u3,↓C3,↓D8,↓F4,↓E5,↓G0,↓G5,↓K4,↓A1W,↓P6,↓M1,↓C2,↓F0,↓U8,↓A1w,if_false,Bool.false_eq_true,ic]
      rw [B4k B]
      simp only [↓C2,↓F0,↓A5R,↓U8,↓B42,if_true,h2 rfl]
      rfl
def d0 (es:List Ent) (n:Str):List Dd:=match L6 es n with
  | some e=> e.deeds
  | none=> []
def j4 (es:List Ent):St→Nat
  | .call n t=> t*(d0 es n).length
  | .deed _=> 1
def N7 (es:List Ent):St→List Dd
  | .call n t=> (List.replicate t (d0 es n)).flatten
  | .deed d=> [d]
theorem B5I (es:List Ent) (s:St):(N7 es s).length=j4 es s:=by
  cases s with
  | call n t=> simp [N7,j4]
  | deed d=> rfl
def A37 (es:List Ent):Prop:=∀e∈es,e.deeds.length≤200∧e.steps.length≤1000
theorem A7Z {es:List Ent} {x:Str} {e:Ent} (h:L6 es x=some e):e∈es:=List.mem_of_find?_eq_some h
theorem A7a {es:List Ent} (h:A37 es) (n:Str):(d0 es n).length≤200:=by
  unfold d0
  cases q:L6 es n with
  | none=> simp
  | some e=> exact (h e (A7Z q)).1
def St.there (es:List Ent):St→Prop
  | .call n _=> (L6 es n).isSome=true
  | .deed _=> True
def Src (h:AH) (x:W) (ws:List W):Prop:=x= .lst ws∨x= .tup ws∨∃a,x= .ref a∧h a=some (.cont (.seq ws))
theorem B1N {x:W} {ws:List W} (s:Src h x ws):∃ok:AH→Prop,ok h∧∀(k:(AH→Prop)→List W→MC) (Q:RR→AH→Prop) (E:AExc→AH→Prop),A0C (.val x) k h Q E=k ok ws h Q E:=by
  rcases s with rfl | rfl | ⟨a,rfl,e⟩
  · exact ⟨fun _=> True,trivial,fun k Q E=> rfl⟩
  · exact ⟨fun _=> True,trivial,fun k Q E=> rfl⟩
  · exact ⟨fun g=> g a=some (.cont (.seq ws)),e,fun k Q E=> A5f e⟩
theorem C3o {x:W} {ws:List W} {k:SV→MC} (s:Src h x ws):cb Q4 [.val x] k h Q E=k (.own (.seq ws)) h Q E:=by
  rcases s with rfl | rfl | ⟨a,rfl,e⟩
  · simp only [↓B02]
  · simp only [↓C5R]
  · unfold cb
    rw [List.map_cons,List.map_nil,A09 e]
    show Q4 [.cv (.seq ws)] _=_
    rw [A8Q]
    rfl
theorem B46 {α:Type} (f:α→Nat):∀l:List α,(l.map fun a=> ((f a:Nat):Int)).sum=((l.map f).sum:Nat)
  | []=> rfl
  | a::l=> by
    rw [List.map_cons,List.sum_cons,List.map_cons,List.sum_cons,B46 f l]
    omega
theorem C1o {ss:List Int} {x:W} {g:List St} (hs:V3 ss) (ho:A37 es) (hg:∀s∈g,s.ok ss∧s.there es) (lg:g.length≤1000) (sr:Src h x (g.map St.w)) (B:BookAt h b (.tup (ss.map .int)) pw pl es):
    A1p [.ref b,x] h Q E=Q (.val (.int ((g.map (j4 es)).sum:Nat))) h:=by
  show A4d _ _ h Q E=_
  unfold A4d
  obtain ⟨ok,o,e⟩:=B1N sr
  simp only [↓e9,↓A18,↓B0m,↓B69,↓C3,↓D8,↓F4,↓E5,↓G0,↓G5,↓K7,↓K6,↓K8,↓S8,↓K4,↓A1W,↓U3,↓R6,↓C2,if_true]
  rw [e,A5Y St.w (fun s=> some (.int (j4 es s:Nat))) o g [] (fun s hm kk=> ?_) (by simp [G4];omega),List.nil_append]
  · rw [List.filterMap_eq_map']
    show cb u7 [.own (.seq (g.map fun s=> W.int ((j4 es s:Nat):Int)))] ret h Q E=_
    rw [show (g.map fun s=> W.int ((j4 es s:Nat):Int))=(g.map fun s=> ((j4 es s:Nat):Int)).map W.int by rw [List.map_map];rfl,C5c,B46]
    rfl
  · obtain ⟨h1,h2⟩:=hg s hm
    have ic:=A7P hs h1
    cases s with
    | deed d=>
      have ic:N6 [d.w]=ret (.val (.bl false)):=ic
      simp only [St.w,↓F0,↓A3R,if_false,Bool.false_eq_true,ic]
      rfl
    | call n t=>
      have ic:N6 [.tup [.str "call",.str n,.int (t:Int)]]=ret (.val (.bl true)):=ic
      simp only [St.w,↓C2,↓F0,↓A3R,↓W3,↓A1J,↓A29,if_true,ic]
      obtain ⟨e2,q⟩:=Option.isSome_iff_exists.mp h2
      have ht:t≤9:=h1
      have hd:=A7a ho n
      have de:d0 es n=e2.deeds:=by unfold d0;rw [q]
      rw [de] at hd
      rw [B5u B,A2l B.la (by rw [A5h,q];rfl)]
      simp only [↓C2,↓A8V,↓A2A,List.length_map]
      rw [F3 (A2E (by omega) (by omega) (by omega) (by omega)),show j4 es (.call n t)=t*e2.deeds.length by rw [←de];rfl,Int.natCast_mul]
theorem C0C {ss:List Int} {x:W} {g:List St} (hs:V3 ss) (ho:A37 es) (hg:∀s∈g,s.ok ss∧s.there es) (lg:g.length≤1000) (sr:Src h x (g.map St.w)) (B1:h b=some (.ins "Book" [("casks",s),("written",.ref pw),("laid",.ref pl)])) (B2:h pl=some (.cont (.map (smap (es.map Ent.la))))):
    A1m [.ref b,x] h Q E=Q (.own (.seq ((g.flatMap (N7 es)).map Dd.w))) h:=by
  show A4P _ _ h Q E=_
  unfold A4P
  obtain ⟨ok,o,e⟩:=B1N sr
  simp only [↓B0m,↓B0V,↓C3,↓E5,↓G0,↓G5,↓m8,↓K4,↓P6,↓M1,↓C2,↓A1P,List.length_nil,G4,Nat.reduceLeDiff]
  rw [e]
  have cb:∀s∈g,j4 es s≤1800:=fun s hm=> by
    obtain ⟨h1,h2⟩:=hg s hm
    cases s with
    | deed d=> show 1≤1800;omega
    | call n t=>
      have ht:t≤9:=h1
      have hd:=A7a ho n
      show t*(d0 es n).length≤1800
      exact Nat.le_trans (Nat.mul_le_mul ht hd) (by decide)
  show Y1 ok _ _ _ ((fun ds:List Dd=> SV.own (.seq (ds.map Dd.w))) []) h Q E=_
  rw [A9v St.w (fun ds:List Dd=> SV.own (.seq (ds.map Dd.w))) (fun ds s=> ds++N7 es s) o (fun i ds=> i≤1000→ds.length≤1800*i) g [] 0 (by simp) (fun j s hj ds kn kb hi=> ?_)]
  · rw [show g.foldl (fun ds s=> ds++N7 es s) []=g.flatMap (N7 es) from ?_]
    · rfl
    · have z:∀(l:List St) (a:List Dd),l.foldl (fun ds s=> ds++N7 es s) a=a++l.flatMap (N7 es):=fun l=> by
        induction l with
        | nil=> intro a;simp
        | cons s l ih=> intro a;rw [List.foldl_cons,ih,List.flatMap_cons,List.append_assoc]
      simpa using z g []
  · have hm:=List.mem_of_getElem? hj
    have jl:j < g.length:=(List.getElem?_eq_some_iff.mp hj).1
    obtain ⟨h1,h2⟩:=hg s hm
    have c:=cb s hm
    have lb:=hi (by omega)
    have ll:=B5I es s
    refine ⟨fun _=> by rw [List.length_append];omega,?_⟩
    have ic:=A7P hs h1
    cases s with
    | deed d=>
      have ic:N6 [d.w]=ret (.val (.bl false)):=ic
      simp only [St.w,↓e9,↓A18,↓C3,↓D8,↓F4,↓E5,↓G0,↓G5,↓C2,↓F0,↓U8,↓B0l,↓B06,↓A9p,if_false,Bool.false_eq_true,List.length_map,G4,ic]
      rw [F3 (by omega)]
      simp [N7]
    | call n t=>
      have ic:N6 [.tup [.str "call",.str n,.int (t:Int)]]=ret (.val (.bl true)):=ic
      simp only [St.w,↓e9,↓A18,↓C3,↓D8,↓F4,↓E5,↓G0,↓G5,↓C2,↓F0,↓U8,↓W3,↓A1J,↓A29,↓B0l,↓B06,↓A9p,if_true,List.length_map,G4,ic]
      obtain ⟨e2,q⟩:=Option.isSome_iff_exists.mp h2
      have ht:t≤9:=h1
      have hd:=A7a ho n
      have de:d0 es n=e2.deeds:=by unfold d0;rw [q]
      have le:N7 es (.call n t)=(List.replicate t e2.deeds).flatten:=by show (List.replicate t (d0 es n)).flatten=_;rw [de]
      rw [A3q B1 rfl,A2l B2 (by rw [A5h,q];rfl),B5P,m6,B6b,m6,Int.toNat_natCast]
      rw [show (List.replicate t (e2.deeds.map Dd.w)).flatten=(N7 es (.call n t)).map Dd.w by rw [le,List.map_flatten,List.map_replicate],←List.map_append]
      have l1:(e2.deeds.map Dd.w).length*t≤1800:=by
        rw [List.length_map,←de,Nat.mul_comm]
        exact c
      refine propext ⟨fun z=> z.2.2,fun z=> ⟨⟨by omega,by omega,by rw [G4];omega⟩,?_,z⟩⟩
      rw [List.length_map,List.length_map,G4]
      omega
def Q8 (x:Str):St→Bool
  | .call n _=> n==x
  | .deed _=> false
def U7 (es:List Ent) (x:Str):List Str:=(es.filter fun e=> e.steps.any (Q8 x)).map Ent.name
theorem B4i {body:W→W→SV→(SV→MC)→MC} {fin:SV→Prop} (c:Ent→Bool):∀(es:List Ent) (acc:List Str),(∀e∈es,∀(acc:List Str) kn,acc.length≤1000→body (.str e.name) (.lst (e.steps.map St.w)) (.own (.seq (acc.map W.str))) kn (fun _=> none) Q E=kn (.own (.seq ((if c e=true then acc++[e.name] else acc).map W.str))) (fun _=> none) Q E)→
    acc.length+es.length≤1000→fin (.own (.seq ((acc++(es.filter c).map Ent.name).map W.str)))→A3o body fin (es.map Ent.wr) (.own (.seq (acc.map W.str))) (fun _=> none) Q E
  | [],acc,_,_,q=> by
    show fin (.own (.seq (acc.map W.str)))
    simpa using q
  | e::es,acc,hb,hl,q=> by
    rw [List.length_cons] at hl
    show body (.str e.name) (.lst (e.steps.map St.w)) (.own (.seq (acc.map W.str))) (fun s=> fun _ Q E=> A3o body fin (es.map Ent.wr) s (fun _=> none) Q E) (fun _=> none) Q E
    rw [hb e (by simp) acc _ (by omega)]
    refine B4i c es _ (fun e he=> hb e (by simp [he])) ?_ ?_
    · split
      · rw [List.length_append,List.length_cons,List.length_nil];omega
      · omega
    · rw [List.filter_cons] at q
      split
      · rename_i z
        rw [if_pos z] at q
        simpa using q
      · rename_i z
        rw [if_neg z] at q
        exact q
theorem A9y {xs:List W} (h:∀x∈xs,x.nodct=true):W.nodcts xs=true:=by
  induction xs with
  | nil=> rfl
  | cons x xs ih=>
    show (x.nodct && W.nodcts xs)=true
    rw [h x (by simp),ih fun y hy=> h y (by simp [hy])]
    rfl
theorem C15 (d:Dd):d.w.nodct=true:=by
  rw [Dd.w_eq]
  show W.nodcts (_::d.rest)=true
  refine A9y fun x hx=> ?_
  cases d <;> simp only [Dd.rest,List.mem_cons,List.not_mem_nil,or_false,List.mem_map] at hx
  case swap=> rcases hx with rfl | rfl | rfl <;> rfl
  case tap=> rcases hx with rfl | rfl | rfl <;> rfl
  case drain=> rcases hx with rfl | rfl | rfl <;> rfl
  case over=> rcases hx with rfl | rfl | ⟨a,_,rfl⟩ <;> rfl
  case down=> rcases hx with rfl | rfl | ⟨a,_,rfl⟩ <;> rfl
theorem C2l (s:St):s.w.nodct=true:=by
  cases s with
  | call n t=> rfl
  | deed d=> exact C15 d
theorem B3t {ss:List Int} {x:Str} {e:Ent} (hs:V3 ss) (hg:∀e∈es,e.steps.length≤1000∧∀s∈e.steps,s.ok ss) (le:es.length≤1000) (B:BookAt h b (.tup (ss.map .int)) pw pl es) (q:L6 es x=some e)
    (z:Q (.own (.seq ((U7 es x).map W.str))) h):j9 [.ref b,.str x] h Q E:=by
  show A2U _ _ h Q E
  unfold A2U
  conv=> fun;fun;fun;simp only [↓u3,↓C3,↓D8,↓F4,↓E5,↓G0,↓G5,↓m8,↓K7,↓K6,↓K8,↓S8,↓K4,↓Y0,↓U3,↓A3Y,↓M1,↓R6,↓T2,↓C2,↓A1P,if_true,List.length_nil,G4,Nat.reduceLeDiff]
  rw [i4 B rfl]
  show T9 _ h _ _
  rw [A7c B,q]
  refine ⟨_,pw,es.map Ent.wr,B.ob,rfl,B.wr,fun p hp=> ?_,?_⟩
  · obtain ⟨e,_,rfl⟩:=List.mem_map.mp hp
    show W.nodcts (e.steps.map St.w)=true
    exact A9y fun y hy=> by obtain ⟨s,_,rfl⟩:=List.mem_map.mp hy;exact C2l s
  · refine B4i (fun e=> e.steps.any (Q8 x)) es [] (fun e he acc kn la=> ?_) (by simpa using le) ⟨⟨rfl,rfl,?_⟩,z⟩
    · simp only [↓C3,↓E5,↓G0,↓G5,↓C2,↓A3Q,↓B06,↓A9p,List.length_map,G4]
      obtain ⟨l1,h1⟩:=hg e he
      rw [A5i St.w (fun s=> .bl (Q8 x s)) e.steps (fun s hm kk=> ?_) (by rw [G4];omega)]
      · rw [show (e.steps.map fun s=> W.bl (Q8 x s))=(e.steps.map (Q8 x)).map W.bl by rw [List.map_map];rfl,B6Q,List.any_map,F0]
        rw [show (e.steps.any (id∘Q8 x))=e.steps.any (Q8 x) from rfl]
        cases e.steps.any (Q8 x) with
        | false=> rfl
        | true=>
          rw [if_pos rfl,if_pos rfl,F3 (by omega),List.map_append]
          rfl
      · have ic:=A7P hs (h1 s hm)
        cases s with
        | deed d=>
          have ic:N6 [d.w]=ret (.val (.bl false)):=ic
          simp only [St.w,↓F0,↓A3R,if_false,Bool.false_eq_true,ic]
          rfl
        | call n t=>
          have ic:N6 [.tup [.str "call",.str n,.int (t:Int)]]=ret (.val (.bl true)):=ic
          simp only [St.w,↓C2,↓F0,↓A3R,↓W3,↓A1J,↓A8K,if_true,ic]
          rw [show decide (n=x)=Q8 x (.call n t) by
            show _=(n==x)
            by_cases z:n=x
            · subst z;simp
            · rw [beq_false_of_ne z]
              exact decide_eq_false z]
    · exact A9y fun y hy=> by obtain ⟨s,_,rfl⟩:=List.mem_map.mp hy;rfl
def A95 (es:List Ent) (xs:List Sw):Option AExc:=xs.zipIdx.findSome? fun p=> A0k es (p.2:Int) p.1
def f7:List Sw→List St
  | []=> []
  | .good s::r=> s::f7 r
  | .odd _ _::r=> f7 r
def tooLong:AExc:=⟨"TooLong",initF (W.str "too long") ["most"] [.int 200]⟩
def A2r (es:List Ent) (xs:List Sw):Nat:=((f7 xs).map (j4 es)).sum
def A7i (es:List Ent) (x:Str) (xs:List Sw):Option AExc:=match A24 es x with
  | some e=> some e
  | none=> match A95 es xs with
    | some e=> some e
    | none=> if 200 < A2r es xs then some tooLong else none
def m7 (es:List Ent) (x:Str) (xs:List Sw):Ent:=⟨x,f7 xs,(f7 xs).flatMap (N7 es)⟩
theorem B4u {es:List Ent}:∀{xs:List Sw} {i:Nat},(xs.zipIdx i).findSome? (fun p=> A0k es (p.2:Int) p.1)=none→xs.map Sw.w=(f7 xs).map St.w∧∀s∈f7 xs,Sw.good s∈xs∧s.there es
  | [],_,_=> ⟨rfl,fun s h=> nomatch h⟩
  | .good s::r,i,h=> by
    rw [List.zipIdx_cons,List.findSome?_cons] at h
    cases q:A0k es (i:Int) (.good s) with
    | some e=> rw [q] at h;cases h
    | none=>
      rw [q] at h
      obtain ⟨a,b⟩:=B4u (xs:=r) h
      refine ⟨by show s.w::_=s.w::_;rw [a],fun s' hm=> ?_⟩
      rcases List.mem_cons.mp hm with rfl | hm
      · refine ⟨by simp,?_⟩
        cases s' with
        | deed d=> trivial
        | call n t=>
          have q:(if (L6 es n).isSome=true then none else some (A5Z n))=none:=q
          split at q
          · assumption
          · cases q
      · exact ⟨List.mem_cons_of_mem _ (b s' hm).1,(b s' hm).2⟩
  | .odd w p::r,i,h=> by
    rw [List.zipIdx_cons,List.findSome?_cons] at h
    cases h
theorem C2c {ss:List Int} {x:Str} {w:W} {xs:List Sw} (lx:x.length≤1000) (hs:V3 ss) (ho:A37 es) (hx:∀y∈xs,y.ok ss) (lg:xs.length≤1000) (sr:Src h w (xs.map Sw.w)) (na:∀a,w= .ref a→a≠pw∧a≠pl) (B:BookAt h b (.tup (ss.map .int)) pw pl es):
    A1l [.ref b,.str x,w] h Q E=match A7i es x xs with
      | some e=> E e h
      | none=> Q (.val .non) (B9 (B9 h pw (.cont (.map (smap ((es++[m7 es x xs]).map Ent.wr))))) pl (.cont (.map (smap ((es++[m7 es x xs]).map Ent.la))))):=by
  show A4L _ _ _ h Q E=_
  unfold A4L
  simp only [↓e9,↓u3,↓C3h,↓C5a,↓B0V,↓C3,↓D8,↓F4,↓E5,↓G0,↓G5,↓K7,↓K6,↓K8,↓K4,↓M1,↓C2,↓A1w]
  rw [i4 B rfl]
  show A1j _ h _ _=_
  rw [C0R lx B]
  unfold A7i
  cases q1:A24 es x with
  | some e=> rfl
  | none=>
    obtain ⟨ok,o,e⟩:=B1N sr
    show A0C _ _ h Q E=_
    rw [e,B0t,B4H (fun p:Sw×Nat=> W.tup [.int (p.2:Int),p.1.w]) (fun p=> A0k es (p.2:Int) p.1) o xs.zipIdx (fun p hp kn kb=> ?_)]
    · unfold A95
      cases q2:xs.zipIdx.findSome? (fun p=> A0k es (p.2:Int) p.1) with
      | some e=> rfl
      | none=>
        obtain ⟨gw,gt⟩:=B4u q2
        have gl:(f7 xs).length≤1000:=by
          have z:=congrArg List.length gw
          simp only [List.length_map] at z
          omega
        have gh:∀s∈f7 xs,s.ok ss∧s.there es:=fun s hm=> ⟨hx _ (gt s hm).1,(gt s hm).2⟩
        rw [gw] at sr
        have nf:L6 es x=none:=by
          unfold A24 at q1
          split at q1
          · cases q1
          · split at q1
            · cases q1
            · rename_i z
              cases q:L6 es x with
              | none=> rfl
              | some e=> rw [q] at z;exact absurd rfl z
        have e12:es.length < 12:=by
          unfold A24 at q1
          split at q1
          · cases q1
          · split at q1
            · cases q1
            · split at q1
              · cases q1
              · omega
        show Y3 _ _ _ _ h Q E=match (if 200 < A2r es xs then some tooLong else none) with
          | some e=> E e h
          | none=> _
        rw [i4 B rfl]
        show A1p _ h _ _=_
        rw [C1o hs ho gh gl sr B]
        show D4 oGt (.val (.int ((A2r es xs:Nat):Int))) _ _ h Q E=_
        rw [B2E]
        by_cases t:200 < A2r es xs
        · rw [decide_eq_true (show (200:Int) < (A2r es xs:Nat) by omega),if_pos t]
          rfl
        · rw [decide_eq_false (show ¬(200:Int) < (A2r es xs:Nat) by omega),if_neg t]
          show cb Q4 [.val w] _ h Q E=_
          rw [C3o sr,A02 B,A7m B.wr (by rw [List.length_map,G4];omega)]
          rw [A93 (by rw [A5b,nf];rfl)]
          have hb:(B9 h pw (.cont (.map (smap (es.map Ent.wr++[(x,SV.fz (.own (.seq ((f7 xs).map St.w))))]))))) b=some (.ins "Book" [("casks",.tup (ss.map .int)),("written",.ref pw),("laid",.ref pl)]):=by
            rw [C1 B.nbw]
            exact B.ob
          have hl:(B9 h pw (.cont (.map (smap (es.map Ent.wr++[(x,SV.fz (.own (.seq ((f7 xs).map St.w))))]))))) pl=some (.cont (.map (smap (es.map Ent.la)))):=by
            rw [C1 (fun z=> B.ne z.symm)]
            exact B.la
          have sr1:Src (B9 h pw (.cont (.map (smap (es.map Ent.wr++[(x,SV.fz (.own (.seq ((f7 xs).map St.w))))]))))) w ((f7 xs).map St.w):=by
            rcases sr with r | r | ⟨a,r,z⟩
            · exact .inl r
            · exact .inr (.inl r)
            · exact .inr (.inr ⟨a,r,by rw [C1 (na a r).1];exact z⟩)
          rw [B6f hb rfl]
          show A1m _ _ _ _=_
          rw [C0C hs ho gh gl sr1 hb hl]
          show A1T _ _ _ _ _ Q E=_
          rw [A3q hb rfl,A7m hl (by rw [List.length_map,G4];omega),A93 (by rw [A5h,nf];rfl)]
          rw [List.map_append,List.map_append]
          rfl
    · have hm:p.1∈xs:=by
        obtain ⟨a,b⟩:=p
        exact List.mem_of_getElem? (B33 hp)
      simp only [↓A73]
      rw [i4 B rfl]
      show A1i _ h _ _=_
      rw [B9s hs (hx _ hm) B]
      cases A0k es (p.2:Int) p.1 <;> rfl
theorem B88 {ss:List Int} (hs:V3 ss):A2Z [.tup (ss.map .int)]=ret (.val .non):=by
  show A4Z _=_
  unfold A4Z
  obtain ⟨l1,l2,s3⟩:=hs
  have e1:decide ((1:Int)≤ss.length)=true:=decide_eq_true (by omega)
  have e2:decide ((ss.length:Int)≤6)=true:=decide_eq_true (by omega)
  simp only [M1,A0l,K4,A0s,D8,C3,K8,K6,K7,W2,List.length_map,l8,F0,e1,e2,if_true,Bool.not_true,Bool.false_eq_true,if_false,A5l,B5i,E5,C2,C1f,B0t]
  refine C13 _ fun w hw kn=> ?_
  obtain ⟨⟨s,i⟩,hq,rfl⟩:=List.mem_map.mp hw
  obtain ⟨g1,g2⟩:=s3 s (List.mem_of_getElem? (B33 hq))
  simp only [A73,M1,A0l,K4,A0s,D8,C3,l8,F0,decide_eq_true g1,decide_eq_true g2,if_true,Bool.not_true,Bool.false_eq_true,if_false]
theorem C1D {ss:List Int} {a:Addr} (hs:V3 ss) (ha:h a=some (.ins "Book" []))
    (z:∀pw pl h',h pw=none→h pl=none→(∀q,q≠a→q≠pw→q≠pl→h' q=h q)→BookAt h' a (.tup (ss.map .int)) pw pl []→Q (.val .non) h'):A2X [.ref a,.tup (ss.map .int)] h Q E:=by
  show A4U _ _ h Q E
  unfold A4U
  conv=> fun;fun;fun;simp only [↓C29,↓B5L,↓B6L,↓C3,↓E5,↓G0,↓G5,↓P6,↓C2,↓U8,B88 hs]
  rw [B0U ha (Nat.le_of_ble_eq_true rfl)]
  have ha1:(B9 h a (.ins "Book" (v5 "casks" (.tup (ss.map .int)) []))) a=some (.ins "Book" [("casks",.tup (ss.map .int))]):=M6
  intro pw npw
  have p1:pw≠a:=fun e=> by rw [e,ha1] at npw;cases npw
  rw [C1 p1] at npw
  have ha2:=(C1 (h:=B9 h a (.ins "Book" (v5 "casks" (.tup (ss.map .int)) []))) (o:= .cont (.map (smap []))) (Ne.symm p1)).trans ha1
  rw [B0U ha2 (Nat.le_of_ble_eq_true rfl)]
  generalize hh2:B9 (B9 h a (.ins "Book" (v5 "casks" (.tup (ss.map .int)) []))) pw (.cont (.map (smap [])))=h2 at ha2 ⊢
  have hp2:h2 pw=some (.cont (.map (smap []))):=by rw [←hh2];exact M6
  intro pl npl
  have p2:pl≠a:=fun e=> by rw [e,M6] at npl;cases npl
  rw [C1 p2] at npl
  have p3:pl≠pw:=fun e=> by rw [e,hp2] at npl;cases npl
  have npl0:h pl=none:=by rw [←hh2,C1 p3,C1 p2] at npl;exact npl
  have ha3:(B9 (B9 h2 a (.ins "Book" (v5 "written" (.ref pw) [("casks",.tup (ss.map .int))]))) pl (.cont (.map (smap [])))) a=some (.ins "Book" [("casks",.tup (ss.map .int)),("written",.ref pw)]):=by
    rw [C1 (Ne.symm p2),M6]
    rfl
  rw [B0U ha3 (Nat.le_of_ble_eq_true rfl)]
  refine z pw pl _ npw npl0 (fun q q1 q2 q3=> ?_) ⟨?_,?_,?_,Ne.symm p3⟩
  · rw [C1 q1,C1 q3,C1 q1,←hh2,C1 q2,C1 q1]
  · rw [M6]
    rfl
  · rw [C1 p1,C1 (Ne.symm p3),C1 p1]
    exact hp2
  · rw [C1 p2,M6]
    rfl
def A5V (n:Nat):Str:=((Str.empty++("Book(":Str))++(toString (n:Int):Str))++(" rounds)":Str)
theorem B5d:∀n:Nat,n≤12→(Str.empty++("Book(":Str)).length≤16777216∧(n:Int).natAbs.log2 < 1920∧(Str.empty++("Book(":Str)++(toString (n:Int):Str)).length≤16777216∧(A5V n).length≤16777216:=by decide+kernel
theorem C3N (l:es.length≤12) (B:BookAt h b s pw pl es):A2V [.ref b] h Q E=Q (.val (.str (A5V es.length))) h:=by
  show A4M _ h Q E=_
  unfold A4M
  simp only [↓B5J,↓e9,↓C55,↓C2q,↓C3Q,↓C2E,↓C3,↓D8,↓K7,↓K6,↓K8,G4]
  obtain ⟨b1,b2,b3,b4⟩:=B5d es.length l
  unfold A5V at b4
  rw [F3 b1,A02 B,B0g B.wr,List.length_map,C3Z,F3 b2,F3 b3,F3 b4]
  rfl
end
end Ab
namespace Ab
open PySem PySem.Spec PyProof.Rows L2 RZ
section
variable {k:SV→MC} {l:List Nat}
end
end Ab
namespace Ab
open PySem PySem.Spec PyProof.Rows L2 RZ
section
variable {Q:RR→AH→Prop} {E:AExc→AH→Prop} {h:AH} {p q:Addr} {xs ys:List W} {n:Nat}
theorem Bag.off {o:AO} (b:Bag n h p) (ne:p≠q):Bag n (B9 h q o) p:=by
  obtain ⟨ns,i,x,y,c,a1,a⟩:=b
  exact ⟨ns,i,x,y,c,by unfold B9;rw [if_neg ne];exact a1,a⟩
theorem Bag.ne (b:Bag n h p) (f:h q=none):p≠q:=fun e=> by
  obtain ⟨ns,i,x,y,c,a1,a⟩:=b
  rw [←e,a1] at f
  cases f
theorem B4d (e:h q=some (.cont (.seq xs))):K3 h (.val (.ref q))= .cv (.seq xs):=by
  show (match h q with
    | some (.cont c)=> Vw.cv c
    | _=> .wv (.ref q))=_
  rw [e]
theorem B52 {o:L4} {k:SV→MC} (e:h q=some (.cont (.seq xs))):cb o [.val (.ref q)] k h Q E=cb o [.own (.seq xs)] k h Q E:=by
  show o [K3 h (.val (.ref q))] _=o [K3 h (.own (.seq xs))] _
  rw [B4d e]
  rfl
theorem A5e {o:L4} {y:SV} {k:SV→MC} (e:h q=some (.cont (.seq xs))):cb o [.val (.ref q),y] k h Q E=cb o [.own (.seq xs),y] k h Q E:=by
  show o [K3 h (.val (.ref q)),K3 h y] _=o [K3 h (.own (.seq xs)),K3 h y] _
  rw [B4d e]
  rfl
theorem A5g {T:String} {r:Bool} {k:SV→MC} (e2:v3 "list" T=some r):cb F6 [.own (.seq xs),.val (.ty T)] k=k (.val (.bl r)):=by
  funext h Q E
  show F6 [.cv (.seq xs),.wv (.ty T)] _=_
  rw [B64]
  show (match (Vw.cv (.seq xs)).tyName with
    | some n=> (match v3 n T with
      | some b=> g9 k (.val (.bl b)) h Q E
      | none=> False)
    | none=> False)=_
  show (match v3 "list" T with
      | some b=> g9 k (.val (.bl b)) h Q E
      | none=> False)=_
  rw [e2]
  rfl
end
end Ab
namespace Ab
open PySem PySem.Spec PyProof.Rows L2 RZ
section
variable {Q:RR→AH→Prop} {E:AExc→AH→Prop} {h:AH} {p q:Addr} {xs us:List W} {n:Nat}
theorem B0j {d:Nat} {w:W} (hs:w.sm d=true) (z:Q (.val (.bl true)) h):m__law_same (d+1) [w,w] h Q E:=by
  rw [B5C d w hs]
  exact z
end
end Ab
namespace Ab
open PySem PySem.Spec PyProof.Rows L2 RZ
section
variable {Q:RR→AH→Prop} {E:AExc→AH→Prop} {h:AH} {p q:Addr} {xs us:List W} {n:Nat}
theorem B6T {ws ys:List W} (r:All2 (fun _ y=> y=W.bl true) ws ys):ys=(List.replicate ys.length true).map W.bl:=by
  induction r with
  | nil=> rfl
  | cons z _ ih=>
    subst z
    rw [List.length_cons,List.replicate_succ,List.map_cons,←ih]
theorem C1B {d:Nat} (l:xs.length=us.length) (hl:us.length≤100000) (hx:∀i (hi:i < us.length),∀(Q:RR→AH→Prop) (E:AExc→AH→Prop),Q (.val (.bl true)) h→m__law_same (d+1) [xs[i]'(by omega),us[i]] h Q E) (z:Q (.val (.bl true)) h):
    m__law_same (d+2) [.lst xs,.lst us] h Q E:=by
  show w4 (m__law_same (d+1)) (.lst xs) (.lst us) h Q E
  unfold w4
  simp only [↓C3,↓D8,↓F4,↓E5,↓G0,↓G5,↓K7,↓K6,↓K8,↓S8,↓K4,↓W5,↓Y0,↓u8,↓U3,↓W1,↓M1,↓R6,↓T2,↓F0,↓x8,↓A2A,↓A3C,↓B0N,if_true,if_false,Bool.not_true,Bool.not_false,Bool.false_eq_true,decide_true,Int.toNat_natCast,↓w7,↓w9,↓w8,↓p9,↓q9,↓m9]
  rw [l,decide_eq_true rfl]
  simp only [if_false,Bool.not_true,Bool.false_eq_true]
  rw [F3 ⟨by omega,by omega⟩,A3S]
  refine A8q (fun _ h'=> h'=h) (fun _ y=> y= .bl true) _ [] 0 h (by simp [G4];omega) rfl (fun w hw j h1 kk hj e1 hk=> ?_) fun ys h' ay e1=> ?_
  · obtain ⟨i,hi,rfl⟩:=List.mem_map.mp hw
    have hi:=List.mem_range.mp hi
    subst e1
    rw [B0a]
    simp only [↓C2,↓A3A]
    rw [A1y (show i < xs.length by omega),A1y hi]
    exact hx i hi _ _ (hk _ _ rfl rfl)
  · subst e1
    rw [List.nil_append,B6T ay,A5r]
    simp only [A5t]
    rw [show (List.replicate ys.length true).all id=true by simp]
    exact z
theorem C3i {k:SV→MC}:D4 (N5 false) (.own (.seq xs)) (.val .non) k=k (.val (.bl false)):=by
  funext h Q E
  exact propext ⟨fun z=> z.2.2,fun z=> ⟨rfl,(fun e=> nomatch e),z⟩⟩
theorem C1i {d:Nat} (e:h q=some (.cont (.seq xs))) (hl:xs.length≤100000) (hx:∀x∈xs,x.sm d=true) (z:Q (.val (.bl true)) h):m__law_same (d+2) [.lst xs,.ref q] h Q E:=by
  show w4 (m__law_same (d+1)) (.lst xs) (.ref q) h Q E
  unfold w4
  simp only [↓C3,↓D8,↓F4,↓E5,↓G0,↓G5,↓K7,↓K6,↓K8,↓S8,↓K4,↓W5,↓Y0,↓u8,↓U3,↓W1,↓M1,↓R6,↓T2,↓F0,↓A2A,↓B0N,if_true]
  rw [C4S e,C3i]
  simp only [↓F0,if_false,Bool.false_eq_true]
  rw [A5e e,A5g (r:=false) rfl]
  simp only [↓F0,if_false,Bool.false_eq_true]
  rw [A5e e,A5g (r:=false) rfl]
  simp only [↓F0,if_false,Bool.false_eq_true]
  rw [A5e e,A5g (r:=false) rfl]
  simp only [↓F0,if_false,Bool.false_eq_true]
  rw [A5e e,A5g (r:=false) rfl]
  simp only [↓F0,if_false,Bool.not_true,Bool.false_eq_true,decide_true,↓p9,↓q9,↓m9]
  rw [A5e e,A5g (r:=true) rfl]
  simp only [↓F0,if_false,Bool.not_true,Bool.false_eq_true,decide_true,↓m9]
  rw [B52 e]
  simp only [↓F0,↓A8P,↓A3C,if_false,Bool.not_true,Bool.false_eq_true,decide_true]
  rw [B52 e]
  simp only [↓x8,↓A8P,Int.toNat_natCast]
  rw [F3 ⟨by omega,by omega⟩,A3S]
  refine A8q (fun _ h'=> h'=h) (fun _ y=> y= .bl true) _ [] 0 h (by simp [G4];omega) rfl (fun w hw j h1 kk hj e1 hk=> ?_) fun ys h' ay e1=> ?_
  · obtain ⟨i,hi,rfl⟩:=List.mem_map.mp hw
    have hi:=List.mem_range.mp hi
    subst e1
    rw [B0a]
    simp only [↓C2,↓A3A]
    rw [A1y hi,A0p e,A1y hi]
    simp only [↓C2]
    rw [B5C d _ (hx _ (List.getElem_mem hi)),A3R]
    exact hk _ _ rfl rfl
  · subst e1
    rw [List.nil_append,B6T ay,A5r]
    simp only [A5t]
    rw [show (List.replicate ys.length true).all id=true by simp]
    exact z
end
end Ab
namespace Ab
open PySem PySem.Spec PyProof.Rows L2 RZ
def cnt (n:Nat) (st:List Int):List Int:=(List.range n).map fun (c:Nat)=> (st.count (c:Int):Int)
structure StOk (ss st:List Int):Prop where
  len:st.length≤60
  at_:∀p∈st,-1≤p∧p < ss.length
  cap:∀c,c < ss.length→(st.count (c:Int):Int)≤ss.getD c 0
def C3c (st:List Int) (c:Int):List Nat:=(st.zipIdx.filter fun p=> decide (p.1=c)).map (·.2)
end Ab
namespace Ab
open PySem PySem.Spec PyProof.Rows L2 RZ
end Ab
namespace Ab
open PySem PySem.Spec PyProof.Rows L2 RZ
def Grow (h h':AH):Prop:=∀q o,h q=some o→h' q=some o
theorem Grow.refl {h:AH}:Grow h h:=fun _ _ e=> e
theorem Grow.trans {h h1 h2:AH} (a:Grow h h1) (b:Grow h1 h2):Grow h h2:=fun q o e=> b q o (a q o e)
theorem Grow.upd {h:AH} {p:Addr} {o:AO} (f:h p=none):Grow h (B9 h p o):=fun q o' e=> by
  have ne:q≠p:=fun z=> by rw [z,f] at e;cases e
  exact (C1 ne).trans e
def Te (m:MC) (r:RR):Prop:=∀(h:AH) (Q:RR→AH→Prop) (E:AExc→AH→Prop),(∀h',Grow h h'→Q r h')→m h Q E
theorem Te.call {m:MC} {r:RR} {K:SV→MC} {h:AH} {Q:RR→AH→Prop} {E:AExc→AH→Prop} (t:Te m r) (q:∀h',Grow h h'→K r.sv h' Q E):call m K h Q E:=t h _ _ q
theorem Te.of {m:MC} {x:SV} {r:RR} (e:m=ret x) (er:∀h Q E,Q r h→ret x h Q E):Te m r:=fun h Q E q=> by rw [e];exact er h Q E (q h .refl)
end Ab
namespace Ab
open PySem PySem.Spec PyProof.Rows L2 RZ
def C6w (h:AH):List (Addr×List W)→AH
  | []=> h
  | p::r=> B9 (C6w h r) p.1 (.cont (.seq p.2))
structure NewL (h:AH) (l:List (Addr×List W)):Prop where
  nd:(l.map (·.1)).Nodup
  fr:∀p∈l,h p.1=none
def Dd.fits (ss st:List Int):Dd→Prop
  | .tap n c=> st.length+min n (ss.getD c 0 - (C3c st (c:Int)).length)≤60
  | _=> True
instance {ss st:List Int} {d:Dd}:Decidable (d.fits ss st):=by
  cases d <;> unfold Dd.fits <;> infer_instance
end Ab
namespace Ab
open PySem PySem.Spec PyProof.Rows L2 RZ
end Ab
namespace Ab
open PySem PySem.Spec PyProof.Rows L2 RZ
structure Pn where
  step:W
  row:W
  times:Int
  st:List Int
  bk:Addr
def Pn.w (e:Pn):W:= .tup [e.step,e.row,.int e.times,.tup (e.st.map .int),.ref e.bk]
def C56 (ss st:List Int) (b pp pl:Addr):List (Str×W):=[("casks",.tup (ss.map .int)),("now",.tup (st.map .int)),("book",.ref b),("past",.ref pp),("later",.ref pl)]
structure LoftAt (h:AH) (o:Addr) (ss st:List Int) (b pp pl:Addr) (past later:List Pn):Prop where
  ob:h o=some (.ins "Loft" (C56 ss st b pp pl))
  pa:h pp=some (.cont (.seq (past.map Pn.w)))
  la:h pl=some (.cont (.seq (later.map Pn.w)))
  ne:pp≠pl
section
variable {Q:RR→AH→Prop} {E:AExc→AH→Prop} {h:AH} {o b pp pl:Addr} {ss st:List Int} {past later:List Pn} {k:SV→MC}
theorem LoftAt.same {h':AH} (L:LoftAt h o ss st b pp pl past later) (e1:h' o=h o) (e2:h' pp=h pp) (e3:h' pl=h pl):LoftAt h' o ss st b pp pl past later:=⟨e1.trans L.ob,e2.trans L.pa,e3.trans L.la,L.ne⟩
end
end Ab
namespace Ab
open PySem PySem.Spec PyProof.Rows L2 RZ
end Ab
namespace Ab
open PySem PySem.Spec PyProof.Rows L2 RZ
section
variable {Q:RR→AH→Prop} {E:AExc→AH→Prop} {h:AH} {o b pp pl:Addr} {ss st:List Int} {past later:List Pn} {k:SV→MC}
end
section
variable {Q:RR→AH→Prop} {E:AExc→AH→Prop} {h:AH} {b pw pl:Addr} {ss:List Int} {es:List Ent}
end
section
variable {Q:RR→AH→Prop} {E:AExc→AH→Prop} {h:AH} {ss st:List Int}
end
section
variable {Q:RR→AH→Prop} {E:AExc→AH→Prop} {h:AH} {ss st:List Int} {o b pw pk pp pl:Addr} {past later:List Pn} {es:List Ent}
theorem Grow.bk {h':AH} {s:W} (g:Grow h h') (B:BookAt h b s pw pk es):BookAt h' b s pw pk es:=⟨g _ _ B.ob,g _ _ B.wr,g _ _ B.la,B.ne⟩
theorem Grow.lo {h':AH} (g:Grow h h') (L:LoftAt h o ss st b pp pl past later):LoftAt h' o ss st b pp pl past later:=⟨g _ _ L.ob,g _ _ L.pa,g _ _ L.la,L.ne⟩
end
end Ab
namespace Ab
open PySem PySem.Spec PyProof.Rows L2 RZ
end Ab
namespace Ab
open PySem PySem.Spec PyProof.Rows L2 RZ
end Ab
namespace Ab
open PySem PySem.Spec PyProof.Rows L2 RZ
theorem C5k {as bs:List Int} {c:Nat} (h:LeL as bs):bs.getD c 0 - as.getD c 0≤bs.sum - as.sum:=by
  by_cases hc:c < as.length
  · have z:LeL (as.set c (bs.getD c 0)) bs:=by
      refine ⟨by rw [List.length_set];exact h.1,fun i=> ?_⟩
      rw [B0B]
      split
      · rename_i e;rw [e.1];exact Int.le_refl _
      · exact h.2 i
    have s:=B05 z
    rw [B5E hc] at s
    omega
  · have:=h.1
    rw [A7f (by omega),A7f (by omega)]
    have:=B05 h
    omega
theorem B5R {as bs:List Int} (hl:as.length=bs.length) (h:∀i,i < as.length→as.getD i 0=bs.getD i 0):as=bs:=by
  refine List.ext_getElem hl fun i h1 h2=> ?_
  have z:=h i h1
  simpa [List.getD_eq_getElem?_getD,h1,h2] using z
theorem C6f {as bs:List Int} (h:LeL as bs) (s:bs.sum≤as.sum):as=bs:=B5R h.1 fun i _=> by
  have a:=h.2 i
  have b:=C5k (c:=i) h
  omega
end Ab
namespace Ab
open PySem PySem.Spec PyProof.Rows L2 RZ
structure Cp (n m:Nat) (A B:List Int):Prop where
  eq:A.take m=B.take m
  la:m≤A.length
  lb:m≤B.length
  le:LeL (cnt n A) (cnt n B)
  gone:(A.length:Int) - (cnt n A).sum≤(B.length:Int) - (cnt n B).sum
end Ab
namespace Ab
open PySem PySem.Spec PyProof.Rows L2 RZ
end Ab
namespace Ab
open PySem PySem.Spec PyProof.Rows L2 RZ
end Ab
namespace Ab
open PySem PySem.Spec PyProof.Rows L2 RZ
section
variable {α:Type} {f:α→α} {x:α}
def it (f:α→α):Nat→α→α
  | 0,x=> x
  | n+1,x=> f (it f n x)
end
section
variable {σ:Type}
end
end Ab
namespace Ab
open PySem PySem.Spec PyProof.Rows L2 RZ
def A1D:List (List Int)→List Int
  | []=> []
  | r::rs=> rs.foldl (List.zipWith min) r
theorem A7x:∀(rs:List (List Int)) (r:List Int),(∀q∈rs,q.length=r.length)→LeL (rs.foldl (List.zipWith min) r) r∧∀q∈rs,LeL (rs.foldl (List.zipWith min) r) q
  | [],r,_=> ⟨.refl,fun _ h=> by cases h⟩
  | q::rs,r,h=> by
    have hq:=h q (by simp)
    have hl:(List.zipWith min r q).length=r.length:=by rw [List.length_zipWith,hq,Nat.min_self]
    obtain ⟨a,b⟩:=A7x rs (List.zipWith min r q) fun x hx=> by rw [hl];exact h x (by simp [hx])
    rw [List.foldl_cons]
    refine ⟨a.trans (B5M hq.symm),fun x hx=> ?_⟩
    rcases List.mem_cons.mp hx with rfl | hx
    · exact a.trans (B0r hq.symm)
    · exact b x hx
theorem B5X {x:List Int}:∀(rs:List (List Int)) (r:List Int),LeL x r→(∀q∈rs,LeL x q)→LeL x (rs.foldl (List.zipWith min) r)
  | [],_,h,_=> h
  | q::rs,r,h,hs=> B5X rs _ (C5L h (hs q (by simp))) fun y hy=> hs y (by simp [hy])
theorem B5S {i:Nat}:∀(rs:List (List Int)) (r:List Int),(∀q∈rs,q.length=r.length)→i < r.length→∃q∈r::rs,(rs.foldl (List.zipWith min) r).getD i 0=q.getD i 0
  | [],r,_,_=> ⟨r,by simp,rfl⟩
  | q::rs,r,h,hi=> by
    have hq:=h q (by simp)
    have hl:(List.zipWith min r q).length=r.length:=by rw [List.length_zipWith,hq,Nat.min_self]
    obtain ⟨x,hx,e⟩:=B5S (i:=i) rs (List.zipWith min r q) (fun x hx=> by rw [hl];exact h x (by simp [hx])) (by omega)
    rw [List.foldl_cons]
    rcases List.mem_cons.mp hx with rfl | hx
    · rw [A5N hi (by omega)] at e
      rcases Int.le_total (r.getD i 0) (q.getD i 0) with z | z
      · exact ⟨r,by simp,by rw [e];omega⟩
      · exact ⟨q,by simp,by rw [e];omega⟩
    · exact ⟨x,by simp [hx],e⟩
def Rows (L:Nat) (T:List (List Int)):Prop:=T≠[]∧∀r∈T,r.length=L
theorem Rows.cons {L:Nat} {T:List (List Int)} (h:Rows L T):∃r rs,T=r::rs∧r.length=L∧∀q∈rs,q.length=r.length:=by
  cases T with
  | nil=> exact absurd rfl h.1
  | cons r rs=>
    have hr:=h.2 r (by simp)
    exact ⟨r,rs,rfl,hr,fun q hq=> by rw [hr];exact h.2 q (by simp [hq])⟩
section
variable {L:Nat} {T:List (List Int)} {x:List Int} {i:Nat}
theorem B4T (h:Rows L T):∀r∈T,LeL (A1D T) r:=by
  obtain ⟨r,rs,rfl,hr,hs⟩:=h.cons
  intro q hq
  rcases List.mem_cons.mp hq with rfl | hq
  · exact (A7x rs _ hs).1
  · exact (A7x rs _ hs).2 q hq
theorem C1N (h:Rows L T) (hx:∀r∈T,LeL x r):LeL x (A1D T):=by
  obtain ⟨r,rs,rfl,hr,hs⟩:=h.cons
  exact B5X rs r (hx r (by simp)) fun q hq=> hx q (by simp [hq])
theorem C1G (h:Rows L T) (hi:i < L):∃q∈T,(A1D T).getD i 0=q.getD i 0:=by
  obtain ⟨r,rs,rfl,hr,hs⟩:=h.cons
  exact B5S rs r hs (by omega)
theorem C03 (h:Rows L T):(A1D T).length=L:=by
  obtain ⟨r,rs,rfl,hr,hs⟩:=h.cons
  rw [←hr]
  exact (A7x rs r hs).1.1
end
theorem B4O {ss:List Int} {T:List (List Int)} (h:T≠[]) (hc:∀r∈T,Ct ss r):Ct ss (A1D T):=by
  have hR:Rows ss.length T:=⟨h,fun r hr=> (hc r hr).1⟩
  refine ⟨C03 hR,fun i hi=> ?_⟩
  obtain ⟨q,hq,e⟩:=C1G hR hi
  rw [e]
  exact (hc q hq).2 i hi
structure MG (ss:List Int) (f:List Int→List Int):Prop where
  ct:∀x,Ct ss x→Ct ss (f x)
  mono:∀x y,LeL x y→LeL (f x) (f y)
  gap:∀x y,Ct ss x→Ct ss y→LeL x y→(f y).sum - (f x).sum≤y.sum - x.sum
theorem MG.it {ss:List Int} {f:List Int→List Int} (m:MG ss f):∀n,MG ss (it f n)
  | 0=> ⟨fun _ h=> h,fun _ _ h=> h,fun _ _ _ _ _=> Int.le_refl _⟩
  | n+1=> ⟨fun x h=> m.ct _ ((m.it n).ct x h),fun x y h=> m.mono _ _ ((m.it n).mono x y h),fun x y hx hy h=> Int.le_trans (m.gap _ _ ((m.it n).ct x hx) ((m.it n).ct y hy) ((m.it n).mono x y h)) ((m.it n).gap x y hx hy h)⟩
theorem C3p {ss:List Int} {F:List Int→List Int} {T:List (List Int)} (m:MG ss F) (ne:T≠[]) (hc:∀t∈T,Ct ss t) (hF:∀t∈T,F t=t):F (A1D T)=A1D T:=by
  have hR:Rows ss.length T:=⟨ne,fun r hr=> (hc r hr).1⟩
  have c:=B4O ne hc
  have le:LeL (F (A1D T)) (A1D T):=C1N hR fun t ht=> by
    have z:=m.mono _ _ (B4T hR t ht)
    rwa [hF t ht] at z
  obtain ⟨t,ht⟩:=List.exists_mem_of_ne_nil _ ne
  have g:=m.gap _ _ c (hc t ht) (B4T hR t ht)
  rw [hF t ht] at g
  exact C6f le (by omega)
end Ab
namespace Ab
open PySem PySem.Spec PyProof.Rows L2 RZ
end Ab
namespace Ab
open PySem PySem.Spec PyProof.Rows L2 RZ
section
variable {ss x y:List Int} {f:List Int→List Int} {N:Nat}
theorem C1L (m:MG ss f) (hx:Ct ss x) (hy:Ct ss y) (ex:it f N x=x) (ey:it f N y=y):it f N (List.zipWith min x y)=List.zipWith min x y:=
  C3p (T:=[x,y]) (m.it N) (by simp) (fun t ht=> by simp only [List.mem_cons,List.not_mem_nil,or_false] at ht;rcases ht with rfl | rfl <;> assumption) (fun t ht=> by simp only [List.mem_cons,List.not_mem_nil,or_false] at ht;rcases ht with rfl | rfl <;> assumption)
theorem B0i {α:Type} {f:α→α} {x:α}:∀n,it f n (f x)=f (it f n x)
  | 0=> rfl
  | n+1=> by show f (it f n (f x))=_;rw [B0i n];rfl
theorem C2A {α:Type} {f:α→α} {x:α} {N:Nat} (e:it f N x=x):it f N (f x)=f x:=by rw [B0i,e]
end
end Ab
namespace Ab
open PySem PySem.Spec PyProof.Rows L2 RZ
section
variable {ss x y z:List Int} {f:List Int→List Int} {N:Nat}
def Pe (ss:List Int) (f:List Int→List Int) (N:Nat) (x:List Int):Prop:=Ct ss x∧it f N x=x
theorem Pe.step (m:MG ss f) (p:Pe ss f N x):Pe ss f N (f x):=⟨m.ct _ p.1,C2A p.2⟩
theorem Pe.it (m:MG ss f) (p:Pe ss f N x):∀k,Pe ss f N (Ab.it f k x)
  | 0=> p
  | k+1=> (p.it m k).step m
def Irr (ss:List Int) (f:List Int→List Int) (N:Nat) (x:List Int):Prop:=Pe ss f N x∧∃u,Pe ss f N u∧LeL u x∧u≠x∧∀y,Pe ss f N y→LeL y x→y≠x→LeL y u
theorem C36 (m:MG ss f) (p:Pe ss f N x) (q:Pe ss f N y):Pe ss f N (List.zipWith min x y):=
  ⟨B4O (T:=[x,y]) (by simp) fun r hr=> by simp only [List.mem_cons,List.not_mem_nil,or_false] at hr;rcases hr with rfl | rfl;exact p.1;exact q.1,C1L m p.1 q.1 p.2 q.2⟩
theorem Irr.step (m:MG ss f) (hN:0 < N) (i:Irr ss f N x):Irr ss f N (f x):=by
  obtain ⟨p,u,pu,ux,ne,all⟩:=i
  obtain ⟨k,rfl⟩:∃k,N=k+1:=⟨N - 1,by omega⟩
  have back:∀{v},Pe ss f (k+1) v→it f k (f v)=v:=fun {v} pv=> by rw [B0i];exact pv.2
  refine ⟨p.step m,f u,pu.step m,m.mono _ _ ux,fun e=> ne (by rw [←back pu,e,back p]),fun y py yx yne=> ?_⟩
  have b:=(m.it k).mono _ _ yx
  rw [back p] at b
  have c:=all (it f k y) (py.it m k) b fun e=> yne (by rw [←e];exact py.2.symm)
  have d:=m.mono _ _ c
  rwa [show f (it f k y)=y from py.2] at d
theorem Irr.it (m:MG ss f) (hN:0 < N) (i:Irr ss f N x):∀k,Irr ss f N (Ab.it f k x)
  | 0=> i
  | k+1=> (i.it m hN k).step m hN
theorem Irr.own (m:MG ss f) (i:Irr ss f N x):∃c,c < ss.length∧∀y,Pe ss f N y→x.getD c 0≤y.getD c 0→LeL x y:=by
  obtain ⟨p,u,pu,ux,ne,all⟩:=i
  have:∃c,c < ss.length∧u.getD c 0 < x.getD c 0:=by
    refine Classical.byContradiction fun h=> ne (B5R ux.1 fun c hc=> ?_)
    refine Int.le_antisymm (ux.2 c) (Classical.byContradiction fun g=> h ⟨c,by rw [←pu.1.1];exact hc,by omega⟩)
  obtain ⟨c,hc,lt⟩:=this
  refine ⟨c,hc,fun y py le=> ?_⟩
  have hl:x.length=y.length:=p.1.1.trans py.1.1.symm
  have q:=C36 m p py
  by_cases e:List.zipWith min x y=x
  · rw [←e]
    exact B0r hl
  · exfalso
    have z:=(all _ q (B5M hl) e).2 c
    rw [A5N (by rw [p.1.1];exact hc) (by rw [py.1.1];exact hc)] at z
    omega
end
section
variable {ss x y z:List Int} {f:List Int→List Int} {N L K:Nat}
end
end Ab
namespace Ab
open PySem PySem.Spec PyProof.Rows L2 RZ
end Ab
namespace Ab
open PySem PySem.Spec PyProof.Rows L2 RZ
end Ab
namespace Ab
open PySem PySem.Spec PyProof.Rows L2 RZ
section
variable {ss st:List Int} {ds:List Dd}
end
section
variable {ss st:List Int} {ds:List Dd} {x:W} {n a:Nat}
end
end Ab
namespace Ab
open PySem PySem.Spec PyProof.Rows L2 RZ
section
variable {Q:RR→AH→Prop} {E:AExc→AH→Prop} {h:AH}
end
end Ab
namespace Ab
open PySem PySem.Spec PyProof.Rows L2 RZ
def A4p (x_self x_name:W):MC:=
  ((A2 (d9 "Book" "callers" j9 (eV (.val x_self)) (A6 (A2 (eV (.val x_name))) B4))) fun x_found=> (K5 (E4 (A8 (D6 true) (eV (.val x_found)) (Q5 B4))) (y0 "InUse" "in use" ["name"] (A6 (A2 (A8 oIx (eV (.val x_found)) (eC (.int 0)))) B4)) (A8X (W6 "Book" "written" (eV (.val x_self))) (A2 (eV (.val x_name))) ((A8X (W6 "Book" "laid" (eV (.val x_self))) (A2 (eV (.val x_name))) ((ret (.val .non))))))))
def X3:List W→MC
  | [x_self,x_name]=> A4p x_self x_name
  | _=> bad
def Off (S:List Addr) (h h':AH):Prop:=∀x u,h x=some u→x∉S→h' x=some u
theorem Off.refl {S:List Addr} {h:AH}:Off S h h:=fun _ _ e _=> e
theorem Off.trans {S T:List Addr} {h h1 h2:AH} (a:Off S h h1) (b:Off T h1 h2) (sub:∀x∈T,x∈S∨h x=none):Off S h h2:=fun x u e n=> b x u (a x u e n) fun m=> by
  rcases sub x m with z | z
  · exact n z
  · rw [z] at e;cases e
theorem Grow.off {S:List Addr} {h h':AH} (g:Grow h h'):Off S h h':=fun x u e _=> g x u e
theorem Off.bk {S:List Addr} {h h':AH} {b pw pk:Addr} {s:W} {es:List Ent} (f:Off S h h') (B:BookAt h b s pw pk es) (n1:b∉S) (n2:pw∉S) (n3:pk∉S):BookAt h' b s pw pk es:=⟨f _ _ B.ob n1,f _ _ B.wr n2,f _ _ B.la n3,B.ne⟩
def X9 (es:List Ent) (x:Str):List Ent:=es.filter fun e=> decide (e.name≠x)
theorem A9t {es:List Ent} {x:Str} {f:Ent→Str×W} (hf:∀e,(f e).1=e.name):W4 (es.map f) x=(X9 es x).map f:=by
  unfold W4 X9
  rw [List.filter_map]
  congr 1
  refine List.filter_congr fun e _=> ?_
  show decide ((f e).1≠x)=_
  rw [hf]
section
variable {Q:RR→AH→Prop} {E:AExc→AH→Prop} {h:AH} {ss st:List Int} {o b pw pk pp pl:Addr} {past later:List Pn} {es:List Ent}
def B1m (x:Str):AExc:=⟨"InUse",initF (W.str "in use") ["name"] [.str x]⟩
def l7 (es:List Ent) (x:Str):Option AExc:=match L6 es x with
  | none=> some (A5Z x)
  | some _=> match U7 es x with
    | []=> none
    | c::_=> some (B1m c)
theorem B4X {x:Str} (hs:V3 ss) (hg:∀e∈es,e.steps.length≤1000∧∀s∈e.steps,s.ok ss) (le:es.length≤1000) (B:BookAt h b (.tup (ss.map .int)) pw pk es)
    (z:match l7 es x with
      | some e=> E e h
      | none=> Q (.val .non) (B9 (B9 h pw (.cont (.map (smap ((X9 es x).map Ent.wr))))) pk (.cont (.map (smap ((X9 es x).map Ent.la)))))):X3 [.ref b,.str x] h Q E:=by
  show A4p _ _ h Q E
  unfold A4p
  conv=> fun;fun;fun;simp only [↓e9,↓u3,↓C4V,↓C3,↓D8,↓F4,↓E5,↓G0,↓G5,↓m8,↓K4,↓M1,↓C2,↓A1P,↓A1w,List.length_nil,G4,Nat.reduceLeDiff]
  rw [i4 B rfl]
  unfold l7 at z
  cases q:L6 es x with
  | none=>
    rw [q] at z
    show j9 _ h _ _
    show A2U _ _ h _ _
    unfold A2U
    conv=> fun;fun;fun;simp only [↓u3,↓C3,↓D8,↓F4,↓E5,↓G0,↓G5,↓m8,↓K7,↓K6,↓K8,↓S8,↓K4,↓Y0,↓U3,↓A3Y,↓M1,↓R6,↓T2,↓C2,↓A1P,if_true,List.length_nil,G4,Nat.reduceLeDiff]
    rw [i4 B rfl]
    show T9 _ h _ _
    rw [A7c B,q]
    exact z
  | some e=>
    rw [q] at z
    refine B3t hs hg le B q ?_
    conv=> fun;fun;fun;simp only [↓C2,↓Q2,↓A3k,↓A3A]
    have pn:(W.lst ((U7 es x).map W.str)).plain:=A5n 0 (by omega) fun y hy=> by
      obtain ⟨e,_,rfl⟩:=List.mem_map.mp hy
      rfl
    have p0:(Cont.seq []).fz.plain:=(A5n 0 (by omega) (fun x (hx:x∈([]:List W))=> by cases hx):(W.lst []).plain)
    rw [A6L (sp pn) (so p0)]
    cases q2:U7 es x with
    | nil=>
      rw [q2] at z
      rw [show decide ((SV.val (W.lst (List.map W.str []))).fz=(SV.own (Cont.seq [])).fz)=true from decide_eq_true rfl]
      simp only [Bool.not_true,Bool.false_eq_true,if_false]
      rw [A02 B,B0G B.wr (by rw [A5b,q];rfl)]
      have hb:(B9 h pw (.cont (.map (smap (W4 (es.map Ent.wr) x))))) b=some (.ins "Book" [("casks",.tup (ss.map .int)),("written",.ref pw),("laid",.ref pk)]):=by rw [C1 B.nbw];exact B.ob
      rw [A3q hb rfl,B0G (by rw [C1 (Ne.symm B.ne)];exact B.la) (by rw [A5h,q];rfl),A9t (fun _=> rfl),A9t (fun _=> rfl)]
      exact z
    | cons c r=>
      rw [q2] at z
      rw [decide_eq_false (fun e=> by cases e)]
      simp only [Bool.not_false,if_true,List.map_cons]
      rw [n9]
      exact z
end
end Ab
namespace Ab
open PySem PySem.Spec PyProof.Rows L2 RZ
def A6s (fl:Addr) (ML:List W→MC) (x_ask:W):MC:=
  ((A2 (eC .non)) fun x_told=> ((A2 (eC (.str ("":Str)))) fun x_word_here=> (join (fun (s1:W×W)=> ((T7 (A6 (A2 (eV (.val s1.1))) (A6 (A2 (eV (.val s1.2))) B4))) ret)) fun kj3=> (B1P (fun kk6=> ((A2 (G3 ML B4)) fun x_told=> (kk6 x_told))) (fun s5=> (kj3 (s5,x_word_here))) (fun s5=> (kj3 (x_told,s5))) (A2B ["BadName","BadRow","BadSizes","InUse","NoRound","NothingLeft","Taken","TooLong","TooMany"] [("HideError",(j5 "word")),("Missing",(j5 "word")),("NothingLeft",(j5 "word"))])))))
def A6y (ML:List W→MC) (fl:Addr):List W→MC
  | [x_ask]=> J9 (x_ask= .ref fl) (A6s fl ML x_ask)
  | _=> bad
def A4g (x_calls x_mname:W):MC:=
  (K5 (E4 (A38 true (A2 (eV (.val x_mname))) (eV (.val x_calls)))) ((eC (.str ("no round":Str))) ret) ((eIf (E4 (B01 x_calls fun x_calls=> (E6 A6X (C7 (v8 (B11 (A2 (eV (.val x_calls)))) fun x_mother kk=> g8 A0B (A2 (A8 (O7 false) (eV (.val x_mname)) (A0u (eV (.val x_calls)) (A2 (eV (.val x_mother)))))) kk) D7)))) (eC (.str ("in use":Str))) (eC (.str ("":Str)))) ret))
def A1q:List W→MC
  | [x_calls,x_mname]=> A4g x_calls x_mname
  | _=> bad
def A4J (x_flats x_calls:W):MC:=
  ((A2 (Q5 B4)) fun x_found=> (A3I (A2z (A2 (eV (.val x_calls)))) x_found (fun x_call (s1:W) kn3 kb4=> ((A2 (A8 oAdd (eV (.val s1)) (A8 oMulX (A0u (eV (.val x_flats)) (A2 (A8 oIx (eV (.val x_call)) (eC (.int 1))))) (A8 oIx (eV (.val x_call)) (eC (.int 2)))))) fun x_found=> (kn3 x_found))) fun (s1:W)=> ((eV (.val s1)) ret)))
def A1k:List W→MC
  | [x_flats,x_calls]=> A4J x_flats x_calls
  | _=> bad
def A4S (x_mbook x_mname:W):MC:=
  ((A2 (eC (.str ("none":Str)))) fun x_found=> (B1z (fun kk2=> ((d9 "Book" "drop" X3 (eV (.val x_mbook)) (A6 (A2 (eV (.val x_mname))) B4)) fun _=> (kk2 x_found))) (fun s1=> ((eV (.val s1)) ret)) (A2B ["BadName","BadRow","BadSizes","InUse","NoRound","NothingLeft","Taken","TooLong","TooMany"] [("InUse",(j5 "name"))])))
def A1n:List W→MC
  | [x_mbook,x_mname]=> A4S x_mbook x_mname
  | _=> bad
def A5s (x_script:W):MC:=
  ((G3 A2g (A6 (A2 (eV (.val x_script))) B4)) fun x_bag=> (A6M x_bag fun x_bag=> ((A2 (G3 A2W (A6 (A2 (eV (.val x_bag))) B4))) fun x_msizes=> ((A2 (Q5 (A6 (A2 (eC (.str ("a":Str)))) (A6 (A2 (eC (.str ("ab":Str)))) (A6 (A2 (eC (.str ("b":Str)))) (A6 (A2 (eC (.str ("ba":Str)))) B4)))))) fun x_names=> ((A2 (T7 (A6 (A2 (B1n "Book" A2X (A6 (A2 (eV (.val x_msizes))) B4))) (A6 (A2Q A3s) (A6 (A2Q (Q5 B4)) (A6 (A2Q A3s) B4)))))) fun w1=> un4 w1 fun x_mbook x_calls x_order x_flats=> (A3I (A2G (C7 (A8 oAdd (eC (.int 8)) (G3 E8 (A6 (A2 (eV (.val x_bag))) (A6 (A2 (eC (.int 8))) B4)))) D7)) () (fun x_turn (s4:Unit) kn6 kb7=> ((A2 (G3 R4 (A6 (A2 (eV (.val x_bag))) (A6 (A2 (eV (.val x_names))) B4)))) fun x_mname=> (join (fun (s10:Unit)=> ((A2 (E6 D2 (C7 (eV (.val x_order)) D7))) fun x_count=> (K5 (A0x (E4 (G3 (m__law_same 8) (A6 (A2 (Q5 (A6 (A2 (d9 "Book" "names" A1r (eV (.val x_mbook)) B4)) (A6 (A2 (A88 "Book" A2Y A8a (eV (.val x_mbook)))) (A6 (A2 (A88 "Book" A2V A8s (eV (.val x_mbook)))) B4))))) (A6 (A2 (Q5 (A6 (A2 (eV (.val x_order))) (A6 (A2 (eV (.val x_count))) (A6 (A2 (A8 oAdd (A8 oAdd (eC (.str ("Book(":Str))) (E6 A1N (C7 (eV (.val x_count)) D7))) (eC (.str (" rounds)":Str))))) B4))))) B4))))) ((eC (.bl false)) ret) (A59 (A2K (eV (.val x_order))) () (fun x_here (s12:Unit) kn14 kb15=> ((A3F (A2K (eV (.val x_order))) fun x_there kk=> g8 (E4 (A8 (O7 false) (eV (.val x_here)) (A0u (eV (.val x_calls)) (A2 (eV (.val x_there)))))) (A2 (eV (.val x_there))) kk) fun x_near=> (K5 (A0x (E4 (G3 (m__law_same 8) (A6 (A2 (Q5 (A6 (A2 (A8M "Book" "callers" j9 0 1 [0,1] [] (eV (.val x_mbook)) B4 (A6 (A2 (eV (.val x_here))) B4))) (A6 (A2 (d9 "Book" "flat" A1s (eV (.val x_mbook)) (A6 (A2 (eV (.val x_here))) B4))) B4)))) (A6 (A2 (Q5 (A6 (A2 (eV (.val (SV.fz x_near)))) (A6 (A2 (A0u (eV (.val x_flats)) (A2 (eV (.val x_here))))) B4)))) B4))))) ((eC (.bl false)) ret) (kn14 ())))) fun (s12:Unit)=> (kn6 ()))))) fun kj18=> (K5 (tOr (E4 (A38 false (A2 (eV (.val x_mname))) (eV (.val x_calls)))) (E4 (A8 (D6 false) (G3 E8 (A6 (A2 (eV (.val x_bag))) (A6 (A2 (eC (.int 5))) B4))) (eC (.int 0))))) ((A2 (G3 A1q (A6 (A2 (eV (.val x_calls))) (A6 (A2 (eV (.val x_mname))) B4)))) fun x_due=> (K5 (E4 (A8 (D6 true) (A96 (A6y (A83 (d9 "Book" "drop" X3 (eV (.val x_mbook)) (A6 (A2 (eV (.val x_mname))) B4)))) (B1o B4)) (T7 (A6 (A2 (eC .non)) (A6 (A2 (eV (.val x_due))) B4))))) ((eC (.bl false)) ret) (join (fun (s20:Unit)=> ((A3F (A2K (eV (.val x_order))) fun x_here kk=> g8 (E4 (A8 (O7 false) (eV (.val x_mname)) (B0q (eV (.val x_calls)) (A2 (eV (.val x_here))) (A2 (Q5 B4))))) (A2 (eV (.val x_here))) kk) fun x_near=> (K5 (tAnd (E4 (A8 (D6 false) (eV (.val x_due)) (eC (.str ("in use":Str))))) (E4 (A8 (D6 true) (G3 A1n (A6 (A2 (eV (.val x_mbook))) (A6 (A2 (eV (.val x_mname))) B4))) (A8 oIx (eV x_near) (eC (.int 0)))))) ((eC (.bl false)) ret) (kj18 ())))) fun kj22=> (K5 (E4 (A8 (D6 false) (eV (.val x_due)) (eC (.str ("":Str))))) (B14 (eV (.val x_calls)) (A2 (eV (.val x_mname))) ((lmE A1V (eV (.val x_order)) (A6 (A2 (eV (.val x_mname))) B4) ((kj22 ()))))) (kj22 ()))))) ((A3F (A2K (eV (.val x_order))) fun x_here kk=> g8 (E4 (A8 (D6 false) (u4 E8 (A6 (A2 (eV (.val x_bag))) (A6 (A2 (eC (.int 2))) B4))) (eC (.int 0)))) (A2 (eV (.val x_here))) kk) fun x_some=> ((A2 (G3 A2j (A6 (A2 (eV (.val x_bag))) (A6 (A2 (eV (.val x_msizes))) (A6 (A2 (eC (.int 2))) (A6 (A2 (eC (.bl true))) B4)))))) fun x_mdeeds=> ((A2 (A8 oAdd (v8 (A2z (A2 (eV (.val (SV.fz x_some))))) fun x_here kk=> g8 A0B (A2 (T7 (A6 (A2 (eC (.str ("call":Str)))) (A6 (A2 (eV (.val x_here))) (A6 (A2 (u4 E8 (A6 (A2 (eV (.val x_bag))) (A6 (A2 (eC (.int 3))) B4)))) B4))))) kk) (eV (.val x_mdeeds)))) fun x_msteps=> ((A2 (G3 A1k (A6 (A2 (eV (.val x_flats))) (A6 (A2 (eSl (eV (.val x_msteps)) oNo (A3x (E6 D2 (C7 (eV (.val (SV.fz x_some))) D7))))) B4)))) fun x_laid=> (K5 (E4 (A8 oGt (E6 D2 (C7 (eV (.val x_laid)) D7)) (eC (.int 190)))) (kn6 ()) (K5 (E4 (A8 (N5 true) (A8M "Book" "write" A1l 0 2 [0,1,2] [] (eV (.val x_mbook)) B4 (A6 (A2 (eV (.val x_mname))) (A6 (A2 (E6 U4 (C7 (eV (.val x_msteps)) D7))) B4))) (eC .non))) ((eC (.bl false)) ret) (B1b (A2 (T7 (A6 (A2 (eV (.val (SV.fz x_some)))) (A6 (A2 (A8 oAdd (eV (.val x_laid)) (eV (.val x_mdeeds)))) B4)))) (eV (.val x_calls)) (A2 (eV (.val x_mname))) (eV (.val x_flats)) (A2 (eV (.val x_mname))) ((lmE i6 (eV (.val x_order)) (A6 (A2 (eV (.val x_mname))) B4) ((kj18 ()))))))))))))))) fun (s4:Unit)=> ((eC (.bl true)) ret)))))))
def m_law:List W→MC
  | [x_script]=> A5s x_script
  | _=> bad
end Ab
namespace Ab
open PySem PySem.Spec PyProof.Rows L2 RZ
def i8 (e:Ent):List Str:=e.steps.filterMap fun s=> match s with
  | .call n _=> some n
  | .deed _=> none
def Ent.ca (e:Ent):Str×W:=(e.name,.lst ((i8 e).map W.str))
theorem A3Z {es:List Ent} {x:Str}:(es.map Ent.ca).lookup x=(L6 es x).map fun e=> W.lst ((i8 e).map W.str):=by
  unfold L6
  induction es with
  | nil=> rfl
  | cons e es ih=>
    rw [List.map_cons,List.find?_cons]
    show (match x==e.name with | true=> _ | false=> _)=_
    by_cases c:x=e.name
    · subst c
      simp only [beq_self_eq_true,Option.map_some]
    · simp only [beq_eq_false_iff_ne.mpr c,beq_eq_false_iff_ne.mpr (Ne.symm c)]
      exact ih
theorem A9x {e:Ent} {x:Str}:decide (W.str x∈(i8 e).map W.str)=e.steps.any (Q8 x):=by
  rw [Bool.eq_iff_iff,decide_eq_true_eq,List.any_eq_true,List.mem_map]
  unfold i8
  constructor
  · rintro ⟨y,hy,e1⟩
    injection e1 with e1
    subst e1
    obtain ⟨s,hs,e2⟩:=List.mem_filterMap.mp hy
    refine ⟨s,hs,?_⟩
    cases s with
    | call n t=>
      cases e2
      show (y==y)=true
      exact beq_self_eq_true _
    | deed d=> cases e2
  · rintro ⟨s,hs,e1⟩
    cases s with
    | call n t=>
      have e1:(n==x)=true:=e1
      rw [beq_iff_eq] at e1
      subst e1
      exact ⟨n,List.mem_filterMap.mpr ⟨_,hs,rfl⟩,rfl⟩
    | deed d=> cases e1
theorem C3g (x:Str):Str.empty++x=x:=by
  show Str.append Str.empty x=x
  simp [Str.append,Str.empty]
theorem A3O:∀{es:List Ent} {e:Ent},(es.map Ent.name).Nodup→e∈es→L6 es e.name=some e
  | x::es,e,nd,h=> by
    unfold L6
    rw [List.find?_cons]
    rw [List.map_cons,List.nodup_cons] at nd
    rcases List.mem_cons.mp h with rfl | h
    · rw [beq_self_eq_true]
    · have ne:x.name≠e.name:=fun z=> nd.1 (z▸List.mem_map_of_mem h)
      rw [beq_false_of_ne ne]
      exact A3O nd.2 h
theorem C2V {es:List Ent} {x:Str} (h:L6 es x=none):x∉es.map Ent.name:=fun hm=> by
  obtain ⟨e,he,rfl⟩:=List.mem_map.mp hm
  have z:=List.find?_eq_none.mp h e he
  exact z (beq_self_eq_true _)
theorem B9n {es:List Ent} {x:Str}:(U7 es x).length≤es.length:=by
  unfold U7
  rw [List.length_map]
  exact List.length_filter_le _ _
theorem T4 {h:AH} {x y:Addr} {o:AO} (a:h x=some o) (n:h y=none):x≠y:=fun e=> by rw [e,n] at a;cases a
def inU (es:List Ent) (x:Str):Bool:=es.any fun e=> e.steps.any (Q8 x)
theorem inU_callers {es:List Ent} {x:Str}:inU es x=true↔U7 es x≠[]:=by
  unfold inU U7
  rw [List.any_eq_true]
  constructor
  · rintro ⟨e,he,c⟩ z
    have z:=List.map_eq_nil_iff.mp z
    have:e∈es.filter fun e=> e.steps.any (Q8 x):=List.mem_filter.mpr ⟨he,c⟩
    rw [z] at this
    cases this
  · intro z
    obtain ⟨y,hy⟩:=List.exists_mem_of_ne_nil _ z
    obtain ⟨e,he,_⟩:=List.mem_map.mp hy
    obtain ⟨h1,h2⟩:=List.mem_filter.mp he
    exact ⟨e,h1,h2⟩
def f9 (es:List Ent) (x:Str):Str:=if (L6 es x).isSome=true then (if inU es x=true then ("in use":Str) else ("":Str)) else ("no round":Str)
section
variable {Q:RR→AH→Prop} {E:AExc→AH→Prop} {h:AH} {es:List Ent} {ss:List Int}
theorem C0u {pc:Addr} {x:Str} (hc:h pc=some (.cont (.map (smap (es.map Ent.ca))))) (un:(es.map Ent.name).Nodup) (le:es.length≤1000):A1q [.ref pc,.str x] h Q E=Q (.val (.str (f9 es x))) h:=by
  show A4g _ _ h Q E=_
  unfold A4g
  conv=> lhs;fun;fun;fun;simp only [↓A8f,↓A18,↓C3,↓D8,↓F4,↓E5,↓S8,↓K4,↓A1W,↓M1,↓R6,↓C2,if_true]
  rw [A78 hc,A3Z]
  unfold f9
  cases q:L6 es x with
  | none=>
    simp only [↓B6X,↓F0,↓A5t,if_true,if_false,Bool.not_false,Bool.false_eq_true,Option.map_none,Option.isSome_none]
  | some e=>
    simp only [↓F0,if_true,if_false,Bool.not_true,Bool.false_eq_true,Option.map_some,Option.isSome_some]
    rw [C2k (b:=inU es x) hc fun k'=> ?_]
    · simp only [↓F0]
      cases inU es x <;> rfl
    · simp only [↓C40,↓C3,↓E5,↓K7,↓K6,↓K8,↓T2,↓C2,C5y]
      rw [List.map_map]
      show U6 _ _ (es.map fun e=> W.str e.name) []=_
      rw [A5i (fun e:Ent=> W.str e.name) (fun e=> .bl (e.steps.any (Q8 x))) es (fun e he kk=> ?_) (by rw [G4];omega)]
      · rw [show (es.map fun e:Ent=> W.bl (e.steps.any (Q8 x)))=(es.map fun e=> e.steps.any (Q8 x)).map W.bl by rw [List.map_map];rfl,B6Q,List.any_map]
        rfl
      · rw [C21 (l:=es.map Ent.ca) (by rw [A3Z,A3O un he];rfl)]
        show D4 (O7 false) (.val (.str x)) (.val (.lst ((i8 e).map W.str))) _=_
        rw [C6X (xs:=(i8 e).map W.str) (sp O4) (fun _=> rfl) (fun z hz=> by obtain ⟨s,hs',rfl⟩:=List.mem_map.mp hz;rfl),←A9x]
        rfl
end
def B60 (ss:List Int) (es:List Ent) (g:List St):Prop:=∀s∈g,match s with
  | .call n t=> n∈es.map Ent.name∧t≤3
  | .deed d=> d.ok ss
theorem A9m:∀g:List St,f7 (g.map Sw.good)=g
  | []=> rfl
  | s::g=> by show s::f7 (g.map Sw.good)=_;rw [A9m g]
theorem B31 {es:List Ent}:∀{g:List St} {i:Nat},(∀s∈g,s.there es)→((g.map Sw.good).zipIdx i).findSome? (fun p=> A0k es (p.2:Int) p.1)=none
  | [],_,_=> rfl
  | s::g,i,ht=> by
    rw [List.map_cons,List.zipIdx_cons,List.findSome?_cons]
    have a:A0k es (i:Int) (.good s)=none:=by
      cases s with
      | deed d=> rfl
      | call n t=> show (if (L6 es n).isSome=true then none else some (A5Z n))=none;exact if_pos (ht (.call n t) (by simp))
    rw [a]
    exact B31 fun s' h=> ht s' (List.mem_cons_of_mem _ h)
theorem B45 {es:List Ent} {n:Str} (h:n∈es.map Ent.name):(L6 es n).isSome=true:=by
  unfold L6
  rw [List.find?_isSome]
  obtain ⟨e,he,rfl⟩:=List.mem_map.mp h
  exact ⟨e,he,beq_self_eq_true _⟩
theorem C2j {es:List Ent} {n:Str} (h:n∉es.map Ent.name):L6 es n=none:=by
  unfold L6
  rw [List.find?_eq_none]
  exact fun e he z=> h (List.mem_map.mpr ⟨e,he,eq_of_beq z⟩)
theorem C0i {ss:List Int} {es:List Ent} {x:Str} {g:List St} (xi:A3j x=true) (xn:x∉es.map Ent.name) (l5:es.length < 12) (gg:B60 ss es g) (tot:(g.map (j4 es)).sum≤200):A7i es x (g.map Sw.good)=none:=by
  have th:∀s∈g,s.there es:=fun s hs=> by
    have z:=gg s hs
    cases s with
    | deed d=> trivial
    | call n t=> exact B45 z.1
  unfold A7i A24 A95 A2r
  rw [B31 th,A9m,xi,C2j xn,if_neg (by simp),if_neg (by simp),if_neg (by omega)]
  show (if 200 < (g.map (j4 es)).sum then some tooLong else none)=none
  rw [if_neg (by omega)]
theorem B68 {α:Type} [DecidableEq α]:∀{l m:List α},l.Nodup→(∀x∈l,x∈m)→l.length≤m.length
  | [],_,_,_=> Nat.zero_le _
  | x::l,m,nd,sub=> by
    rw [List.nodup_cons] at nd
    have hx:=sub x List.mem_cons_self
    have z:=B68 (l:=l) (m:=m.erase x) nd.2 fun y hy=> (List.mem_erase_of_ne (fun e=> nd.1 (by rw [←e];exact hy))).mpr (sub y (List.mem_cons_of_mem _ hy))
    rw [List.length_erase_of_mem hx] at z
    have:0 < m.length:=List.length_pos_of_mem hx
    rw [List.length_cons]
    omega
def A3t:List Str:=[("a":Str),("ab":Str),("b":Str),("ba":Str)]
theorem C1W:∀x∈A3t,A3j x=true∧x.length≤1000:=by decide+kernel
structure Inv27 (h:AH) (ss:List Int) (p b pw pl pc po pf:Addr) (es:List Ent) (fl:List (Str×W)):Prop where
  bk:BookAt h b (.tup (ss.map .int)) pw pl es
  ca:h pc=some (.cont (.map (smap (es.map Ent.ca))))
  od:h po=some (.cont (.seq ((es.map Ent.name).map W.str)))
  ft:h pf=some (.cont (.map (smap fl)))
  fd:∀e∈es,fl.lookup e.name=some (.lst (e.deeds.map Dd.w))
  ok:A37 es
  st:∀e∈es,∀s∈e.steps,s.ok ss
  dk:∀e∈es,∀d∈e.deeds,d.ok ss
  nm:∀e∈es,e.name∈A3t
  un:(es.map Ent.name).Nodup
  nd:[p,b,pw,pl,pc,po,pf].Nodup
theorem Inv27.l4 {h:AH} {ss:List Int} {p b pw pl pc po pf:Addr} {es:List Ent} {fl:List (Str×W)} (I:Inv27 h ss p b pw pl pc po pf es fl):es.length≤4:=by
  have z:=B68 (m:=A3t) I.un fun x hx=> by
    obtain ⟨e,he,rfl⟩:=List.mem_map.mp hx
    exact I.nm e he
  rw [List.length_map] at z
  exact z
theorem Inv27.bt {h h':AH} {ss:List Int} {p b pw pl pc po pf:Addr} {es:List Ent} {fl:List (Str×W)} (I:Inv27 h ss p b pw pl pc po pf es fl) (t:Bt p h h'):Inv27 h' ss p b pw pl pc po pf es fl:=by
  have nd:=I.nd
  simp only [List.nodup_cons,List.mem_cons,List.not_mem_nil,or_false,not_or] at nd
  obtain ⟨⟨n1,n2,n3,n4,n5,n6⟩,_⟩:=nd
  exact ⟨⟨(t _ (Ne.symm n1)).trans I.bk.ob,(t _ (Ne.symm n2)).trans I.bk.wr,(t _ (Ne.symm n3)).trans I.bk.la,I.bk.ne⟩,(t _ (Ne.symm n4)).trans I.ca,(t _ (Ne.symm n5)).trans I.od,(t _ (Ne.symm n6)).trans I.ft,I.fd,I.ok,I.st,I.dk,I.nm,I.un,I.nd⟩
theorem C0q {Q:RR→AH→Prop} {E:AExc→AH→Prop} {h:AH} {p pc:Addr} {x:Str} {l:List (Str×W)} {n:Nat} {D F:MC} (hc:h pc=some (.cont (.map (smap l)))) (b:Bag n h p) (hn:n+1≤1000000000000000)
    (hD:∀h',Bag (n+1) h' p→Bt p h h'→D h' Q E) (hF:∀h',l.lookup x=none→Bag (n+1) h' p→Bt p h h'→F h' Q E):
    inX false (.str x) (.val (.ref pc)) (fun x=> T3 x fun c=> if c=true then D else call (E8 [.ref p,.int 5]) fun y=> D4 (D6 false) y (.val (.int 0)) fun z=> T3 z fun b=> if b=true then D else F) h Q E:=by
  rw [A78 hc]
  cases q:l.lookup x with
  | some w=> exact hD h (b.le (by omega)) .refl
  | none=>
    simp only [Bool.false_eq_true,if_false,Option.isSome_none,F0]
    refine (X7 (s:=5) (by omega) (by omega)).call b (by omega) fun r h1 hr b1 t1=> ?_
    obtain ⟨k,rfl,k1,k2⟩:=hr
    conv=> fun;fun;fun;simp only [↓P9,↓F0,↓A8Y,decide_eq_true_eq]
    by_cases z:k=0
    · rw [if_pos z];exact hD h1 b1 t1
    · rw [if_neg z];exact hF h1 q b1 t1
section
variable {Q:RR→AH→Prop} {E:AExc→AH→Prop}
theorem C3P {h:AH} {a:Addr} {ys:List Str} {x:Str} {ma:D5} {k:MC} (e:h a=some (.cont (.seq (ys.map W.str)))) (m:x∈ys) (hm:∀K:List W→MC,ma K h Q E=K [.str x] h Q E):lmR A1V (.val (.ref a)) ma k h Q E=k (B9 h a (.cont (.seq ((ys.erase x).map W.str)))) Q E:=by
  show ((∃xs,h a=some (.cont (.seq xs)))∧ma _ h Q E)=_
  rw [hm]
  show (_∧(match h a with
    | some (.cont (.seq xs))=> A1V xs [.str x] fun xs' _=> k (B9 h a (.cont (.seq xs'))) Q E
    | _=> False))=_
  rw [e]
  refine propext ⟨fun ⟨_,ys',z1,z2,z3⟩=> ?_,fun z=> ⟨⟨_,rfl⟩,ys,rfl,m,z⟩⟩
  obtain rfl:=B5m z1
  exact z3
theorem B0h {p:Addr} {K:List W→MC} {ok:AH→Prop} (okp:∀{h h':AH},Bt p h h'→ok h→ok h'):∀(l acc:List Str) (n:Nat) (h:AH),ok h→Bag n h p→n+l.length≤1000000000000000→acc.length+l.length≤1000→
    (∀(sub:List Str) h',(∀y∈sub,y∈l)→sub.length≤l.length→Bag (n+l.length) h' p→Bt p h h'→K ((acc++sub).map W.str) h' Q E)→
    A1X ok (fun x_here kk=> call0 (E8 [W.ref p,W.int 2]) fun x=> D4 (D6 false) x (SV.val (W.int 0)) fun x=> T3 x fun b=> if b=true then kk (some x_here) else kk none) K (l.map W.str) (acc.map W.str) h Q E
  | [],acc,n,h,o,b,hn,la,q=> ⟨o,by have z:=q [] h (fun y hy=> nomatch hy) (Nat.le_refl _) b .refl;rwa [List.append_nil] at z⟩
  | y::l,acc,n,h,o,b,hn,la,q=> by
    rw [List.length_cons] at hn la
    refine ⟨o,?_⟩
    refine (X7 (s:=2) (by omega) (by omega)).call0 b (by omega) fun r h1 hr b1 t1=> ?_
    obtain ⟨k,rfl,k1,k2⟩:=hr
    conv=> fun;fun;fun;simp only [↓P9,↓F0,↓A8Y,decide_eq_true_eq,List.length_map,G4]
    by_cases z:k=0
    · rw [if_pos z]
      refine ⟨by omega,?_⟩
      have e:acc.map W.str++[W.str y]=(acc++[y]).map W.str:=by simp
      rw [e]
      refine B0h okp l (acc++[y]) (n+1) h1 (okp t1 o) b1 (by omega) (by rw [List.length_append,List.length_singleton];omega) fun sub h' hs ls b' t'=> ?_
      have z:=q (y::sub) h' (fun u hu=> by
        rcases List.mem_cons.mp hu with rfl | hu
        · exact List.mem_cons_self
        · exact List.mem_cons_of_mem _ (hs u hu)) (by simp;omega) (b'.le (by rw [List.length_cons];omega)) (t1.trans t')
      rwa [show acc++y::sub=acc++[y]++sub by simp] at z
    · rw [if_neg z]
      exact B0h okp l acc (n+1) h1 (okp t1 o) b1 (by omega) (by omega) fun sub h' hs ls b' t'=> q sub h' (fun u hu=> List.mem_cons_of_mem _ (hs u hu)) (by simp;omega) (b'.le (by rw [List.length_cons];omega)) (t1.trans t')
theorem B4r {p:Addr} {K:List W→MC}:∀(l:List Str) (acc:List St) (n:Nat) (h:AH),Bag n h p→n+l.length≤1000000000000000→acc.length+l.length≤1000→
    (∀(ts:List Nat) h',ts.length=l.length→(∀t∈ts,t≤2)→Bag (n+l.length) h' p→Bt p h h'→K ((acc++List.zipWith St.call l ts).map St.w) h' Q E)→
    U6 (fun x_here kk=> call0 (E8 [W.ref p,W.int 3]) fun x=> kk (some (W.tup [W.str (Str.ofString "call"),x_here,x.fz]))) K (l.map W.str) (acc.map St.w) h Q E
  | [],acc,n,h,b,hn,la,q=> by have z:=q [] h rfl (fun y hy=> nomatch hy) b .refl;rwa [List.zipWith_nil_left,List.append_nil] at z
  | y::l,acc,n,h,b,hn,la,q=> by
    rw [List.length_cons] at hn la
    rw [List.map_cons]
    unfold U6
    refine (X7 (s:=3) (by omega) (by omega)).call0 b (by omega) fun r h1 hr b1 t1=> ?_
    obtain ⟨k,rfl,k1,k2⟩:=hr
    obtain ⟨k,rfl⟩:∃j:Nat,k=j:=⟨k.toNat,by omega⟩
    refine ⟨by rw [List.length_map,G4];omega,?_⟩
    show U6 _ K (l.map W.str) (acc.map St.w++[St.w (.call y k)]) h1 Q E
    have e:acc.map St.w++[St.w (.call y k)]=(acc++[St.call y k]).map St.w:=by simp
    rw [e]
    refine B4r l (acc++[St.call y k]) (n+1) h1 b1 (by omega) (by rw [List.length_append,List.length_singleton];omega) fun ts h' lt ht b' t'=> ?_
    have z:=q (k::ts) h' (by simp;omega) (fun u hu=> by
      rcases List.mem_cons.mp hu with rfl | hu
      · omega
      · exact ht u hu) (b'.le (by rw [List.length_cons];omega)) (t1.trans t')
    rwa [List.zipWith_cons_cons,show acc++St.call y k::List.zipWith St.call l ts=acc++[St.call y k]++List.zipWith St.call l ts by simp] at z
theorem B4U:∀(l:List Str) (ts:List Nat),ts.length=l.length→(List.zipWith St.call l ts).filterMap (fun s=> match s with
    | .call n _=> some n
    | .deed _=> none)=l
  | [],[],_=> rfl
  | y::l,t::ts,h=> by
    rw [List.zipWith_cons_cons,List.filterMap_cons]
    show y::_=_
    rw [B4U l ts (by simpa using h)]
  | [],_::_,h=> by cases h
  | _::_,[],h=> by cases h
theorem A75:∀{l:List Str} {ts:List Nat} {s:St},s∈List.zipWith St.call l ts→∃y t,s= .call y t∧y∈l∧t∈ts
  | [],_,s,h=> by rw [List.zipWith_nil_left] at h;cases h
  | _::_,[],s,h=> by rw [List.zipWith_nil_right] at h;cases h
  | y::l,t::ts,s,h=> by
    rw [List.zipWith_cons_cons] at h
    rcases List.mem_cons.mp h with rfl | h
    · exact ⟨y,t,rfl,List.mem_cons_self,List.mem_cons_self⟩
    · obtain ⟨y',t',e,h1,h2⟩:=A75 h
      exact ⟨y',t',e,List.mem_cons_of_mem _ h1,List.mem_cons_of_mem _ h2⟩
theorem B4t {es:List Ent}:∀(l:List St) (a:List Dd),l.foldl (fun ds s=> ds++N7 es s) a=a++l.flatMap (N7 es)
  | [],a=> by simp
  | s::l,a=> by rw [List.foldl_cons,B4t l,List.flatMap_cons,List.append_assoc]
theorem B9P {h:AH} {pf:Addr} {es:List Ent} {fl:List (Str×W)} {gs:List St} (hf:h pf=some (.cont (.map (smap fl)))) (fd:∀e∈es,fl.lookup e.name=some (.lst (e.deeds.map Dd.w))) (ho:A37 es) (hg:∀s∈gs,∃n t,s= .call n t∧n∈es.map Ent.name∧t≤2) (lg:gs.length≤20):
    A1k [.ref pf,.lst (gs.map St.w)] h Q E=Q (.val (.lst ((gs.flatMap (N7 es)).map Dd.w))) h:=by
  show A4J _ _ h Q E=_
  unfold A4J
  conv=> lhs;fun;fun;fun;simp only [↓A18,↓C3,↓D8,↓F4,↓E5,↓G0,↓m8,↓A3Y,↓A5l,↓C2,↓Q2,↓A3Q,↓A1P,List.length_nil,G4,Nat.reduceLeDiff]
  show o7 _ _ _ ((fun ds:List Dd=> W.lst (ds.map Dd.w)) []) h Q E=_
  rw [←B5F,A9v St.w (fun ds:List Dd=> W.lst (ds.map Dd.w)) (fun ds s=> ds++N7 es s) (ok:=fun _=> True) trivial (fun i ds=> i≤20→ds.length≤400*i) gs [] 0 (by simp) (fun j s hj ds kn kb hi=> ?_)]
  · rw [B4t,List.nil_append]
    rfl
  · have hm:=List.mem_of_getElem? hj
    have jl:j < gs.length:=(List.getElem?_eq_some_iff.mp hj).1
    obtain ⟨n,t,rfl,hn,ht⟩:=hg s hm
    obtain ⟨e2,he2,rfl⟩:=List.mem_map.mp hn
    obtain ⟨e3,q⟩:=Option.isSome_iff_exists.mp (B45 hn)
    have hd:=A7a ho e2.name
    have de:d0 es e2.name=e3.deeds:=by unfold d0;rw [q]
    have le:N7 es (.call e2.name t)=(List.replicate t e3.deeds).flatten:=by show (List.replicate t (d0 es e2.name)).flatten=_;rw [de]
    have en:e3.name=e2.name:=by
      have z:=List.find?_some q
      exact eq_of_beq z
    have f3:=fd e3 (A7Z q)
    rw [en] at f3
    rw [de] at hd
    have ll:(N7 es (.call e2.name t)).length=t*e3.deeds.length:=by rw [le];simp
    have l2:t*e3.deeds.length≤2*200:=Nat.mul_le_mul ht hd
    have lb:=hi (by omega)
    refine ⟨fun _=> by rw [List.length_append,ll];omega,?_⟩
    simp only [St.w,↓C2,↓W3,↓A1J,↓A29]
    rw [A2l hf f3,B5P,m6,Int.toNat_natCast]
    have lm:(e3.deeds.map Dd.w).length*t≤sizeLine:=by
      rw [List.length_map,G4]
      have:e3.deeds.length*t≤200*2:=Nat.mul_le_mul hd ht
      omega
    rw [show (List.replicate t (e3.deeds.map Dd.w)).flatten=(N7 es (.call e2.name t)).map Dd.w by rw [le,List.map_flatten,List.map_replicate]]
    refine propext ⟨fun z=> ?_,fun z=> ⟨⟨by omega,by omega,lm⟩,?_⟩⟩
    · have z:=z.2
      simp only [↓Q2,↓B5a,List.length_map,G4] at z
      obtain ⟨_,z⟩:=z
      rwa [←List.map_append] at z
    · simp only [↓Q2,↓B5a,List.length_map,G4]
      refine ⟨by rw [ll];omega,?_⟩
      rwa [←List.map_append]
end
def B7O (e:AExc):Str:=match e.fs.lookup ("word":Str) with
  | some (W.str w)=> w
  | _=> Str.empty
def A8d (es:List Ent) (x:Str):Str:=match l7 es x with
  | some e=> B7O e
  | none=> ("":Str)
theorem B4y {es:List Ent} {x:Str}:A8d es x=f9 es x:=by
  unfold A8d l7 f9
  cases q:L6 es x with
  | none=> rfl
  | some e=>
    show (match (match U7 es x with | []=> none | c::_=> some (B1m c)) with | some e=> B7O e | none=> ("":Str))=(if inU es x=true then ("in use":Str) else ("":Str))
    cases c:U7 es x with
    | nil=> rw [if_neg (fun z=> (inU_callers.mp z) c)]
    | cons y r=> rw [if_pos (inU_callers.mpr (by rw [c];exact List.cons_ne_nil _ _))];rfl
section
variable {Q:RR→AH→Prop} {E:AExc→AH→Prop} {h:AH} {es:List Ent} {ss:List Int}
def A8I (h:AH) (pw pk:Addr) (es:List Ent) (x:Str):AH:=match l7 es x with
  | some _=> h
  | none=> B9 (B9 h pw (.cont (.map (smap ((X9 es x).map Ent.wr))))) pk (.cont (.map (smap ((X9 es x).map Ent.la))))
theorem C1U {b pw pl:Addr} {x:Str} {K:SV→MC} (hs:V3 ss) (hg:∀e∈es,e.steps.length≤1000∧∀s∈e.steps,s.ok ss) (le:es.length≤1000) (B:BookAt h b (.tup (ss.map .int)) pw pl es)
    (z:K (.val (.tup [.non,.str (f9 es x)])) (A8I h pw pl es x) Q E):
    B1o B4 (fun f ws=> call (A6y (A83 (d9 "Book" "drop" X3 (eV (.val (.ref b))) (A6 (A2 (eV (.val (.str x)))) B4))) f ws) K) h Q E:=by
  rw [←B4y] at z
  intro f
  show A6y _ f [.ref f] h _ E
  refine ⟨rfl,?_⟩
  unfold A6s
  conv=> fun;fun;fun;simp only [↓u3,↓C3,↓D8,↓E5,↓G0,↓G5,↓A3B,↓P6,↓C2,↓A1P,↓B4s,List.length_cons,List.length_nil,G4,Nat.zero_add,Nat.reduceAdd,Nat.reduceLeDiff,B4s,C5P]
  unfold B1P
  show (Y3 "Book" "drop" (.val (.ref b)) fun a=> call (X3 [.ref a,.str x]) ret) h _ _
  rw [i4 B rfl]
  show X3 _ h _ _
  refine B4X hs hg le B ?_
  unfold A8d A8I at z
  cases q:l7 es x with
  | some e=>
    rw [q] at z
    unfold l7 at q
    cases q1:L6 es x with
    | none=>
      rw [q1] at q
      cases q
      refine ⟨by show ("NoRound":Str)∈_;decide,?_⟩
      rw [if_neg (by show ¬g7 "NoRound" _=_;decide)]
      refine ⟨by show ("NoRound":Str)∈_;decide,?_⟩
      rw [if_pos (by show g7 "NoRound" _=_;decide)]
      exact ⟨_,rfl,z⟩
    | some e1=>
      rw [q1] at q
      cases q2:U7 es x with
      | nil=> simp only [q2] at q;cases q
      | cons y r=>
        simp only [q2] at q
        cases q
        refine ⟨by show ("InUse":Str)∈_;decide,?_⟩
        rw [if_pos (by show g7 "InUse" _=_;decide)]
        exact ⟨_,rfl,z⟩
  | none=>
    rw [q] at z
    exact z
theorem C1l {b pw pl:Addr} {x:Str} {c:Str} {r:List Str} (hs:V3 ss) (hg:∀e∈es,e.steps.length≤1000∧∀s∈e.steps,s.ok ss) (le:es.length≤1000) (B:BookAt h b (.tup (ss.map .int)) pw pl es) (ht:(L6 es x).isSome=true) (hc:U7 es x=c::r)
    (z:Q (.val (.str c)) h):A1n [.ref b,.str x] h Q E:=by
  show A4S _ _ h Q E
  unfold A4S
  conv=> fun;fun;fun;simp only [↓u3,↓C3,↓D8,↓E5,↓G0,↓G5,↓C2]
  unfold B1z
  show (Y3 "Book" "drop" (.val (.ref b)) fun a=> call (X3 [.ref a,.str x]) _) h _ _
  rw [i4 B rfl]
  show X3 _ h _ _
  refine B4X hs hg le B ?_
  obtain ⟨e1,q1⟩:=Option.isSome_iff_exists.mp ht
  have q:l7 es x=some (B1m c):=by
    unfold l7
    rw [q1]
    simp only [hc]
  rw [q]
  refine ⟨by show ("InUse":Str)∈_;decide,?_⟩
  rw [if_pos (by show g7 "InUse" _=_;decide)]
  exact ⟨_,rfl,z⟩
end
theorem B5Q {es:List Ent} {x:Str}:(es.filterMap fun e2=> if e2.steps.any (Q8 x)=true then some (W.str e2.name) else none)=(U7 es x).map W.str:=by
  unfold U7
  induction es with
  | nil=> rfl
  | cons e es ih=>
    rw [List.filterMap_cons,List.filter_cons]
    by_cases c:e.steps.any (Q8 x)=true
    · rw [if_pos c,if_pos c,ih]
      rfl
    · rw [if_neg c,if_neg c]
      exact ih
theorem Inv27.od2 {h:AH} {ss:List Int} {p b pw pl pc po pf:Addr} {es:List Ent} {fl:List (Str×W)} (I:Inv27 h ss p b pw pl pc po pf es fl):h po=some (.cont (.seq (es.map fun e=> W.str e.name))):=by
  rw [I.od,List.map_map]
  rfl
theorem Inv27.hg {h:AH} {ss:List Int} {p b pw pl pc po pf:Addr} {es:List Ent} {fl:List (Str×W)} (I:Inv27 h ss p b pw pl pc po pf es fl):∀e∈es,e.steps.length≤1000∧∀s∈e.steps,s.ok ss:=fun e he=> ⟨(I.ok e he).2,I.st e he⟩
theorem C6b {d:Dd} (l:d.rest.length≤1000):d.w.sm 5=true:=by
  rw [Dd.w_eq]
  refine C5A (by rw [List.length_cons];omega) fun x hx=> ?_
  rcases List.mem_cons.mp hx with rfl | hx
  · rfl
  · cases d <;> simp only [Dd.rest,List.mem_cons,List.not_mem_nil,or_false,List.mem_map] at hx
    case swap=> rcases hx with rfl | rfl <;> rfl
    case tap=> rcases hx with rfl | rfl <;> rfl
    case drain=> rcases hx with rfl | rfl <;> rfl
    case over=> rcases hx with rfl | ⟨a,_,rfl⟩ <;> rfl
    case down=> rcases hx with rfl | ⟨a,_,rfl⟩ <;> rfl
theorem C1Z {ss:List Int} {ds:List Dd} {ns:List Str} (hs:V3 ss) (l1:ds.length≤200) (h2:∀d∈ds,d.ok ss) (l3:ns.length≤1000):(W.lst [.lst (ns.map W.str),.lst (ds.map Dd.w)]).sm 7=true:=by
  refine B1M (Nat.le_of_ble_eq_true rfl) fun x hx=> ?_
  simp only [List.mem_cons,List.not_mem_nil,or_false] at hx
  rcases hx with rfl | rfl
  · exact B1M (by rw [List.length_map];omega) fun y hy=> by obtain ⟨d,hd,rfl⟩:=List.mem_map.mp hy;rfl
  · exact B1M (by rw [List.length_map];omega) fun y hy=> by obtain ⟨d,hd,rfl⟩:=List.mem_map.mp hy;exact C6b (d.w_len ss hs (h2 d hd))
theorem C3z:∀n:Nat,n≤12→(Str.ofString "Book(").length+(Str.ofString (toString (n:Int))).length≤16777216:=by decide+kernel
theorem C3F:∀n:Nat,n≤12→(Str.ofString "Book("++Str.ofString (toString (n:Int))).length+(Str.ofString " rounds)").length≤16777216:=by decide+kernel
theorem B3c {x:Str}:∀{es:List Ent},(es.map Ent.name).Nodup→(es.map Ent.name).erase x=(X9 es x).map Ent.name
  | [],_=> rfl
  | e::es,nd=> by
    rw [List.map_cons,List.nodup_cons] at nd
    unfold X9
    rw [List.map_cons,List.filter_cons]
    by_cases c:e.name=x
    · rw [if_neg (by simp [c]),←c,List.erase_cons_head]
      rw [show es.filter (fun e'=> decide (e'.name≠e.name))=es from List.filter_eq_self.mpr fun e' he=> decide_eq_true fun z=> nd.1 (z▸List.mem_map_of_mem he)]
    · rw [if_pos (by simpa using c),List.erase_cons_tail (by simpa using c),List.map_cons,B3c nd.2]
      rfl
theorem Inv27.drop {h:AH} {ss:List Int} {p b pw pl pc po pf:Addr} {es:List Ent} {fl:List (Str×W)} {x:Str} (I:Inv27 h ss p b pw pl pc po pf es fl):
    Inv27 (B9 (B9 (B9 (B9 h pw (.cont (.map (smap ((X9 es x).map Ent.wr))))) pl (.cont (.map (smap ((X9 es x).map Ent.la))))) pc (.cont (.map (smap (W4 (es.map Ent.ca) x))))) po (.cont (.seq (((es.map Ent.name).erase x).map W.str)))) ss p b pw pl pc po pf (X9 es x) fl:=by
  have nd:=I.nd
  simp only [List.nodup_cons,List.mem_cons,List.not_mem_nil,or_false,not_or] at nd
  obtain ⟨⟨n1,n2,n3,n4,n5,n6⟩,⟨m1,m2,m3,m4,m5⟩,⟨o1,o2,o3,o4⟩,⟨q1,q2,q3⟩,⟨r1,r2⟩,s1,_⟩:=nd
  have mem:∀{e:Ent},e∈X9 es x→e∈es:=fun he=> (List.mem_filter.mp he).1
  refine ⟨⟨?_,?_,?_,I.bk.ne⟩,?_,?_,?_,fun e he=> I.fd e (mem he),fun e he=> I.ok e (mem he),fun e he=> I.st e (mem he),fun e he=> I.dk e (mem he),fun e he=> I.nm e (mem he),?_,I.nd⟩
  · rw [C1 m4,C1 m3,C1 m2,C1 m1];exact I.bk.ob
  · rw [C1 o3,C1 o2,C1 o1];exact M6
  · rw [C1 q2,C1 q1];exact M6
  · rw [C1 r1,M6,A9t (fun _=> rfl)]
  · rw [M6,B3c I.un]
  · rw [C1 (Ne.symm s1),C1 (Ne.symm r2),C1 (Ne.symm q3),C1 (Ne.symm o4)];exact I.ft
  · exact List.Nodup.sublist ((List.filter_sublist).map _) I.un
theorem A9r {x y:Str} {w:W}:∀{l:List (Str×W)},y≠x→(l.map fun p=> if p.1=x then (p.1,w) else p).lookup y=l.lookup y
  | [],_=> rfl
  | p::l,h=> by
    obtain ⟨a,b⟩:=p
    rw [List.map_cons]
    by_cases c:a=x
    · subst c
      simp only [if_true,List.lookup,beq_eq_false_iff_ne.mpr h]
      exact A9r h
    · simp only [c,if_false,List.lookup]
      rw [A9r h]
theorem B4M {x:Str} {w:W}:∀{l:List (Str×W)},(l.any fun p=> decide (p.1=x))=true→(l.map fun p=> if p.1=x then (p.1,w) else p).lookup x=some w
  | [],h=> by cases h
  | p::l,h=> by
    obtain ⟨a,b⟩:=p
    rw [List.map_cons]
    by_cases c:a=x
    · subst c
      simp only [if_true,List.lookup,beq_self_eq_true]
    · rw [List.any_cons,decide_eq_false c,Bool.false_or] at h
      simp only [c,if_false,List.lookup,beq_eq_false_iff_ne.mpr (Ne.symm c)]
      exact B4M h
theorem B4a {y:Str}:∀{l m:List (Str×W)},(l++m).lookup y=(l.lookup y).or (m.lookup y)
  | [],m=> by simp [List.lookup]
  | p::l,m=> by
    obtain ⟨a,b⟩:=p
    rw [List.cons_append]
    simp only [List.lookup]
    cases y==a with
    | true=> rfl
    | false=> exact B4a
theorem B54 {y:Str}:∀{l:List (Str×W)},(∀p∈l,p.1≠y)→l.lookup y=none
  | [],_=> rfl
  | p::l,h=> by
    obtain ⟨a,b⟩:=p
    have z:=h (a,b) List.mem_cons_self
    simp only [List.lookup,beq_eq_false_iff_ne.mpr (Ne.symm z)]
    exact B54 fun q hq=> h q (List.mem_cons_of_mem _ hq)
theorem B43 {es:List Ent}:∀ds:List Dd,((ds.map St.deed).flatMap (N7 es)).length=ds.length
  | []=> rfl
  | d::ds=> by rw [List.map_cons,List.flatMap_cons,List.length_append,B43 ds,List.length_cons];show 1+ds.length=_;omega
theorem B5V {x y:Str} {w:W} {l:List (Str×W)}:(Q9 l x w).lookup y=if y=x then some w else l.lookup y:=by
  unfold Q9
  by_cases g:(l.any fun p=> decide (p.1=x))=true
  · rw [if_pos g]
    by_cases c:y=x
    · rw [if_pos c,c,B4M g]
    · rw [if_neg c,A9r c]
  · rw [if_neg g,B4a]
    by_cases c:y=x
    · subst c
      rw [if_pos rfl]
      have:l.lookup y=none:=by
        refine B54 fun p hp z=> g ?_
        exact List.any_eq_true.mpr ⟨p,hp,decide_eq_true z⟩
      rw [this]
      simp [List.lookup]
    · rw [if_neg c]
      simp [List.lookup,beq_eq_false_iff_ne.mpr c]
theorem C2w {x:Str} {w:W} {l:List (Str×W)}:(Q9 l x w).length≤l.length+1:=by
  unfold Q9
  split
  · rw [List.length_map];omega
  · simp
theorem Inv27.next {h:AH} {ss:List Int} {p b pw pl pc po pf:Addr} {es:List Ent} {fl:List (Str×W)} {x:Str} {sub:List Str} {ts:List Nat} {ds:List Dd} (hs:V3 ss) (I:Inv27 h ss p b pw pl pc po pf es fl) (xn:x∈A3t) (no:x∉es.map Ent.name) (hsub:∀y∈sub,y∈es.map Ent.name) (lsub:sub.length≤4) (lt:ts.length=sub.length) (ht:∀t∈ts,t≤2)
    (hd:∀d∈ds,d.ok ss) (ld:ds.length≤2) (tot:((List.zipWith St.call sub ts).flatMap (N7 es)).length≤190):
    Inv27 (B9 (B9 (B9 (B9 (B9 h pw (.cont (.map (smap ((es++[m7 es x ((List.zipWith St.call sub ts++ds.map St.deed).map Sw.good)]).map Ent.wr))))) pl (.cont (.map (smap ((es++[m7 es x ((List.zipWith St.call sub ts++ds.map St.deed).map Sw.good)]).map Ent.la))))) pc (.cont (.map (smap (es.map Ent.ca++[(x,.lst (sub.map W.str))]))))) pf (.cont (.map (smap (Q9 fl x (.lst (((List.zipWith St.call sub ts).flatMap (N7 es)).map Dd.w++ds.map Dd.w))))))) po (.cont (.seq ((es.map Ent.name).map W.str++[.str x])))) ss p b pw pl pc po pf (es++[m7 es x ((List.zipWith St.call sub ts++ds.map St.deed).map Sw.good)]) (Q9 fl x (.lst (((List.zipWith St.call sub ts).flatMap (N7 es)).map Dd.w++ds.map Dd.w))):=by
  have ne:m7 es x ((List.zipWith St.call sub ts++ds.map St.deed).map Sw.good)=⟨x,List.zipWith St.call sub ts++ds.map St.deed,(List.zipWith St.call sub ts).flatMap (N7 es)++ds⟩:=by
    unfold m7
    rw [A9m,List.flatMap_append]
    congr 2
    induction ds with
    | nil=> rfl
    | cons d ds ih=>
      rw [List.map_cons,List.flatMap_cons,ih (fun d hd'=> hd d (List.mem_cons_of_mem _ hd')) (by rw [List.length_cons] at ld;omega)]
      rfl
  have ec:i8 ⟨x,List.zipWith St.call sub ts++ds.map St.deed,(List.zipWith St.call sub ts).flatMap (N7 es)++ds⟩=sub:=by
    unfold i8
    show (List.zipWith St.call sub ts++ds.map St.deed).filterMap _=sub
    rw [List.filterMap_append,B4U sub ts lt]
    have:∀l:List Dd,(l.map St.deed).filterMap (fun s=> match s with | .call n _=> some n | .deed _=> none)=[]:=fun l=> by
      induction l with
      | nil=> rfl
      | cons d l ih=> rw [List.map_cons,List.filterMap_cons];exact ih
    rw [this ds,List.append_nil]
  rw [ne]
  have lz:(List.zipWith St.call sub ts).length≤4:=by rw [List.length_zipWith];omega
  have nd:=I.nd
  simp only [List.nodup_cons,List.mem_cons,List.not_mem_nil,or_false,not_or] at nd
  obtain ⟨⟨n1,n2,n3,n4,n5,n6⟩,⟨m1,m2,m3,m4,m5⟩,⟨o1,o2,o3,o4⟩,⟨q1,q2,q3⟩,⟨r1,r2⟩,s1,_⟩:=nd
  have mem:∀{P:Ent→Prop} {e0:Ent},(∀e∈es,P e)→P e0→∀e∈es++[e0],P e:=fun a b e he=> by
    rcases List.mem_append.mp he with h | h
    · exact a e h
    · rw [List.mem_singleton] at h;subst h;exact b
  refine ⟨⟨?_,?_,?_,I.bk.ne⟩,?_,?_,?_,?_,?_,?_,?_,?_,?_,I.nd⟩
  · rw [C1 m4,C1 m5,C1 m3,C1 m2,C1 m1];exact I.bk.ob
  · rw [C1 o3,C1 o4,C1 o2,C1 o1];exact M6
  · rw [C1 q2,C1 q3,C1 q1];exact M6
  · rw [C1 r1,C1 r2,M6,List.map_append]
    show _=some (AO.cont (.map (smap (es.map Ent.ca++[(x,.lst ((i8 _).map W.str))]))))
    rw [ec]
  · rw [M6,List.map_append,List.map_append]
    rfl
  · rw [C1 (Ne.symm s1),M6]
  · refine mem (fun e he=> ?_) ?_
    · have hne:e.name≠x:=fun z=> no (by rw [←z];exact List.mem_map_of_mem he)
      rw [B5V,if_neg hne]
      exact I.fd e he
    · show (Q9 fl x _).lookup x=_
      rw [B5V,if_pos rfl,List.map_append]
  · refine mem I.ok ⟨?_,?_⟩
    · show ((List.zipWith St.call sub ts).flatMap (N7 es)++ds).length≤200
      rw [List.length_append];omega
    · show (List.zipWith St.call sub ts++ds.map St.deed).length≤1000
      rw [List.length_append,List.length_map];omega
  · refine mem I.st fun s hs'=> ?_
    rcases List.mem_append.mp hs' with z | z
    · obtain ⟨y,t,rfl,_,h2⟩:=A75 z
      have:=ht t h2
      show t≤9
      omega
    · obtain ⟨d,hd',rfl⟩:=List.mem_map.mp z
      exact hd d hd'
  · refine mem I.dk fun d hd'=> ?_
    rcases List.mem_append.mp hd' with z | z
    · obtain ⟨s,hs',hd2⟩:=List.mem_flatMap.mp z
      obtain ⟨y,t,rfl,h1,h2⟩:=A75 hs'
      have hd2:d∈(List.replicate t (d0 es y)).flatten:=hd2
      obtain ⟨l,hl,hd3⟩:=List.mem_flatten.mp hd2
      rw [(List.mem_replicate.mp hl).2] at hd3
      unfold d0 at hd3
      cases q2:L6 es y with
      | none=> rw [q2] at hd3;cases hd3
      | some e2=> rw [q2] at hd3;exact I.dk e2 (A7Z q2) d hd3
    · exact hd d z
  · exact mem I.nm xn
  · rw [List.map_append,List.nodup_append]
    refine ⟨I.un,by simp,fun u hu v hv=> ?_⟩
    have hv:v=x:=by simpa using hv
    subst hv
    exact fun e=> no (e▸hu)
theorem C5S {ns:List Int} (hn:ns.length≤63) (h:AH) (Q:RR→AH→Prop) (E:AExc→AH→Prop) (q:∀h',Q (.val (.bl true)) h'):m_law [.lst (ns.map .int)] h Q E:=by
  show A5s _ h Q E
  unfold A5s
  conv=> fun;fun;fun;simp only [↓C38,↓C3H,↓u3,↓C27,↓C5g,↓C6F,↓A8f,↓A18,↓B5L,↓B0m,↓B0V,↓B69,↓B6L,↓C3G,↓C5d,↓C3,↓D8,↓F4,↓E5,↓G0,↓G5,↓A3B,↓m8,↓A8j,↓A7u,↓A8x,↓K7,↓K6,↓K8,↓S8,↓K4,↓A5j,↓W5,↓A0l,↓P6,↓U3,↓A3Y,↓W1,↓M1,↓R6,↓T2,↓A5l,↓C2,↓Q2,↓l8,↓A3Q,↓A73,↓A1P,↓U8,↓B1r,↓A2A,↓C6U,↓C1A,if_true,if_false,Bool.false_eq_true,List.length_cons,List.length_nil,G4,Nat.zero_add,Nat.reduceAdd,Nat.reduceLeDiff,↓C3n hn]
  intro p hp
  refine any_sizes_dr.call C2v (by omega) fun r h1 hr b1 t1=> ?_
  obtain ⟨ss,rfl,sz⟩:=hr
  have l1:=sz.1
  have l6:=sz.2.1
  conv=> fun;fun;fun;simp only [↓C2,↓P9]
  intro b nb
  obtain ⟨bo,bp⟩:∃o,h1 p=some o:=by obtain ⟨ns',i,x,m,c,e,_⟩:=b1;exact ⟨_,e⟩
  have pb:p≠b:=T4 bp nb
  refine C1D sz M6 fun pw pl h3 npw npl fr B0=> ⟨rfl,?_⟩
  have bpw:pw≠b:=Ne.symm (T4 M6 npw)
  have bpl:pl≠b:=Ne.symm (T4 M6 npl)
  rw [C1 bpw] at npw
  rw [C1 bpl] at npl
  have ppw:p≠pw:=T4 bp npw
  have ppl:p≠pl:=T4 bp npl
  have bp3:h3 p=some bo:=by rw [fr p pb ppw ppl,C1 pb];exact bp
  have b3:Bag (0+20) h3 p:=by
    obtain ⟨ns',i,x,m,c,e,r⟩:=b1
    exact ⟨ns',i,x,m,c,by rw [fr p pb ppw ppl,C1 pb];exact e,r⟩
  intro pc npc
  intro po npo
  intro pf npf
  have e1:p≠pc:=T4 bp3 npc
  have e2:b≠pc:=T4 B0.ob npc
  have e3:pw≠pc:=T4 B0.wr npc
  have e4:pl≠pc:=T4 B0.la npc
  have g1:pc≠po:=T4 M6 npo
  rw [C1 (Ne.symm g1)] at npo
  have g2:p≠po:=T4 bp3 npo
  have g3:b≠po:=T4 B0.ob npo
  have g4:pw≠po:=T4 B0.wr npo
  have g5:pl≠po:=T4 B0.la npo
  have k1:po≠pf:=T4 M6 npf
  rw [C1 (Ne.symm k1)] at npf
  have k2:pc≠pf:=T4 M6 npf
  rw [C1 (Ne.symm k2)] at npf
  have k3:p≠pf:=T4 bp3 npf
  have k4:b≠pf:=T4 B0.ob npf
  have k5:pw≠pf:=T4 B0.wr npf
  have k6:pl≠pf:=T4 B0.la npf
  have nd:[p,b,pw,pl,pc,po,pf].Nodup:=by
    simp only [List.nodup_cons,List.mem_cons,List.not_mem_nil,or_false,not_or,List.nodup_nil,and_true,not_false_eq_true]
    exact ⟨⟨pb,ppw,ppl,e1,g2,k3⟩,⟨Ne.symm bpw,Ne.symm bpl,e2,g3,k4⟩,⟨B0.ne,e3,g4,k5⟩,⟨e4,g5,k6⟩,⟨g1,k2⟩,k1⟩
  have I0:Inv27 (B9 (B9 (B9 h3 pc (.cont (.map (smap [])))) po (.cont (.seq []))) pf (.cont (.map (smap [])))) ss p b pw pl pc po pf [] []:=by
    refine ⟨⟨?_,?_,?_,B0.ne⟩,?_,?_,M6,fun e h=> (nomatch h),fun e h=> (nomatch h),fun e h=> (nomatch h),fun e h=> (nomatch h),fun e h=> (nomatch h),by simp,nd⟩
    · rw [C1 k4,C1 g3,C1 e2];exact B0.ob
    · rw [C1 k5,C1 g4,C1 e3];exact B0.wr
    · rw [C1 k6,C1 g5,C1 e4];exact B0.la
    · rw [C1 k2,C1 g1];exact M6
    · rw [C1 k1];exact M6
  have b4:Bag (0+20) (B9 (B9 (B9 h3 pc (.cont (.map (smap [])))) po (.cont (.seq []))) pf (.cont (.map (smap [])))) p:=((b3.off e1).off g2).off k3
  generalize B9 (B9 (B9 h3 pc (.cont (.map (smap [])))) po (.cont (.seq []))) pf (.cont (.map (smap [])))=h4 at I0 b4 ⊢
  clear e1 e2 e3 e4 g1 g2 g3 g4 g5 k1 k2 k3 k4 k5 k6 npf npc npo b3 bp3 fr npw npl bpw bpl ppw ppl
  refine (X7 (s:=8) (by omega) (by omega)).call b4 (by omega) fun r h5 hr b5 t5=> ?_
  obtain ⟨tn,rfl,tn0,tn1⟩:=hr
  have I5:=I0.bt t5
  conv=> fun;fun;fun;simp only [↓C2,↓P9,↓x8,↓o6]
  refine ⟨by omega,?_⟩
  refine B6S (fun ws _ h'=> ws.length≤15∧Bag ((16 - ws.length)*1000000) h' p∧∃es fl,Inv27 h' ss p b pw pl pc po pf es fl∧fl.length+ws.length≤15) (fun s h' _=> q _) (fun w ws s h' kn ⟨l,bg,es,fl,I,lf⟩ hk=> ?_) _ _ _ ⟨by rw [A05];omega,b5.le (by rw [A05];omega),[],[],I5,by rw [A05];simp;omega⟩
  rw [List.length_cons] at l bg lf
  have nd:=I.nd
  simp only [List.nodup_cons,List.mem_cons,List.not_mem_nil,or_false,not_or] at nd
  obtain ⟨⟨d1,d2,d3,d4,d5,d6⟩,_⟩:=nd
  generalize hm:(16 - (ws.length+1))*1000000=m at bg
  have hm2:m+1000000=(16 - ws.length)*1000000:=by omega
  refine (A5c (xs:=[.str "a",.str "ab",.str "b",.str "ba"]) (.inl rfl) (by simp) (by simp)).call bg (by omega) fun r h6 hr b6 t6=> ?_
  obtain ⟨w0,rfl,hw⟩:=hr
  obtain ⟨x,rfl,hx⟩:∃o,w0=W.str o∧o∈A3t:=by
    simp only [List.mem_cons,List.not_mem_nil,or_false] at hw
    rcases hw with rfl | rfl | rfl | rfl <;> exact ⟨_,rfl,by simp [A3t]⟩
  obtain ⟨xn,xl⟩:=C1W x hx
  have I6:=I.bt t6
  conv=> fun;fun;fun;simp only [↓C2,↓P9]
  refine B0c (fun _ h'=> Bag (m+1000000) h' p∧∃es fl,Inv27 h' ss p b pw pl pc po pf es fl∧fl.length+ws.length≤15) (fun _ h' ⟨b',es',fl',I',lf'⟩=> ?_) (fun kk hkk=> ?_)
  · have l4:=I'.l4
    rw [C4o I'.od2]
    conv=> fun;fun;fun;simp only [↓C2,↓A8P,List.length_map]
    rw [i4 I'.bk rfl]
    show A1r _ h' _ _
    rw [C2I I'.bk]
    refine ⟨_,I'.bk.ob,?_⟩
    rw [C5K I'.bk]
    have l12:es'.length≤12:=by omega
    refine ⟨_,rfl,by omega,by omega,?_⟩
    refine ⟨_,I'.bk.ob,?_⟩
    rw [C3N l12 I'.bk]
    refine ⟨_,rfl,?_⟩
    obtain ⟨r1,r2,r3,r4⟩:=B5d es'.length l12
    show cb A1N [.val (.int _)] _ h' Q E
    conv=> fun;fun;fun;simp only [↓C2,↓Q2,↓A3k,↓C5m,G4,C5J,A3k,P9]
    refine ⟨r2,C3z _ l12,C3F _ l12,?_⟩
    show m__law_same 8 _ h' _ _
    refine C1B (d:=6) rfl (Nat.le_of_ble_eq_true rfl) (fun i hi Q' E' z=> ?_) ?_
    · match i,hi with
      | 0,_=> exact C1i (d:=5) I'.od2 (by rw [List.length_map];omega) (fun x hx=> by obtain ⟨e,_,rfl⟩:=List.mem_map.mp hx;rfl) z
      | 1,_=> exact B0j (d:=6) rfl z
      | 2,_=>
        show m__law_same 7 [.str (A5V es'.length),.str (Str.ofString "Book("++Str.ofString (toString (es'.length:Int))++Str.ofString " rounds)")] h' Q' E'
        unfold A5V
        rw [C3g]
        exact B0j (d:=6) rfl z
    conv=> fun;fun;fun;simp only [↓P9,↓F0,if_false,Bool.not_true,Bool.false_eq_true,P9]
    rw [A5f I'.od2]
    refine B4n (fun e:Ent=> W.str e.name) I'.od2 es' (fun e he kn kb hkn=> ?_) ?_
    · rw [A5f I'.od2]
      rw [A5Y (fun e:Ent=> W.str e.name) (fun e2=> if e2.steps.any (Q8 e.name)=true then some (W.str e2.name) else none) I'.od2 es' [] (fun e2 he2 kk=> ?_) (by simp [G4];omega),List.nil_append]
      · rw [i4 I'.bk rfl]
        refine ⟨⟨rfl,rfl⟩,?_⟩
        show j9 [.ref b,.str e.name] h' _ _
        refine B3t sz I'.hg (by omega) I'.bk (A3O I'.un he) ?_
        show Y3 _ _ _ _ h' Q E
        rw [i4 I'.bk rfl]
        show A1s [.ref b,.str e.name] h' _ _
        rw [C33 I'.bk (A3O I'.un he)]
        show A26 _ _ _ h' Q E
        rw [A2l I'.ft (I'.fd e he)]
        show m__law_same 8 _ h' _ _
        rw [B5Q]
        exact B0j (d:=7) (w:= .lst [.lst ((U7 es' e.name).map W.str),.lst (e.deeds.map Dd.w)]) (C1Z sz (I'.ok e he).1 (I'.dk e he) (by have z:=B9n (es:=es') (x:=e.name);omega)) hkn
      · rw [A2l I'.ca (by rw [A3Z,A3O I'.un he2];rfl)]
        rw [A81 (xs:=(i8 e2).map W.str) (sp O4) (fun _=> rfl) (fun z hz=> by obtain ⟨s,hs',rfl⟩:=List.mem_map.mp hz;rfl)]
        rw [show decide ((SV.val (W.str e.name)).fz∈(i8 e2).map W.str)=e2.steps.any (Q8 e.name) from A9x]
        cases e2.steps.any (Q8 e.name) <;> rfl
    · exact hk () h' ⟨by omega,by rw [←hm2];exact b',es',fl',I',lf'⟩
  · refine C0q I6.ca b6 (by omega) (fun h7 b7 t7=> ?_) (fun h7 no b7 t7=> ?_)
    · have I7:=I6.bt t7
      have l4:=I7.l4
      show A1q _ h7 _ _
      rw [C0u I7.ca I7.un (by omega)]
      refine C1U sz I7.hg (by omega) I7.bk ?_
      simp only [P9,C2]
      have pt:SV.pl (.val (.tup [.non,.str (f9 es x)])):=⟨1,by omega,rfl⟩
      rw [A6L pt pt,decide_eq_true rfl]
      simp only [Bool.not_true,Bool.false_eq_true,if_false]
      refine B0c (fun _ h'=> Bag (m+1000) h' p∧∃es',Inv27 h' ss p b pw pl pc po pf es' fl∧(f9 es x=("in use":Str)→es'=es)) (fun _ h8 ⟨b8,es',I8,inu⟩=> ?_) (fun kj hkj=> ?_)
      · have l48:=I8.l4
        have fin:=hkk () h8 ⟨b8.le (by omega),es',fl,I8,by omega⟩
        rw [A5f I8.od2]
        rw [A5Y (fun e:Ent=> W.str e.name) (fun e2=> if e2.steps.any (Q8 x)=true then some (W.str e2.name) else none) I8.od2 es' [] (fun e2 he2 kk=> ?_) (by simp [G4];omega),List.nil_append]
        · rw [B5Q]
          by_cases u:f9 es x=("in use":Str)
          · rw [Y2 (sp O4) (sp O4),decide_eq_true (show (SV.val (W.str (f9 es x))).fz=(SV.val (W.str (Str.ofString "in use"))).fz from congrArg W.str u)]
            simp only [if_true]
            obtain rfl:=inu u
            have hth:(L6 es' x).isSome=true:=by
              unfold f9 at u
              by_cases z:(L6 es' x).isSome=true
              · exact z
              · rw [if_neg z] at u
                exact absurd u (by rw [k9];decide)
            have hin:inU es' x=true:=by
              unfold f9 at u
              rw [if_pos hth] at u
              by_cases z:inU es' x=true
              · exact z
              · rw [if_neg z] at u
                exact absurd u (by rw [k9];decide)
            have hne:=inU_callers.mp hin
            match hc:U7 es' x,hne with
            | c::r,_=>
              show A1n _ h8 _ _
              refine C1l sz I8.hg (by omega) I8.bk hth hc ?_
              show V5 (W.str c::r.map W.str) 0 _ h8 Q E
              rw [n9]
              show (D4 (D6 true) (.val (.str c)) (.val (.str c)) _) h8 Q E
              rw [A6L (sp O4) (sp O4),decide_eq_true rfl]
              exact fin
          · rw [Y2 (sp O4) (sp O4),decide_eq_false (fun z=> u (by injection z))]
            exact fin
        · rw [C39 I8.ca,C1k I8.ca,A3Z,A3O I8.un he2]
          show (D4 (O7 false) (.val (.str x)) (.val (.lst ((i8 e2).map W.str))) _) h8 Q E=_
          rw [A81 (xs:=(i8 e2).map W.str) (sp O4) (fun _=> rfl) (fun z hz=> by obtain ⟨s,hs',rfl⟩:=List.mem_map.mp hz;rfl)]
          rw [show decide ((SV.val (W.str x)).fz∈(i8 e2).map W.str)=e2.steps.any (Q8 x) from A9x]
          cases e2.steps.any (Q8 x) <;> rfl
      · by_cases u:f9 es x=("":Str)
        · have hth:(L6 es x).isSome=true:=by
            unfold f9 at u
            by_cases z:(L6 es x).isSome=true
            · exact z
            · rw [if_neg z] at u
              exact absurd u (by rw [k9];decide)
          have hin:¬inU es x=true:=fun z=> by
            unfold f9 at u
            rw [if_pos hth,if_pos z] at u
            exact absurd u (by rw [k9];decide)
          have hc:U7 es x=[]:=by
            cases q:U7 es x with
            | nil=> rfl
            | cons y r=> exact absurd (inU_callers.mpr (by rw [q];exact List.cons_ne_nil _ _)) hin
          obtain ⟨e1,q1⟩:=Option.isSome_iff_exists.mp hth
          have de:l7 es x=none:=by unfold l7;rw [q1];simp only [hc]
          have nd:=I.nd
          simp only [List.nodup_cons,List.mem_cons,List.not_mem_nil,or_false,not_or] at nd
          obtain ⟨⟨n1,n2,n3,n4,n5,n6⟩,⟨m1,m2,m3,m4,m5⟩,⟨o1,o2,o3,o4⟩,⟨q1',q2,q3⟩,⟨r1,r2⟩,s1,_⟩:=nd
          unfold A8I
          rw [de]
          have hca:(B9 (B9 h7 pw (.cont (.map (smap ((X9 es x).map Ent.wr))))) pl (.cont (.map (smap ((X9 es x).map Ent.la))))) pc=some (.cont (.map (smap (es.map Ent.ca)))):=by
            rw [C1 (Ne.symm q1'),C1 (Ne.symm o2)];exact I7.ca
          have hod:(B9 (B9 (B9 h7 pw (.cont (.map (smap ((X9 es x).map Ent.wr))))) pl (.cont (.map (smap ((X9 es x).map Ent.la))))) pc (.cont (.map (smap (W4 (es.map Ent.ca) x))))) po=some (.cont (.seq ((es.map Ent.name).map W.str))):=by
            rw [C1 (Ne.symm r1),C1 (Ne.symm q2),C1 (Ne.symm o3)];exact I7.od
          have hm:x∈es.map Ent.name:=by
            have z:=List.find?_some q1
            rw [←eq_of_beq z]
            exact List.mem_map_of_mem (A7Z q1)
          rw [Y2 (sp O4) (sp O4),decide_eq_true (show (SV.val (W.str (f9 es x))).fz=(SV.val (W.str (Str.ofString ""))).fz from congrArg W.str u)]
          simp only [if_true]
          rw [C3r hca,B0G hca (by rw [A3Z,q1];rfl),C3P hod hm (fun K=> by simp only [↓C3,↓E5,↓G0,↓G5,↓C2])]
          refine hkj () _ ⟨(((b7.off n2).off n3).off n4).off n5 |>.le (by omega),_,I7.drop,fun z=> ?_⟩
          rw [u] at z
          exact absurd z (by rw [k9];decide)
        · have de:∃e,l7 es x=some e:=by
            cases q:l7 es x with
            | some e=> exact ⟨e,rfl⟩
            | none=>
              have z:=B4y (es:=es) (x:=x)
              unfold A8d at z
              rw [q] at z
              exact absurd z.symm u
          obtain ⟨e,de⟩:=de
          unfold A8I
          rw [de,Y2 (sp O4) (sp O4),decide_eq_false (fun z=> u (by injection z))]
          exact hkj () _ ⟨b7.le (by omega),es,I7,fun _=> rfl⟩
    · have I7:=I6.bt t7
      have l4:=I7.l4
      have no':x∉es.map Ent.name:=by
        rw [A3Z,Option.map_eq_none_iff] at no
        exact C2V no
      rw [A5f I7.od]
      refine B0h (ok:=fun g=> g po=some (.cont (.seq ((es.map Ent.name).map W.str)))) (fun t o=> (t po (Ne.symm d5)).trans o) (es.map Ent.name) [] _ h7 I7.od b7 (by rw [List.length_map];omega) (by rw [List.length_map];simp;omega) fun sub h8 hsub lsub b8 t8=> ?_
      rw [List.nil_append]
      rw [List.length_map] at lsub b8
      have I8:=I7.bt t8
      refine (C4v (taps:=true) sz (by omega) (by omega)).call b8 (by omega) fun r h9 hr b9 t9=> ?_
      obtain ⟨ds,rfl,ld,hd⟩:=hr
      have hd:=fun d h=> (hd d h).1
      have I9:=I8.bt t9
      refine B4r sub [] _ h9 b9 (by omega) (by simp;omega) fun ts h10 lts hts b10 t10=> ?_
      have I10:=I9.bt t10
      rw [List.nil_append]
      generalize hg:List.zipWith St.call sub ts=gs
      have lg:gs.length=sub.length:=by rw [←hg,List.length_zipWith];omega
      have gc:∀s∈gs,∃n t,s= .call n t∧n∈es.map Ent.name∧t≤2:=fun s hs'=> by
        rw [←hg] at hs'
        obtain ⟨y,t,e,h1,h2⟩:=A75 hs'
        exact ⟨y,t,e,hsub y h1,hts t h2⟩
      conv=> fun;fun;fun;simp only [↓C2,↓Q2,↓A3k,↓C3m,↓B1d,↓C4j,List.length_map,G4,A3k]
      have l20:gs.length≤4:=by omega
      refine ⟨by omega,?_⟩
      rw [show (some (↑sub.length:Int))=some ((gs.length:Nat):Int) by rw [lg],A8G,List.take_left' (by rw [List.length_map])]
      show A1k [.ref pf,.lst (gs.map St.w)] h10 _ _
      rw [B9P I10.ft I10.fd I10.ok gc (by omega)]
      show cb D2 [.val (.lst _)] _ h10 Q E
      conv=> fun;fun;fun;simp only [↓C2,↓Q2,↓P9,↓F0,↓B2E,↓C3l,↓A2A,decide_eq_true_eq,List.length_map,G4,List.length_map]
      by_cases tt:(190:Int) < ((gs.flatMap (N7 es)).length:Int)
      · rw [if_pos tt]
        exact hk () h10 ⟨by omega,by rw [←hm2];exact b10.le (by omega),es,fl,I10,by omega⟩
      · rw [if_neg tt]
        have tot:(gs.flatMap (N7 es)).length≤190:=by omega
        rw [i4 I10.bk rfl]
        refine ⟨⟨rfl,rfl⟩,?_⟩
        have ew:gs.map St.w++ds.map Dd.w=((gs++ds.map St.deed).map Sw.good).map Sw.w:=by
          rw [List.map_append,List.map_append,List.map_map,List.map_map,List.map_map]
          rfl
        have gg:B60 ss es (gs++ds.map St.deed):=fun s hs'=> by
          rcases List.mem_append.mp hs' with z | z
          · obtain ⟨n,t,rfl,h1,h2⟩:=gc s z
            exact ⟨h1,by omega⟩
          · obtain ⟨d,hd',rfl⟩:=List.mem_map.mp z
            exact hd d hd'
        have gok:∀y∈(gs++ds.map St.deed).map Sw.good,y.ok ss:=fun y hy=> by
          obtain ⟨s,hs',rfl⟩:=List.mem_map.mp hy
          rcases List.mem_append.mp hs' with z | z
          · obtain ⟨n,t,rfl,h1,h2⟩:=gc s z
            show t≤9
            omega
          · obtain ⟨d,hd',rfl⟩:=List.mem_map.mp z
            exact hd d hd'
        have ld2:ds.length≤2:=by omega
        have lw:((gs++ds.map St.deed).map Sw.good).length≤1000:=by rw [List.length_map,List.length_append,List.length_map];omega
        have tw:((gs++ds.map St.deed).map (j4 es)).sum≤200:=by
          have e1:((gs++ds.map St.deed).map (j4 es))=(gs++ds.map St.deed).map fun s=> (N7 es s).length:=List.map_congr_left fun s _=> (B5I es s).symm
          rw [e1,←List.length_flatMap,List.flatMap_append,List.length_append]
          have e2:=B43 (es:=es) ds
          omega
        show A1l [.ref b,.str x,.tup (gs.map St.w++ds.map Dd.w)] h10 _ _
        rw [C2c (xs:=(gs++ds.map St.deed).map Sw.good) xl sz I10.ok gok lw (.inr (.inl (by rw [ew]))) (fun a z=> by cases z) I10.bk,C0i xn no' (by omega) gg tw]
        have nd:=I.nd
        simp only [List.nodup_cons,List.mem_cons,List.not_mem_nil,or_false,not_or] at nd
        obtain ⟨⟨n1,n2,n3,n4,n5,n6⟩,⟨m1,m2,m3,m4,m5⟩,⟨o1,o2,o3,o4⟩,⟨q1',q2,q3⟩,⟨r1,r2⟩,s1,_⟩:=nd
        have nca:(es.map Ent.ca).lookup x=none:=no
        have I11:=Inv27.next (x:=x) (sub:=sub) (ts:=ts) (ds:=ds) sz I10 hx no' hsub (by omega) lts hts hd ld2 (by rw [hg];exact tot)
        rw [hg] at I11
        have hca:(B9 (B9 h10 pw (.cont (.map (smap ((es++[m7 es x ((gs++ds.map St.deed).map Sw.good)]).map Ent.wr))))) pl (.cont (.map (smap ((es++[m7 es x ((gs++ds.map St.deed).map Sw.good)]).map Ent.la))))) pc=some (.cont (.map (smap (es.map Ent.ca)))):=by
          rw [C1 (Ne.symm q1'),C1 (Ne.symm o2)];exact I10.ca
        show (D4 (N5 true) (.val .non) (.val .non) _) _ Q E
        conv=> fun;fun;fun;simp only [↓F0,↓A94,if_false,Bool.false_eq_true]
        refine ⟨by omega,?_⟩
        rw [A7m hca (by rw [List.length_map,G4];omega),A93 nca]
        have hft:(B9 (B9 (B9 h10 pw (.cont (.map (smap ((es++[m7 es x ((gs++ds.map St.deed).map Sw.good)]).map Ent.wr))))) pl (.cont (.map (smap ((es++[m7 es x ((gs++ds.map St.deed).map Sw.good)]).map Ent.la))))) pc (.cont (.map (smap (es.map Ent.ca++[(x,.lst (sub.map W.str))]))))) pf=some (.cont (.map (smap fl))):=by
          rw [C1 (Ne.symm r2),C1 (Ne.symm q3),C1 (Ne.symm o4)];exact I10.ft
        rw [A7m hft (by rw [G4];omega)]
        have hod:(B9 (B9 (B9 (B9 h10 pw (.cont (.map (smap ((es++[m7 es x ((gs++ds.map St.deed).map Sw.good)]).map Ent.wr))))) pl (.cont (.map (smap ((es++[m7 es x ((gs++ds.map St.deed).map Sw.good)]).map Ent.la))))) pc (.cont (.map (smap (es.map Ent.ca++[(x,.lst (sub.map W.str))]))))) pf (.cont (.map (smap (Q9 fl x (.lst ((gs.flatMap (N7 es)).map Dd.w++ds.map Dd.w))))))) po=some (.cont (.seq ((es.map Ent.name).map W.str))):=by
          rw [C1 s1,C1 (Ne.symm r1),C1 (Ne.symm q2),C1 (Ne.symm o3)];exact I10.od
        rw [C28 hod (by rw [List.length_map,List.length_map,G4];omega) (w:= .str x) (fun K=> by simp only [↓C3,↓E5,↓G0,↓G5,↓C2])]
        have sl:=C2w (x:=x) (w:= .lst ((gs.flatMap (N7 es)).map Dd.w++ds.map Dd.w)) (l:=fl)
        refine hkk () _ ⟨((((b10.off n2).off n3).off n4).off n6).off n5 |>.le (by omega),_,_,I11,by omega⟩
theorem law_says:∀ns:List Int,ns.length≤63→upc m_law [W.lst (ns.map .int)] (fun _=> none) (fun r _=> r= .val (.bl true)) fun _ _=> False:=fun ns h=> ⟨_,_,fun _ _ z=> z,fun _ _ z=> z,C5S h _ _ _ fun _=> rfl⟩
end Ab
namespace Ab
open PySem PySem.Spec PyProof.Rows L2 RZ
def A6v (E:AExc→A0→AH→Prop):C0:=
  (aSeq (L5 (aNotT (aTst (aChn (fun i j=> decide (i≤j)) (fun i j=> decide (i≤j)) (aC (.int 1)) (aCB D2 (D9 (aVar 0) F5)) (aC (.int 6))))) (u2 E "BadSizes" "bad sizes" ["cask"] (aCons (aFz (A6N (aC (.int 1)))) aNil)) M4) (A3H (iEn (aFz (aVar 0))) (gTp 2 (R5 (G7 1) (R5 (G7 2) A0A))) (L5 (aNotT (aTst (aChn (fun i j=> decide (i≤j)) (fun i j=> decide (i≤j)) (aC (.int 1)) (aVar 2) (aC (.int 40))))) (u2 E "BadSizes" "bad sizes" ["cask"] (aCons (aFz (aVar 1)) aNil)) M4)))
def A7F (E:AExc→A0→AH→Prop):C0:=
  (G6 (aIfE (aTst (aOp2 (O7 false) (aVar 0) (aC (.tup [.str ("over":Str),.str ("down":Str)])))) (aChn (fun i j=> decide (i≤j)) (fun i j=> decide (i≤j)) (aC (.int 4)) (aVar 1) (aOp2 oAdd (aC (.int 2)) (aVar 2))) (aOp2 (D6 false) (aVar 1) (aC (.int 3)))))
def A7D (E:AExc→A0→AH→Prop):C0:=
  (aSeq (A3H (iEn (aFz (aVar 0))) (gTp 2 (R5 (G7 3) (R5 (G7 4) A0A))) (L5 (aOrT (aNotT (aTst (aChn (fun i j=> decide (i≤j)) (fun i j=> decide (i < j)) (aC (.int 0)) (aVar 4) (aVar 2)))) (aTst (aOp2 (O7 false) (aVar 4) (aSl (aVar 0) A3f (A3w (aVar 3)))))) (G6 (aOp2 oAdd (aVar 1) (aVar 3))) M4)) (G6 (aC .non)))
def A7S (E:AExc→A0→AH→Prop):C0:=
  (aSeq (L5 (aOrT (aTst (aOp2 (D6 false) (aCB D2 (D9 (aVar 1) F5)) (aC (.int 0)))) (aTst (aOp2 (O7 true) (aOp2 oIx (aVar 1) (aC (.int 0))) (aOp2 oAdd (aC (.tup [.str ("over":Str),.str ("down":Str)])) (aC (.tup [.str ("swap":Str),.str ("tap":Str),.str ("drain":Str)])))))) (G6 (aC (.int 0))) M4) (aSeq (L5 (aNotT (aTst (aCall E (upc A2h) (aCons (aFz (aOp2 oIx (aVar 1) (aC (.int 0)))) (aCons (aFz (aCB D2 (D9 (aVar 1) F5))) (aCons (aFz (aCB D2 (D9 (aVar 0) F5))) aNil)))))) (G6 (A6N (aC (.int 1)))) M4) (aSeq (aStar 2 3 (aFz (aVar 1))) (aSeq (L5 (aTst (aOp2 (D6 false) (aVar 2) (aC (.str ("swap":Str))))) (aSeq (aFrz 3 (L1 (aFz (aCall E (upc A0P) (aCons (aFz (aVar 3)) (aCons (aFz (aC (.int 1))) (aCons (aFz (aCB D2 (D9 (aVar 0) F5))) aNil))))) (G7 4))) (aSeq (L5 (aTst (aOp2 (N5 true) (aVar 4) (aC .non))) (G6 (aVar 4)) M4) (G6 (aIfE (aTst (aOp2 (D6 false) (aOp2 oIx (aVar 0) (aOp2 oIx (aVar 3) (aC (.int 0)))) (aOp2 oIx (aVar 0) (aOp2 oIx (aVar 3) (aC (.int 1)))))) (aC .non) (aC (.int 2)))))) M4) (aSeq (aFrz 3 (aStar 5 6 (aFz (aVar 3)))) (aSeq (L5 (aNotT (aTst (aChn (fun i j=> decide (i≤j)) (fun i j=> decide (i < j)) (aC (.int 0)) (aVar 5) (aC (.int 1000000000000000000000000000000))))) (G6 (aC (.int 1))) M4) (aFrz 6 (G6 (aCall E (upc A0P) (aCons (aFz (aVar 6)) (aCons (aFz (aC (.int 2))) (aCons (aFz (aCB D2 (D9 (aVar 0) F5))) aNil))))))))))))
def A7Y (E:AExc→A0→AH→Prop):C0:=
  (G6 (A1Q (aChn (fun i j=> decide (i≤j)) (fun i j=> decide (i≤j)) (aC (.int 1)) (aCB D2 (D9 (aVar 0) F5)) (aC (.int 8))) (aCB A3J (D9 (W8 [1] (B2N (aVar 0)) (G7 1) o9 (aFz (aOp2 (oInS false) (aVar 1) (aC (.str ("abcdefghijklmnopqrstuvwxyz":Str)))))) F5))))
def A7X (E:AExc→A0→AH→Prop):C0:=
  (G6 (A1Q (aOp2 oGt (aCB D2 (D9 (aVar 0) F5)) (aC (.int 0))) (aOp2 (D6 false) (aOp2 oIx (aVar 0) (aC (.int 0))) (aC (.str ("call":Str))))))
def A68 (E:AExc→A0→AH→Prop):C0:=
  (aSeq (L5 (aTst (aOp2 (D6 true) (aCB D2 (D9 (aVar 0) F5)) (aC (.int 3)))) (G6 (A6N (aC (.int 1)))) M4) (G6 (aIfE (aTst (aChn (fun i j=> decide (i≤j)) (fun i j=> decide (i≤j)) (aC (.int 0)) (aOp2 oIx (aVar 0) (aC (.int 2))) (aC (.int 9)))) (aC .non) (aC (.int 2)))))
def A7I (E:AExc→A0→AH→Prop):C0:=
  (G6 (aLst (aCons (aFz (aCB Q4 (D9 (aSl (aVar 0) A3f (A3w (aC (.int 63)))) F5))) (aCons (aFz (aC (.int 0))) (aCons (aFz (aC (.int 0))) (aCons (aFz (aC (.int 9465))) (aCons (aFz (aC (.int 0))) aNil)))))))
def A7C (E:AExc→A0→AH→Prop):C0:=
  (aSeq (L5 (aAndT (aTst (aOp2 oLt (aOp2 oIx (aVar 0) (aC (.int 2))) (aVar 1))) (aTst (aOp2 oLt (aOp2 oIx (aVar 0) (aC (.int 1))) (aCB D2 (D9 (aOp2 oIx (aVar 0) (aC (.int 0))) F5))))) (aSeq (L1 (aFz (aOp2 oIx (aOp2 oIx (aVar 0) (aC (.int 0))) (aOp2 oIx (aVar 0) (aC (.int 1))))) (G7 2)) (aSeq (L1 (aFz (aOp2 oAdd (aOp2 oIx (aVar 0) (aC (.int 1))) (aC (.int 1)))) (A1U (aVar 0) (aC (.int 1)))) (aSeq (L1 (aFz (aC (.int 0))) (A1U (aVar 0) (aC (.int 2)))) (L5 (aTst (aOp2 oGe (aVar 2) (aOp2 A2R (aC (.int 10)) (aC (.int 18))))) (L1 (aFz (aVar 2)) (A1U (aVar 0) (aC (.int 2)))) (L1 (aFz (aOp2 T0 (aOp2 oAdd (aOp2 oAdd (aOp2 oMulT (aOp2 oIx (aVar 0) (aC (.int 3))) (aC (.int 48271))) (aOp2 oMulT (aOp2 T0 (aVar 2) (aC (.int 2147483629))) (aC (.int 69621)))) (aC (.int 12345))) (aC (.int 2147483647)))) (A1U (aVar 0) (aC (.int 3)))))))) M4) (aSeq (L5 (aTst (aOp2 oGe (aOp2 oIx (aVar 0) (aC (.int 2))) (aVar 1))) (aSeq (L1 (aFz (aOp2 T0 (aOp2 oIx (aVar 0) (aC (.int 2))) (aVar 1))) (G7 3)) (aSeq (L1 (aFz (aOp2 o5 (aOp2 oIx (aVar 0) (aC (.int 2))) (aVar 1))) (A1U (aVar 0) (aC (.int 2)))) (G6 (aVar 3)))) M4) (aSeq (L1 (aFz (aOp2 oAdd (aOp2 oIx (aVar 0) (aC (.int 4))) (aC (.int 1)))) (A1U (aVar 0) (aC (.int 4)))) (aSeq (L1 (aFz (aOp2 oIx (aVar 0) (aC (.int 3)))) (G7 4)) (aSeq (L1 (aFz (aOp2 T0 (aOp2 oAdd (aOp2 oAdd (aOp2 oAdd (aOp2 oMulT (aOp2 T0 (aOp2 oMulT (aVar 4) (aVar 4)) (aC (.int 2147483629))) (aC (.int 5))) (aOp2 oMulT (aVar 4) (aC (.int 16811)))) (aOp2 oMulT (aC (.int 7919)) (aOp2 oIx (aVar 0) (aC (.int 4))))) (aC (.int 2531011))) (aC (.int 2147483647)))) (A1U (aVar 0) (aC (.int 3)))) (G6 (aOp2 T0 (aOp2 oAdd (aOp2 o5 (aOp2 oIx (aVar 0) (aC (.int 3))) (aC (.int 61))) (aOp2 oMulT (aOp2 T0 (aOp2 oIx (aVar 0) (aC (.int 3))) (aC (.int 8191))) (aC (.int 31)))) (aVar 1))))))))
def A7E (E:AExc→A0→AH→Prop):C0:=
  (G6 (aOp2 oIx (aVar 1) (aCall E (upc E8) (aCons (aFz (aVar 0)) (aCons (aFz (aCB D2 (D9 (aVar 1) F5))) aNil)))))
def A7K (d:Nat) (E:AExc→A0→AH→Prop):C0:=
  (aSeq (L5 (aTst (aOp2 (N5 false) (aVar 1) (aC .non))) (G6 (aOp2 (N5 false) (aVar 0) (aC .non))) M4) (aSeq (L5 (aTst (aCB F6 (D9 (aVar 1) (D9 (aC (.ty "bool")) F5)))) (G6 (A1Q (aCB F6 (D9 (aVar 0) (D9 (aC (.ty "bool")) F5))) (aOp2 (D6 false) (aVar 0) (aVar 1)))) M4) (aSeq (L5 (aTst (aCB F6 (D9 (aVar 1) (D9 (aC (.ty "int")) F5)))) (G6 (A1Q (aCB F6 (D9 (aVar 0) (D9 (aC (.ty "int")) F5))) (A1Q (B1W (aCB F6 (D9 (aVar 0) (D9 (aC (.ty "bool")) F5)))) (aOp2 (D6 false) (aVar 0) (aVar 1))))) M4) (aSeq (L5 (aTst (aCB F6 (D9 (aVar 1) (D9 (aC (.ty "str")) F5)))) (G6 (A1Q (aCB F6 (D9 (aVar 0) (D9 (aC (.ty "str")) F5))) (aOp2 (D6 false) (aVar 0) (aVar 1)))) M4) (aSeq (L5 (aOrT (aTst (aOp2 (D6 true) (aCB F6 (D9 (aVar 1) (D9 (aC (.ty "tuple")) F5))) (aCB F6 (D9 (aVar 0) (D9 (aC (.ty "tuple")) F5))))) (aTst (aOp2 (D6 true) (aCB F6 (D9 (aVar 1) (D9 (aC (.ty "list")) F5))) (aCB F6 (D9 (aVar 0) (D9 (aC (.ty "list")) F5)))))) (G6 (aC (.bl false))) M4) (aSeq (L5 (aTst (aOp2 (D6 true) (aCB D2 (D9 (aVar 0) F5)) (aCB D2 (D9 (aVar 1) F5)))) (G6 (aC (.bl false))) M4) (G6 (aCB A3J (D9 (W8 [2] (A2N (D9 (aCB D2 (D9 (aVar 1) F5)) F5)) (G7 2) o9 (aFz (aCall E0 (upc (m__law_same d)) (aCons (aFz (aOp2 oIx (aVar 0) (aVar 2))) (aCons (aFz (aOp2 oIx (aVar 1) (aVar 2))) aNil))))) F5)))))))))
def A4i (fl:Addr) (sp:G1) (E:AExc→A0→AH→Prop):C0:=
  (aSeq (L1 (aFz (aC .non)) (G7 1)) (aSeq (L1 (aFz (aC (.str ("":Str)))) (G7 2)) (aSeq (A6T ["BadName","BadRow","BadSizes","InUse","NoRound","NothingLeft","Taken","TooLong","TooMany"] [("HideError",3,2,(j5 "word")),("Missing",3,2,(j5 "word")),("NothingLeft",3,2,(j5 "word"))] E (fun E=> (L1 (aFz (B1y E 0 fl sp aNil)) (G7 1)))) (G6 (aTup (aCons (aFz (aVar 1)) (aCons (aFz (aVar 2)) aNil)))))))
def A7A (E:AExc→A0→AH→Prop):C0:=
  (G6 (aCB U4 (D9 (W8 [3] (A2N (D9 (aOp2 oAdd (aC (.int 1)) (aCall E (upc E8) (aCons (aFz (aVar 0)) (aCons (aFz (aVar 1)) aNil)))) F5)) (G7 3) o9 (aFz (aOp2 oAdd (aC (.int 1)) (aCall E0 (upc E8) (aCons (aFz (aVar 0)) (aCons (aFz (aVar 2)) aNil)))))) F5)))
def A6k (E:AExc→A0→AH→Prop):C0:=
  (G6 (aCall E (upc A2d) (aCons (aFz (aVar 0)) (aCons (aFz (aC (.int 6))) (aCons (aFz (aCall E (upc R4) (aCons (aFz (aVar 0)) (aCons (aFz (aLst (aCons (aFz (aC (.int 40))) (aCons (aFz (aC (.int 9))) (aCons (aFz (aC (.int 4))) (aCons (aFz (aC (.int 2))) aNil)))))) aNil)))) aNil)))))
def A64 (E:AExc→A0→AH→Prop):C0:=
  (aSeq (L1 (aFz (aLst (aCons (aFz (aC (.int 0))) (aCons (aFz (aC (.int 1))) (aCons (aFz (aC (.int 2))) (aCons (aFz (aC (.int 3))) (aCons (aFz (aOp2 oAdd (aC (.int 1)) (aCall E (upc E8) (aCons (aFz (aVar 0)) (aCons (aFz (aC (.int 9))) aNil))))) (aCons (aFz (aCall E (upc E8) (aCons (aFz (aVar 0)) (aCons (aFz (aC (.int 45))) aNil)))) (aCons (aFz (aOp2 A1a (aOp2 A2R (aC (.int 10)) (aC (.int 30))) (aC (.int 1)))) (aCons (aFz (aCall E (upc E8) (aCons (aFz (aVar 0)) (aCons (aFz (aOp2 A2R (aC (.int 10)) (aC (.int 30)))) aNil)))) aNil)))))))))) (G7 1)) (G6 (aCall E (upc R4) (aCons (aFz (aVar 0)) (aCons (aFz (aVar 1)) aNil)))))
def A6t (E:AExc→A0→AH→Prop):C0:=
  (aSeq (A3G 2 (aCB Q4 (D9 (aVar 1) F5))) (G6 (W8 [3] (iSq (aFz (aVar 1))) (G7 3) o9 (aFz (aLm A13 (aVar 2) (aCons (aFz (aCall E0 (upc E8) (aCons (aFz (aVar 0)) (aCons (aFz (aCB D2 (D9 (aVar 2) F5))) aNil)))) aNil))))))
def A6h (E:AExc→A0→AH→Prop):C0:=
  (G6 (aCB U4 (D9 (aSl (aCall E (upc A2a) (aCons (aFz (aVar 0)) (aCons (aFz (B1Z (aVar 1))) aNil))) A3f (A3w (aVar 2))) F5)))
def A66 (E:AExc→A0→AH→Prop):C0:=
  (aSeq (A3G 1 (aLst aNil)) (aSeq (A3H (A2N (D9 (aCB D2 (D9 (aVar 0) F5)) F5)) (G7 2) (aSeq (A2C 3 (W8 [4] (A2N (D9 (aCB D2 (D9 (aVar 0) F5)) F5)) (G7 4) (aAndT (aTst (aOp2 (D6 true) (aVar 4) (aVar 2))) (aTst (aOp2 (D6 false) (aOp2 oIx (aVar 0) (aVar 4)) (aOp2 oIx (aVar 0) (aVar 2))))) (aFz (aVar 4)))) (aFrz 3 (T6 (aExt (aVar 1) (W8 [4] (iSq (aFz (aVar 3))) (G7 4) o9 (aFz (aTup (aCons (aFz (aVar 2)) (aCons (aFz (aVar 4)) aNil)))))))))) (G6 (aVar 1))))
def A7G (E:AExc→A0→AH→Prop):C0:=
  (aSeq (L1 (aFz (aCall E (upc E8) (aCons (aFz (aVar 0)) (aCons (aFz (aC (.int 12))) aNil)))) (G7 4)) (aSeq (L1 (aFz (aCall E (upc A2c) (aCons (aFz (aVar 1)) aNil))) (G7 5)) (aSeq (L5 (aAndT (aTst (aOp2 (D6 false) (aVar 4) (aC (.int 0)))) (aTst (aOp2 (D6 true) (aVar 5) (aLst aNil)))) (G6 (aOp2 oAdd (aTup (aCons (aFz (aC (.str ("swap":Str)))) aNil)) (aCall E (upc R4) (aCons (aFz (aVar 0)) (aCons (aFz (aVar 5)) aNil))))) M4) (aSeq (L5 (aAndT (aTst (aOp2 oLt (aVar 4) (aC (.int 3)))) (aTst (aVar 3))) (G6 (aTup (aCons (aFz (aC (.str ("tap":Str)))) (aCons (aFz (aCall E (upc R4) (aCons (aFz (aVar 0)) (aCons (aFz (aLst (aCons (aFz (aC (.int 1))) (aCons (aFz (aC (.int 1))) (aCons (aFz (aC (.int 2))) (aCons (aFz (aC (.int 3))) (aCons (aFz (aVar 2)) aNil))))))) aNil)))) (aCons (aFz (aCall E (upc E8) (aCons (aFz (aVar 0)) (aCons (aFz (aCB D2 (D9 (aVar 1) F5))) aNil)))) aNil))))) M4) (aSeq (L5 (aOrT (aTst (aOp2 (D6 false) (aVar 4) (aC (.int 3)))) (aTst (aOp2 (D6 false) (aCB D2 (D9 (aVar 1) F5)) (aC (.int 1))))) (G6 (aTup (aCons (aFz (aC (.str ("drain":Str)))) (aCons (aFz (aVar 2)) (aCons (aFz (aCall E (upc E8) (aCons (aFz (aVar 0)) (aCons (aFz (aCB D2 (D9 (aVar 1) F5))) aNil)))) aNil))))) M4) (aSeq (L1 (aFz (aOp2 oAdd (aC (.int 2)) (aCall E (upc E8) (aCons (aFz (aVar 0)) (aCons (aFz (aOp2 A1a (aCB D2 (D9 (aVar 1) F5)) (aC (.int 1)))) aNil))))) (G7 6)) (aSeq (L1 (aFz (aOp2 oIx (aLst (aCons (aFz (aC (.str ("over":Str)))) (aCons (aFz (aC (.str ("down":Str)))) aNil))) (aOp2 o5 (aCall E (upc E8) (aCons (aFz (aVar 0)) (aCons (aFz (aC (.int 3))) aNil))) (aC (.int 2))))) (G7 7)) (G6 (aOp2 oAdd (aTup (aCons (aFz (aVar 7)) (aCons (aFz (aVar 2)) aNil))) (aCall E (upc A0H) (aCons (aFz (aVar 0)) (aCons (aFz (aCB D2 (D9 (aVar 1) F5))) (aCons (aFz (aVar 6)) aNil)))))))))))))
def A7M (E:AExc→A0→AH→Prop):C0:=
  (G6 (W8 [4] (A2N (D9 (aCall E (upc E8) (aCons (aFz (aVar 0)) (aCons (aFz (aOp2 oAdd (aVar 2) (aC (.int 1)))) aNil))) F5)) (G7 4) o9 (aFz (aCall E0 (upc A2f) (aCons (aFz (aVar 0)) (aCons (aFz (aVar 1)) (aCons (aFz (aCall E0 (upc A2b) (aCons (aFz (aVar 0)) aNil))) (aCons (aFz (aVar 3)) aNil))))))))
def A6x (E:AExc→A0→AH→Prop):C0:=
  (aSeq (L5 (aTst (aInM true (aFz (aVar 1)) (aVar 0))) (G6 (aC (.str ("no round":Str)))) M4) (G6 (aIfE (aTst (B0v 0 (aCB A6X (D9 (W8 [2] (B1I (aFz (aVar 0))) (G7 2) o9 (aFz (aOp2 (O7 false) (aVar 1) (aGetM (aVar 0) (aFz (aVar 2)))))) F5)))) (aC (.str ("in use":Str))) (aC (.str ("":Str))))))
def A6i (E:AExc→A0→AH→Prop):C0:=
  (aSeq (L1 (aFz (aLst aNil)) (G7 2)) (aSeq (A3H (iSq (aFz (aVar 1))) (G7 3) (L1 (aFz (aOp2 oAdd (aVar 2) (aOp2 oMulX (aGetM (aVar 0) (aFz (aOp2 oIx (aVar 3) (aC (.int 1))))) (aOp2 oIx (aVar 3) (aC (.int 2)))))) (G7 2))) (G6 (aVar 2))))
def A6n (E:AExc→A0→AH→Prop):C0:=
  (aSeq (L5 (aTst (aInM true (aFz (aVar 1)) (aFld "Book" "written" (aVar 0)))) (u2 E "NoRound" "no round" ["name"] (aCons (aFz (aVar 1)) aNil)) M4) (G6 (aGetM (aFld "Book" "written" (aVar 0)) (aFz (aVar 1)))))
def A6r (E:AExc→A0→AH→Prop):C0:=
  (aSeq (T6 (aMeth "Book" "there" E (upc T9) (aVar 0) (aCons (aFz (aVar 1)) aNil))) (aSeq (A3G 2 (aLst aNil)) (aSeq (B1H 0 "Book" "written" 3 4 (L5 (aTst (aCB A6X (D9 (W8 [5] (iSq (aFz (aVar 4))) (G7 5) o9 (aFz (A1Q (aCall E0 (upc N6) (aCons (aFz (aVar 5)) aNil)) (aOp2 (D6 false) (aOp2 oIx (aVar 5) (aC (.int 1))) (aVar 1))))) F5))) (T6 (aLm i6 (aVar 2) (aCons (aFz (aVar 3)) aNil))) M4)) (G6 (aVar 2)))))
def A65 (E:AExc→A0→AH→Prop):C0:=
  (aSeq (L1 (aFz (aMeth "Book" "callers" E (upc j9) (aVar 0) (aCons (aFz (aVar 1)) aNil))) (G7 2)) (aSeq (L5 (aTst (aOp2 (D6 true) (aVar 2) (aLst aNil))) (u2 E "InUse" "in use" ["name"] (aCons (aFz (aOp2 oIx (aVar 2) (aC (.int 0)))) aNil)) M4) (aSeq (A8b (aFld "Book" "written" (aVar 0)) (aFz (aVar 1))) (A8b (aFld "Book" "laid" (aVar 0)) (aFz (aVar 1))))))
def A6o (E:AExc→A0→AH→Prop):C0:=
  (aSeq (L1 (aFz (aC (.str ("none":Str)))) (G7 2)) (aSeq (A6T ["BadName","BadRow","BadSizes","InUse","NoRound","NothingLeft","Taken","TooLong","TooMany"] [("InUse",3,2,(j5 "name"))] E (fun E=> (T6 (aMeth "Book" "drop" E (upc X3) (aVar 0) (aCons (aFz (aVar 1)) aNil))))) (G6 (aVar 2))))
def A6l (E:AExc→A0→AH→Prop):C0:=
  (aSeq (T6 (aCall E (upc A2Z) (aCons (aFz (aVar 1)) aNil))) (aSeq (L1 (aFz (aVar 1)) (A6R "Book" "casks" (aVar 0))) (aSeq (L1 (aPrm A3r) (A6R "Book" "written" (aVar 0))) (L1 (aPrm A3r) (A6R "Book" "laid" (aVar 0))))))
def A6g (E:AExc→A0→AH→Prop):C0:=
  (aSeq (L5 (aNotT (aTst (aCall E (upc A2k) (aCons (aFz (aVar 1)) aNil)))) (u2 E "BadName" "bad name" [] aNil) M4) (aSeq (L5 (aTst (aInM false (aFz (aVar 1)) (aFld "Book" "written" (aVar 0)))) (u2 E "Taken" "taken" ["name"] (aCons (aFz (aVar 1)) aNil)) M4) (L5 (aTst (aOp2 oGe (aCB n8 (D9 (aFld "Book" "written" (aVar 0)) F5)) (aC (.int 12)))) (u2 E "TooMany" "too many" ["most"] (aCons (aFz (aC (.int 12))) aNil)) M4)))
def A6m (E:AExc→A0→AH→Prop):C0:=
  (aSeq (A3G 2 (aLst aNil)) (aSeq (A6C (iLive (aVar 1)) (G7 3) (L5 (aTst (aCall E (upc N6) (aCons (aFz (aVar 3)) aNil))) (T6 (aExt (aVar 2) (aOp2 oMulX (aGetM (aFld "Book" "laid" (aVar 0)) (aFz (aOp2 oIx (aVar 3) (aC (.int 1))))) (aOp2 oIx (aVar 3) (aC (.int 2)))))) (T6 (aLm i6 (aVar 2) (aCons (aFz (aVar 3)) aNil))))) (G6 (aVar 2))))
def A6f (E:AExc→A0→AH→Prop):C0:=
  (aSeq (L1 (aFz (aIfE (aTst (aCall E (upc N6) (aCons (aFz (aVar 2)) aNil))) (aCall E (upc A1t) (aCons (aFz (aVar 2)) aNil)) (aCall E (upc A1u) (aCons (aFz (aFld "Book" "casks" (aVar 0))) (aCons (aFz (aVar 2)) aNil))))) (G7 3)) (aSeq (L5 (aTst (aOp2 (N5 true) (aVar 3) (aC .non))) (u2 E "BadRow" "bad row" ["step","place"] (aCons (aFz (aVar 1)) (aCons (aFz (aVar 3)) aNil))) M4) (L5 (aTst (aCall E (upc N6) (aCons (aFz (aVar 2)) aNil))) (T6 (aMeth "Book" "there" E (upc T9) (aVar 0) (aCons (aFz (aOp2 oIx (aVar 2) (aC (.int 1)))) aNil))) M4)))
def A62 (E:AExc→A0→AH→Prop):C0:=
  (G6 (aCB u7 (D9 (A0D [2] (iLive (aVar 1)) (G7 2) o9 (aFz (aIfE (aTst (aCall E0 (upc N6) (aCons (aFz (aVar 2)) aNil))) (aOp2 oMulT (aOp2 oIx (aVar 2) (aC (.int 2))) (aCB D2 (D9 (aGetM (aFld "Book" "laid" (aVar 0)) (aFz (aOp2 oIx (aVar 2) (aC (.int 1))))) F5))) (aC (.int 1))))) F5)))
def A6p (E:AExc→A0→AH→Prop):C0:=
  (aSeq (T6 (aMeth "Book" "look_new" E (upc A1j) (aVar 0) (aCons (aFz (aVar 1)) aNil))) (aSeq (A6C (iLvE (aVar 2)) (gTp 2 (R5 (G7 3) (R5 (G7 4) A0A))) (T6 (aMeth "Book" "look_step" E (upc A1i) (aVar 0) (aCons (aFz (aVar 3)) (aCons (aFz (aVar 4)) aNil))))) (aSeq (L5 (aTst (aOp2 oGt (aMeth "Book" "length" E (upc A1p) (aVar 0) (aCons (aFz (aVar 2)) aNil)) (aC (.int 200)))) (u2 E "TooLong" "too long" ["most"] (aCons (aFz (aC (.int 200))) aNil)) M4) (aSeq (A8n (aFz (aCB Q4 (D9 (aVar 2) F5))) (aFld "Book" "written" (aVar 0)) (aFz (aVar 1))) (A8n (aFz (aMeth "Book" "laid_out" E (upc A1m) (aVar 0) (aCons (aFz (aVar 2)) aNil))) (aFld "Book" "laid" (aVar 0)) (aFz (aVar 1)))))))
def A63 (E:AExc→A0→AH→Prop):C0:=
  (G6 (aCB A1H (D9 (aFld "Book" "written" (aVar 0)) F5)))
def A6q (E:AExc→A0→AH→Prop):C0:=
  (G6 (aCB n8 (D9 (aFld "Book" "written" (aVar 0)) F5)))
def A6j (E:AExc→A0→AH→Prop):C0:=
  (G6 (B0F [(aC (.str ("Book(":Str))),(aFmt (aCB n8 (D9 (aFld "Book" "written" (aVar 0)) F5))),(aC (.str (" rounds)":Str)))]))
def A69 (E:AExc→A0→AH→Prop):C0:=
  (aSeq (T6 (aMeth "Book" "there" E (upc T9) (aVar 0) (aCons (aFz (aVar 1)) aNil))) (G6 (aCB Q4 (D9 (aGetM (aFld "Book" "laid" (aVar 0)) (aFz (aVar 1))) F5))))
def A8T (E:AExc→A0→AH→Prop):C0:=
  (aSeq (A3G 1 (aCall E (upc A2g) (aCons (aFz (aVar 0)) aNil))) (aSeq (A32 1 (L1 (aFz (aCall E (upc A2W) (aCons (aFz (aVar 1)) aNil))) (G7 2))) (aSeq (L1 (aFz (aLst (aCons (aFz (aC (.str ("a":Str)))) (aCons (aFz (aC (.str ("ab":Str)))) (aCons (aFz (aC (.str ("b":Str)))) (aCons (aFz (aC (.str ("ba":Str)))) aNil)))))) (G7 3)) (aSeq (L1 (aFz (aTup (aCons (aFz (aMake "Book" E (upc A2X) (aCons (aFz (aVar 2)) aNil))) (aCons (aPrm A3r) (aCons (aPrm (aLst aNil)) (aCons (aPrm A3r) aNil)))))) (gTp 4 (R5 (G7 4) (R5 (G7 5) (R5 (G7 6) (R5 (G7 7) A0A)))))) (aSeq (A3H (A2N (D9 (aOp2 oAdd (aC (.int 8)) (aCall E (upc E8) (aCons (aFz (aVar 1)) (aCons (aFz (aC (.int 8))) aNil)))) F5)) (G7 8) (aSeq (L1 (aFz (aCall E (upc R4) (aCons (aFz (aVar 1)) (aCons (aFz (aVar 3)) aNil)))) (G7 9)) (aSeq (L5 (aOrT (aTst (aInM false (aFz (aVar 9)) (aVar 5))) (aTst (aOp2 (D6 false) (aCall E (upc E8) (aCons (aFz (aVar 1)) (aCons (aFz (aC (.int 5))) aNil))) (aC (.int 0))))) (aSeq (L1 (aFz (aCall E (upc A1q) (aCons (aFz (aVar 5)) (aCons (aFz (aVar 9)) aNil)))) (G7 10)) (aSeq (L5 (aTst (aOp2 (D6 true) (A97 E 1 4 A4i (fun E=> (aMeth "Book" "drop" E (upc X3) (aVar 4) (aCons (aFz (aVar 9)) aNil))) (A7q aNil)) (aTup (aCons (aFz (aC .non)) (aCons (aFz (aVar 10)) aNil))))) (G6 (aC (.bl false))) M4) (aSeq (L5 (aTst (aOp2 (D6 false) (aVar 10) (aC (.str ("":Str))))) (aSeq (T6 (B1X (aVar 5) (aFz (aVar 9)))) (T6 (aLm A1V (aVar 6) (aCons (aFz (aVar 9)) aNil)))) M4) (aSeq (A2C 11 (A0D [12] (iLive (aVar 6)) (G7 12) (aTst (aOp2 (O7 false) (aVar 9) (aGetMD (aVar 5) (aFz (aVar 12)) (aFz (aLst aNil))))) (aFz (aVar 12)))) (L5 (aAndT (aTst (aOp2 (D6 false) (aVar 10) (aC (.str ("in use":Str))))) (aTst (aOp2 (D6 true) (aCall E (upc A1n) (aCons (aFz (aVar 4)) (aCons (aFz (aVar 9)) aNil))) (aOp2 oIx (aVar 11) (aC (.int 0)))))) (G6 (aC (.bl false))) M4))))) (aSeq (A2C 13 (A0D [12] (iLive (aVar 6)) (G7 12) (aTst (aOp2 (D6 false) (aCall E0 (upc E8) (aCons (aFz (aVar 1)) (aCons (aFz (aC (.int 2))) aNil))) (aC (.int 0)))) (aFz (aVar 12)))) (aSeq (L1 (aFz (aCall E (upc A2j) (aCons (aFz (aVar 1)) (aCons (aFz (aVar 2)) (aCons (aFz (aC (.int 2))) (aCons (aFz (aC (.bl true))) aNil)))))) (G7 14)) (aSeq (aFrz 13 (L1 (aFz (aOp2 oAdd (W8 [12] (iSq (aFz (aVar 13))) (G7 12) o9 (aFz (aTup (aCons (aFz (aC (.str ("call":Str)))) (aCons (aFz (aVar 12)) (aCons (aFz (aCall E0 (upc E8) (aCons (aFz (aVar 1)) (aCons (aFz (aC (.int 3))) aNil)))) aNil)))))) (aVar 14))) (G7 15))) (aSeq (L1 (aFz (aCall E (upc A1k) (aCons (aFz (aVar 7)) (aCons (aFz (aSl (aVar 15) A3f (A3w (aCB D2 (D9 (aVar 13) F5))))) aNil)))) (G7 16)) (aSeq (L5 (aTst (aOp2 oGt (aCB D2 (D9 (aVar 16) F5)) (aC (.int 190)))) B2O M4) (aSeq (L5 (aTst (aOp2 (N5 true) (aMethM "Book" "write" E (upc A1l) 3 (gMx 1 2 [0,1,2] []) (aVar 4) aNil (aCons (aFz (aVar 9)) (aCons (aFz (aCB U4 (D9 (aVar 15) F5))) aNil))) (aC .non))) (G6 (aC (.bl false))) M4) (aSeq (L1 (aFz (aTup (aCons (aFz (aVar 13)) (aCons (aFz (aOp2 oAdd (aVar 16) (aVar 14))) aNil)))) (gTp 2 (R5 (A33 (aVar 5) (aFz (aVar 9))) (R5 (A33 (aVar 7) (aFz (aVar 9))) A0A)))) (T6 (aLm i6 (aVar 6) (aCons (aFz (aVar 9)) aNil))))))))))) (aSeq (L1 (aFz (aCB D2 (D9 (aVar 6) F5))) (G7 17)) (aSeq (L5 (aNotT (aTst (aCall E (upc (m__law_same 8)) (aCons (aFz (aLst (aCons (aFz (aMeth "Book" "names" E (upc A1r) (aVar 4) aNil)) (aCons (aFz (aOwn "Book" (upc A2Y) A8a (aVar 4))) (aCons (aFz (aOwn "Book" (upc A2V) A8s (aVar 4))) aNil))))) (aCons (aFz (aLst (aCons (aFz (aVar 6)) (aCons (aFz (aVar 17)) (aCons (aFz (aOp2 oAdd (aOp2 oAdd (aC (.str ("Book(":Str))) (aCB A1N (D9 (aVar 17) F5))) (aC (.str (" rounds)":Str))))) aNil))))) aNil))))) (G6 (aC (.bl false))) M4) (A6C (iLive (aVar 6)) (G7 12) (aSeq (A2C 11 (A0D [18] (iLive (aVar 6)) (G7 18) (aTst (aOp2 (O7 false) (aVar 12) (aGetM (aVar 5) (aFz (aVar 18))))) (aFz (aVar 18)))) (aFrz 11 (L5 (aNotT (aTst (aCall E (upc (m__law_same 8)) (aCons (aFz (aLst (aCons (aFz (aMethM "Book" "callers" E (upc j9) 2 (gMx 1 1 [0,1] []) (aVar 4) aNil (aCons (aFz (aVar 12)) aNil))) (aCons (aFz (aMeth "Book" "flat" E (upc A1s) (aVar 4) (aCons (aFz (aVar 12)) aNil))) aNil)))) (aCons (aFz (aLst (aCons (aFz (aVar 11)) (aCons (aFz (aGetM (aVar 7) (aFz (aVar 12)))) aNil)))) aNil))))) (G6 (aC (.bl false))) M4))))))))) (G6 (aC (.bl true))))))))
theorem B8l {Q:RR→AH→Prop} {E:AExc→AH→Prop} {Q':RR→AH→Prop} {E':AExc→AH→Prop} (hQ:∀r h,Q r h→Q' r h) (hE:∀x h,E x h→E' x h) (x_sizes:W):∀h,A4Z x_sizes h Q E→A6v (C4 E') (B6 Q') [some (.val x_sizes),none,none] h:=by
  have hr_:=M7 hQ
  have he:=M8 hE
  unfold A4Z A6v
  exact (C9 (M3 (A17 (F8 (SN.se (A25 (SN.se A7) (SN.se (H8 P0 (E3 (SN.se (A3 rfl)) F9))) (SN.se A7))))) (A04 (he _) (A9 (A5 (B1C (SN.se A7))) B8)) (N2 (D1 (A5y (fun (s10:Unit) (j11:Option SV×Option SV)=> [some (.val x_sizes),j11.1,j11.2]) () (none,none) rfl (B5H (A5 (A3 rfl))) (fun s10 j11=> (A2x hQ _)) (fun R18 w15 s10 j11 kn12 _ N14 h z=> by obtain ⟨x_cask,x_size,rfl,z17⟩:=A8N z;refine A1E [some (.val x_sizes),some (.val x_cask),some (.val x_size)] (B2B O5 O5) rfl h _ ?_;exact A1M h z17 (M3 (A17 (F8 (SN.se (A25 (SN.se A7) (SN.se (A3 rfl)) (SN.se A7))))) (A04 (he _) (A9 (A5 (A3 rfl)) B8)) (N2 (fun h z=> N14 () (some (.val x_cask),some (.val x_size)) h z)))))))))
theorem B8h (ws:List W) (h:AH) (Qa:RR→AH→Prop) (Ea:AExc→AH→Prop) (hl:ws.length=1) (z:upc A2Z ws h Qa Ea):A6v (C4 Ea) (B6 Qa) (G8 3 ws) h:=by
  obtain ⟨Q0,E0,hQ,hE,z⟩:=z
  match ws,hl with
  | [x_sizes],_=> exact B8l hQ hE x_sizes h z
theorem B98 {Q:RR→AH→Prop} {E:AExc→AH→Prop} {Q':RR→AH→Prop} {E':AExc→AH→Prop} (hQ:∀r h,Q r h→Q' r h) (hE:∀x h,E x h→E' x h) (x_word x_many x_casks:W):∀h,A46 x_word x_many x_casks h Q E→A7F (C4 E') (B6 Q') [some (.val x_word),some (.val x_many),some (.val x_casks)] h:=by
  have hr_:=M7 hQ
  generalize B6 Q'=D0 at hr_ ⊢
  obtain ⟨nx0,rt0,bk0,ct0⟩:=D0
  have hr_:∀r s env h,Rl env r s→Q s.rr h→rt0 r env h:=hr_
  have he:=M8 hE
  unfold A46 A7F
  exact (J8 hr_ (SN.se (A34 (F8 (SN.se (B5 A3n (SN.se (A3 rfl)) (SN.se A7)))) (A25 (SN.se A7) (SN.se (A3 rfl)) (SN.se (B5 Q3 (SN.se A7) (SN.se (A3 rfl))))) (B5 P3 (SN.se (A3 rfl)) (SN.se A7)))))
theorem B95 (ws:List W) (h:AH) (Qa:RR→AH→Prop) (Ea:AExc→AH→Prop) (hl:ws.length=3) (z:upc A2h ws h Qa Ea):A7F (C4 Ea) (B6 Qa) (G8 3 ws) h:=by
  obtain ⟨Q0,E0,hQ,hE,z⟩:=z
  match ws,hl with
  | [x_word,x_many,x_casks],_=> exact B98 hQ hE x_word x_many x_casks h z
theorem C0S {Q:RR→AH→Prop} {E:AExc→AH→Prop} {Q':RR→AH→Prop} {E':AExc→AH→Prop} (hQ:∀r h,Q r h→Q' r h) (hE:∀x h,E x h→E' x h) (x_things x_start x_casks:W):∀h,A42 x_things x_start x_casks h Q E→A7D (C4 E') (B6 Q') [some (.val x_things),some (.val x_start),some (.val x_casks),none,none] h:=by
  have hr_:=M7 hQ
  generalize B6 Q'=D0 at hr_ ⊢
  obtain ⟨nx0,rt0,bk0,ct0⟩:=D0
  have hr_:∀r s env h,Rl env r s→Q s.rr h→rt0 r env h:=hr_
  have he:=M8 hE
  unfold A42 A7D
  exact (C9 (A5y (fun (s10:Unit) (j11:Option SV×Option SV)=> [some (.val x_things),some (.val x_start),some (.val x_casks),j11.1,j11.2]) () (none,none) rfl (B5H (A5 (A3 rfl))) (fun s10 j11=> (D1 (J8 hr_ (SN.se A7)))) (fun R18 w15 s10 j11 kn12 _ N14 h z=> by obtain ⟨x_at,x_cask,rfl,z17⟩:=A8N z;refine A1E [some (.val x_things),some (.val x_start),some (.val x_casks),some (.val x_at),some (.val x_cask)] (B2B O5 O5) rfl h _ ?_;exact A1M h z17 (M3 (A55 (A17 (F8 (SN.se (A25 (SN.se A7) (SN.se (A3 rfl)) (SN.se (A3 rfl)))))) (F8 (SN.se (B5 A3n (SN.se (A3 rfl)) (SN.se (A8g (SN.se (A3 rfl)) A8k (A7w (SN.se (A3 rfl))))))))) (J8 hr_ (SN.se (B5 Q3 (SN.se (A3 rfl)) (SN.se (A3 rfl))))) (N2 (fun h z=> N14 () (some (.val x_at),some (.val x_cask)) h z))))))
theorem B96 (ws:List W) (h:AH) (Qa:RR→AH→Prop) (Ea:AExc→AH→Prop) (hl:ws.length=3) (z:upc A0P ws h Qa Ea):A7D (C4 Ea) (B6 Qa) (G8 5 ws) h:=by
  obtain ⟨Q0,E0,hQ,hE,z⟩:=z
  match ws,hl with
  | [x_things,x_start,x_casks],_=> exact C0S hQ hE x_things x_start x_casks h z
theorem C0t {Q:RR→AH→Prop} {E:AExc→AH→Prop} {Q':RR→AH→Prop} {E':AExc→AH→Prop} (hQ:∀r h,Q r h→Q' r h) (hE:∀x h,E x h→E' x h) (x_sizes x_deed:W):∀h,A5D x_sizes x_deed h Q E→A7S (C4 E') (B6 Q') [some (.val x_sizes),some (.val x_deed),none,none,none,none,none] h:=by
  have hr_:=M7 hQ
  generalize B6 Q'=D0 at hr_ ⊢
  obtain ⟨nx0,rt0,bk0,ct0⟩:=D0
  have hr_:∀r s env h,Rl env r s→Q s.rr h→rt0 r env h:=hr_
  have he:=M8 hE
  unfold A5D A7S
  exact (C9 (M3 (A55 (F8 (SN.se (B5 P3 (SN.se (H8 P0 (E3 (SN.se (A3 rfl)) F9))) (SN.se A7)))) (F8 (SN.se (B5 A3n (SN.se (B5 L8 (SN.se (A3 rfl)) (SN.se A7))) (SN.se (B5 Q3 (SN.se A7) (SN.se A7))))))) (J8 hr_ (SN.se A7)) (N2 (D1 (C9 (M3 (A17 (F8 (SN.se (L7 (he _) (A9 (A5 (B5 L8 (SN.se (A3 rfl)) (SN.se A7))) (A9 (A5 (H8 P0 (E3 (SN.se (A3 rfl)) F9))) (A9 (A5 (H8 P0 (E3 (SN.se (A3 rfl)) F9))) B8))))))) (J8 hr_ (SN.se (B1C (SN.se A7)))) (N2 (D1 (C9 (B5t (fun x_word x_things=> [some (.val x_sizes),some (.val x_deed),some (.val x_word),some x_things,none,none,none]) (fun _ _=> rfl) (A5 (A3 rfl)) (fun x_word x_things=> (D1 (C9 (M3 (F8 (SN.se (B5 P3 (SN.se (A3 rfl)) (SN.se A7)))) (C9 (A3p [some (.val x_sizes),some (.val x_deed),some (.val x_word),some (.val (SV.fz x_things)),none,none,none] rfl rfl (P5 (fun x_bad=> [some (.val x_sizes),some (.val x_deed),some (.val x_word),some (.val (SV.fz x_things)),some (.val x_bad),none,none]) (fun _=> rfl) (A5 (L7 (he _) (A9 (A5 (A3 rfl)) (A9 (A5 A7) (A9 (A5 (H8 P0 (E3 (SN.se (A3 rfl)) F9))) B8))))) (fun x_bad=> (D1 (C9 (M3 (F8 (SN.se (B5 A5o (SN.se (A3 rfl)) (SN.se A7)))) (J8 hr_ (SN.se (A3 rfl))) (N2 (D1 (J8 hr_ (SN.se (A34 (F8 (SN.se (B5 P3 (SN.se (B5 L8 (SN.se (A3 rfl)) (SN.se (B5 L8 (SN.se (A3 rfl)) (SN.se A7))))) (SN.se (B5 L8 (SN.se (A3 rfl)) (SN.se (B5 L8 (SN.se (A3 rfl)) (SN.se A7)))))))) A7 A7)))))))))))) (N2 (D1 (C9 (A3p [some (.val x_sizes),some (.val x_deed),some (.val x_word),some (.val (SV.fz x_things)),none,none,none] rfl rfl (B5t (fun x_many x_casks=> [some (.val x_sizes),some (.val x_deed),some (.val x_word),some (.val (SV.fz x_things)),none,some (.val x_many),some x_casks]) (fun _ _=> rfl) (A5 (A3 rfl)) (fun x_many x_casks=> (D1 (C9 (M3 (A17 (F8 (SN.se (A25 (SN.se A7) (SN.se (A3 rfl)) (SN.se A7))))) (J8 hr_ (SN.se A7)) (N2 (D1 (A3p [some (.val x_sizes),some (.val x_deed),some (.val x_word),some (.val (SV.fz x_things)),none,some (.val x_many),some (.val (SV.fz x_casks))] rfl rfl (J8 hr_ (SN.se (L7 (he _) (A9 (A5 (A3 rfl)) (A9 (A5 A7) (A9 (A5 (H8 P0 (E3 (SN.se (A3 rfl)) F9))) B8))))))))))))))))))))))))))))))))
theorem C02 (ws:List W) (h:AH) (Qa:RR→AH→Prop) (Ea:AExc→AH→Prop) (hl:ws.length=2) (z:upc A1u ws h Qa Ea):A7S (C4 Ea) (B6 Qa) (G8 7 ws) h:=by
  obtain ⟨Q0,E0,hQ,hE,z⟩:=z
  match ws,hl with
  | [x_sizes,x_deed],_=> exact C0t hQ hE x_sizes x_deed h z
theorem C1J {Q:RR→AH→Prop} {E:AExc→AH→Prop} {Q':RR→AH→Prop} {E':AExc→AH→Prop} (hQ:∀r h,Q r h→Q' r h) (hE:∀x h,E x h→E' x h) (x_text:W):∀h,A5H x_text h Q E→A7Y (C4 E') (B6 Q') [some (.val x_text),none] h:=by
  have hr_:=M7 hQ
  generalize B6 Q'=D0 at hr_ ⊢
  obtain ⟨nx0,rt0,bk0,ct0⟩:=D0
  have hr_:∀r s env h,Rl env r s→Q s.rr h→rt0 r env h:=hr_
  have he:=M8 hE
  unfold A5H A7Y
  exact (J8 hr_ (SN.se (A2t (SN.se (A25 (SN.se A7) (SN.se (H8 P0 (E3 (SN.se (A3 rfl)) F9))) (SN.se A7))) (H8 A8H (E3 (SN.se (A2F (C2i (SN.se (A3 rfl))) (fun x_sign h kk K1 K0 h1 h0 z=> by exact l9 (e1:=[some (.val x_text),some (.val x_sign)]) O5 A1C (A5 (B5 C4x (SN.se (A3 rfl)) (SN.se A7))) rfl h1 h0 z))) F9)))))
theorem C05 (ws:List W) (h:AH) (Qa:RR→AH→Prop) (Ea:AExc→AH→Prop) (hl:ws.length=1) (z:upc A2k ws h Qa Ea):A7Y (C4 Ea) (B6 Qa) (G8 2 ws) h:=by
  obtain ⟨Q0,E0,hQ,hE,z⟩:=z
  match ws,hl with
  | [x_text],_=> exact C1J hQ hE x_text h z
theorem C1S {Q:RR→AH→Prop} {E:AExc→AH→Prop} {Q':RR→AH→Prop} {E':AExc→AH→Prop} (hQ:∀r h,Q r h→Q' r h) (hE:∀x h,E x h→E' x h) (x_step:W):∀h,A5J x_step h Q E→A7X (C4 E') (B6 Q') [some (.val x_step)] h:=by
  have hr_:=M7 hQ
  generalize B6 Q'=D0 at hr_ ⊢
  obtain ⟨nx0,rt0,bk0,ct0⟩:=D0
  have hr_:∀r s env h,Rl env r s→Q s.rr h→rt0 r env h:=hr_
  have he:=M8 hE
  unfold A5J A7X
  exact (J8 hr_ (SN.se (A2t (SN.se (B5 B1i (SN.se (H8 P0 (E3 (SN.se (A3 rfl)) F9))) (SN.se A7))) (B5 P3 (SN.se (B5 L8 (SN.se (A3 rfl)) (SN.se A7))) (SN.se A7)))))
theorem C1e (ws:List W) (h:AH) (Qa:RR→AH→Prop) (Ea:AExc→AH→Prop) (hl:ws.length=1) (z:upc N6 ws h Qa Ea):A7X (C4 Ea) (B6 Qa) (G8 1 ws) h:=by
  obtain ⟨Q0,E0,hQ,hE,z⟩:=z
  match ws,hl with
  | [x_step],_=> exact C1S hQ hE x_step h z
theorem B9i {Q:RR→AH→Prop} {E:AExc→AH→Prop} {Q':RR→AH→Prop} {E':AExc→AH→Prop} (hQ:∀r h,Q r h→Q' r h) (hE:∀x h,E x h→E' x h) (x_step:W):∀h,A4o x_step h Q E→A68 (C4 E') (B6 Q') [some (.val x_step)] h:=by
  have hr_:=M7 hQ
  generalize B6 Q'=D0 at hr_ ⊢
  obtain ⟨nx0,rt0,bk0,ct0⟩:=D0
  have hr_:∀r s env h,Rl env r s→Q s.rr h→rt0 r env h:=hr_
  have he:=M8 hE
  unfold A4o A68
  exact (C9 (M3 (F8 (SN.se (B5 P3 (SN.se (H8 P0 (E3 (SN.se (A3 rfl)) F9))) (SN.se A7)))) (J8 hr_ (SN.se (B1C (SN.se A7)))) (N2 (D1 (J8 hr_ (SN.se (A34 (F8 (SN.se (A25 (SN.se A7) (SN.se (B5 L8 (SN.se (A3 rfl)) (SN.se A7))) (SN.se A7)))) A7 A7)))))))
theorem B9X (ws:List W) (h:AH) (Qa:RR→AH→Prop) (Ea:AExc→AH→Prop) (hl:ws.length=1) (z:upc A1t ws h Qa Ea):A68 (C4 Ea) (B6 Qa) (G8 1 ws) h:=by
  obtain ⟨Q0,E0,hQ,hE,z⟩:=z
  match ws,hl with
  | [x_step],_=> exact B9i hQ hE x_step h z
theorem C0A {Q:RR→AH→Prop} {E:AExc→AH→Prop} {Q':RR→AH→Prop} {E':AExc→AH→Prop} (hQ:∀r h,Q r h→Q' r h) (hE:∀x h,E x h→E' x h) (x_script:W):∀h,A40 x_script h Q E→A7I (C4 E') (B6 Q') [some (.val x_script)] h:=by
  have hr_:=M7 hQ
  generalize B6 Q'=D0 at hr_ ⊢
  obtain ⟨nx0,rt0,bk0,ct0⟩:=D0
  have hr_:∀r s env h,Rl env r s→Q s.rr h→rt0 r env h:=hr_
  have he:=M8 hE
  unfold A40 A7I
  exact (J8 hr_ (SN.se (U9 (A9 (A5 (H8 A7y (E3 (SN.se (A8g (SN.se (A3 rfl)) A8k (A7w (SN.se A7)))) F9))) (A9 (A5 A7) (A9 (A5 A7) (A9 (A5 A7) (A9 (A5 A7) B8))))))))
theorem B9y (ws:List W) (h:AH) (Qa:RR→AH→Prop) (Ea:AExc→AH→Prop) (hl:ws.length=1) (z:upc A2g ws h Qa Ea):A7I (C4 Ea) (B6 Qa) (G8 1 ws) h:=by
  obtain ⟨Q0,E0,hQ,hE,z⟩:=z
  match ws,hl with
  | [x_script],_=> exact C0A hQ hE x_script h z
theorem B99 {Q:RR→AH→Prop} {E:AExc→AH→Prop} {Q':RR→AH→Prop} {E':AExc→AH→Prop} (hQ:∀r h,Q r h→Q' r h) (hE:∀x h,E x h→E' x h) (x_bag x_sides:W):∀h,A4y x_bag x_sides h Q E→A7C (C4 E') (B6 Q') [some (.val x_bag),some (.val x_sides),none,none,none] h:=by
  have hr_:=M7 hQ
  generalize B6 Q'=D0 at hr_ ⊢
  obtain ⟨nx0,rt0,bk0,ct0⟩:=D0
  have hr_:∀r s env h,Rl env r s→Q s.rr h→rt0 r env h:=hr_
  have he:=M8 hE
  unfold A4y A7C
  exact (A71 (fun (s5:SV) (j6:Option SV)=> [some s5,some (.val x_sides),j6,none,none]) (fun s5 j6=> (C9 (M3 (F8 (SN.se (B5 B1R (SN.se (B5 L8 (i7 rfl) (SN.se A7))) (SN.se (A3 rfl))))) (C9 (P5 (fun x_side=> [some s5,some (.val x_sides),j6,some (.val x_side),none]) (fun _=> rfl) (A5 (B5 A2u (SN.se (B5 L8 (i7 rfl) (SN.se A7))) (SN.se (A3 rfl)))) (fun x_side=> (D1 (C9 (A2m (fun x_bag=> [some x_bag,some (.val x_sides),j6,some (.val x_side),none]) (fun _=> rfl) (A5 (B5 B0Y (SN.se (B5 L8 (i7 rfl) (SN.se A7))) (SN.se (A3 rfl)))) rfl (SN.se A7) (fun x_bag=> (D1 (J8 hr_ (SN.se (A3 rfl))))))))))) (N2 (D1 (C9 (A2m (fun x_bag=> [some x_bag,some (.val x_sides),j6,none,none]) (fun _=> rfl) (A5 (B5 Q3 (SN.se (B5 L8 (i7 rfl) (SN.se A7))) (SN.se A7))) rfl (SN.se A7) (fun x_bag=> (D1 (C9 (P5 (fun x_mix=> [some x_bag,some (.val x_sides),j6,none,some (.val x_mix)]) (fun _=> rfl) (A5 (B5 L8 (i7 rfl) (SN.se A7))) (fun x_mix=> (D1 (C9 (A2m (fun x_bag=> [some x_bag,some (.val x_sides),j6,none,some (.val x_mix)]) (fun _=> rfl) (A5 (B5 A2u (SN.se (B5 Q3 (SN.se (B5 Q3 (SN.se (B5 Q3 (SN.se (B5 A11 (SN.se (B5 A2u (SN.se (B5 A11 (SN.se (A3 rfl)) (SN.se (A3 rfl)))) (SN.se A7))) (SN.se A7))) (SN.se (B5 A11 (SN.se (A3 rfl)) (SN.se A7))))) (SN.se (B5 A11 (SN.se A7) (SN.se (B5 L8 (i7 rfl) (SN.se A7))))))) (SN.se A7))) (SN.se A7))) rfl (SN.se A7) (fun x_bag=> (D1 (J8 hr_ (SN.se (B5 A2u (SN.se (B5 Q3 (SN.se (B5 B0Y (SN.se (B5 L8 (i7 rfl) (SN.se A7))) (SN.se A7))) (SN.se (B5 A11 (SN.se (B5 A2u (SN.se (B5 L8 (i7 rfl) (SN.se A7))) (SN.se A7))) (SN.se A7))))) (SN.se (A3 rfl)))))))))))))))))))))) (fun N8=> (M3 (A5q (F8 (SN.se (B5 B1p (SN.se (B5 L8 (SN.se (A3 rfl)) (SN.se A7))) (SN.se (A3 rfl))))) (F8 (SN.se (B5 B1p (SN.se (B5 L8 (SN.se (A3 rfl)) (SN.se A7))) (SN.se (H8 P0 (E3 (SN.se (B5 L8 (SN.se (A3 rfl)) (SN.se A7))) F9))))))) (C9 (P5 (fun x_cell=> [some (.val x_bag),some (.val x_sides),some (.val x_cell),none,none]) (fun _=> rfl) (A5 (B5 L8 (SN.se (B5 L8 (SN.se (A3 rfl)) (SN.se A7))) (SN.se (B5 L8 (SN.se (A3 rfl)) (SN.se A7))))) (fun x_cell=> (D1 (C9 (A2m (fun x_bag=> [some x_bag,some (.val x_sides),some (.val x_cell),none,none]) (fun _=> rfl) (A5 (B5 Q3 (SN.se (B5 L8 (SN.se (A3 rfl)) (SN.se A7))) (SN.se A7))) rfl (SN.se A7) (fun x_bag=> (D1 (C9 (A2m (fun x_bag=> [some x_bag,some (.val x_sides),some (.val x_cell),none,none]) (fun _=> rfl) (A5 A7) rfl (SN.se A7) (fun x_bag=> (D1 (M3 (F8 (SN.se (B5 B1R (SN.se (A3 rfl)) (SN.se (B5 B08 (SN.se A7) (SN.se A7)))))) (A2m (fun x_bag=> [some x_bag,some (.val x_sides),some (.val x_cell),none,none]) (fun _=> rfl) (A5 (A3 rfl)) rfl (SN.se A7) (fun x_bag=> (fun h z=> N8 x_bag (some (.val x_cell)) h z))) (A2m (fun x_bag=> [some x_bag,some (.val x_sides),some (.val x_cell),none,none]) (fun _=> rfl) (A5 (B5 A2u (SN.se (B5 Q3 (SN.se (B5 Q3 (SN.se (B5 A11 (SN.se (B5 L8 (i7 rfl) (SN.se A7))) (SN.se A7))) (SN.se (B5 A11 (SN.se (B5 A2u (SN.se (A3 rfl)) (SN.se A7))) (SN.se A7))))) (SN.se A7))) (SN.se A7))) rfl (SN.se A7) (fun x_bag=> (fun h z=> N8 x_bag (some (.val x_cell)) h z)))))))))))))))) (N2 (fun h z=> N8 (.val x_bag) (none) h z)))))
theorem C0T (ws:List W) (h:AH) (Qa:RR→AH→Prop) (Ea:AExc→AH→Prop) (hl:ws.length=2) (z:upc E8 ws h Qa Ea):A7C (C4 Ea) (B6 Qa) (G8 5 ws) h:=by
  obtain ⟨Q0,E0,hQ,hE,z⟩:=z
  match ws,hl with
  | [x_bag,x_sides],_=> exact B99 hQ hE x_bag x_sides h z
theorem C0H {Q:RR→AH→Prop} {E:AExc→AH→Prop} {Q':RR→AH→Prop} {E':AExc→AH→Prop} (hQ:∀r h,Q r h→Q' r h) (hE:∀x h,E x h→E' x h) (x_bag x_row_here:W):∀h,A45 x_bag x_row_here h Q E→A7E (C4 E') (B6 Q') [some (.val x_bag),some (.val x_row_here)] h:=by
  have hr_:=M7 hQ
  generalize B6 Q'=D0 at hr_ ⊢
  obtain ⟨nx0,rt0,bk0,ct0⟩:=D0
  have hr_:∀r s env h,Rl env r s→Q s.rr h→rt0 r env h:=hr_
  have he:=M8 hE
  unfold A45 A7E
  exact (J8 hr_ (SN.se (B5 L8 (SN.se (A3 rfl)) (SN.se (L7 (he _) (A9 (A5 (A3 rfl)) (A9 (A5 (H8 P0 (E3 (SN.se (A3 rfl)) F9))) B8)))))))
theorem C0E (ws:List W) (h:AH) (Qa:RR→AH→Prop) (Ea:AExc→AH→Prop) (hl:ws.length=2) (z:upc R4 ws h Qa Ea):A7E (C4 Ea) (B6 Qa) (G8 2 ws) h:=by
  obtain ⟨Q0,E0,hQ,hE,z⟩:=z
  match ws,hl with
  | [x_bag,x_row_here],_=> exact C0H hQ hE x_bag x_row_here h z
theorem C0P (d:Nat) {Q:RR→AH→Prop} {E:AExc→AH→Prop} {Q':RR→AH→Prop} {E':AExc→AH→Prop} (hQ:∀r h,Q r h→Q' r h) (hE:∀x h,E x h→E' x h) (x_found x_due:W):∀h,w4 (m__law_same d) x_found x_due h Q E→A7K d (C4 E') (B6 Q') [some (.val x_found),some (.val x_due),none] h:=by
  have hr_:=M7 hQ
  generalize B6 Q'=D0 at hr_ ⊢
  obtain ⟨nx0,rt0,bk0,ct0⟩:=D0
  have hr_:∀r s env h,Rl env r s→Q s.rr h→rt0 r env h:=hr_
  have he:=M8 hE
  unfold w4 A7K
  exact (C9 (M3 (F8 (SN.se (B5 A5o (SN.se (A3 rfl)) (SN.se A7)))) (J8 hr_ (SN.se (B5 A5o (SN.se (A3 rfl)) (SN.se A7)))) (N2 (D1 (C9 (M3 (F8 (SN.se (H8 y6 (E3 (SN.se (A3 rfl)) (E3 (SN.se A7) F9))))) (J8 hr_ (SN.se (A2t (SN.se (H8 y6 (E3 (SN.se (A3 rfl)) (E3 (SN.se A7) F9)))) (B5 P3 (SN.se (A3 rfl)) (SN.se (A3 rfl)))))) (N2 (D1 (C9 (M3 (F8 (SN.se (H8 y6 (E3 (SN.se (A3 rfl)) (E3 (SN.se A7) F9))))) (J8 hr_ (SN.se (A2t (SN.se (H8 y6 (E3 (SN.se (A3 rfl)) (E3 (SN.se A7) F9)))) (A2t (SN.se (C5F (SN.se (H8 y6 (E3 (SN.se (A3 rfl)) (E3 (SN.se A7) F9)))))) (B5 P3 (SN.se (A3 rfl)) (SN.se (A3 rfl))))))) (N2 (D1 (C9 (M3 (F8 (SN.se (H8 y6 (E3 (SN.se (A3 rfl)) (E3 (SN.se A7) F9))))) (J8 hr_ (SN.se (A2t (SN.se (H8 y6 (E3 (SN.se (A3 rfl)) (E3 (SN.se A7) F9)))) (B5 P3 (SN.se (A3 rfl)) (SN.se (A3 rfl)))))) (N2 (D1 (C9 (M3 (A55 (F8 (SN.se (B5 P3 (SN.se (H8 y6 (E3 (SN.se (A3 rfl)) (E3 (SN.se A7) F9)))) (SN.se (H8 y6 (E3 (SN.se (A3 rfl)) (E3 (SN.se A7) F9))))))) (F8 (SN.se (B5 P3 (SN.se (H8 y6 (E3 (SN.se (A3 rfl)) (E3 (SN.se A7) F9)))) (SN.se (H8 y6 (E3 (SN.se (A3 rfl)) (E3 (SN.se A7) F9)))))))) (J8 hr_ (SN.se A7)) (N2 (D1 (C9 (M3 (F8 (SN.se (B5 P3 (SN.se (H8 P0 (E3 (SN.se (A3 rfl)) F9))) (SN.se (H8 P0 (E3 (SN.se (A3 rfl)) F9)))))) (J8 hr_ (SN.se A7)) (N2 (D1 (J8 hr_ (SN.se (H8 A8H (E3 (SN.se (A2F (A3g (E3 (SN.se (H8 P0 (E3 (SN.se (A3 rfl)) F9))) F9)) (fun x_at h kk K1 K0 h1 h0 z=> by exact l9 (e1:=[some (.val x_found),some (.val x_due),some (.val x_at)]) O5 A1C (A5 (A07 (A9 (A5 (B5 L8 (SN.se (A3 rfl)) (SN.se (A3 rfl)))) (A9 (A5 (B5 L8 (SN.se (A3 rfl)) (SN.se (A3 rfl)))) B8)))) rfl h1 h0 z))) F9))))))))))))))))))))))))))))
theorem C0V (d:Nat) (ws:List W) (h:AH) (Qa:RR→AH→Prop) (Ea:AExc→AH→Prop) (hl:ws.length=2) (z:upc (m__law_same (d+1)) ws h Qa Ea):A7K d (C4 Ea) (B6 Qa) (G8 3 ws) h:=by
  obtain ⟨Q0,E0,hQ,hE,z⟩:=z
  match ws,hl with
  | [x_found,x_due],_=> exact C0P d hQ hE x_found x_due h z
theorem B86 {Q:RR→AH→Prop} {E:AExc→AH→Prop} {Q':RR→AH→Prop} {E':AExc→AH→Prop} (hQ:∀r h,Q r h→Q' r h) (hE:∀x h,E x h→E' x h) {fl:Addr} {sp:G1} {ML:List W→MC} (hs:∀ws h Q E,upc ML ws h Q E→sp ws h Q E) (x_ask:W):∀h,A6s fl ML x_ask h Q E→A4i fl sp (C4 E') (B6 Q') [some (.val (.ref fl)),none,none,none] h:=by
  have hr_:=M7 hQ
  generalize B6 Q'=D0 at hr_ ⊢
  obtain ⟨nx0,rt0,bk0,ct0⟩:=D0
  have hr_:∀r s env h,Rl env r s→Q s.rr h→rt0 r env h:=hr_
  have he:=M8 hE
  unfold A6s A4i
  exact (C9 (P5 (fun x_told=> [some (.val (.ref fl)),some (.val x_told),none,none]) (fun _=> rfl) (A5 A7) (fun x_told=> (D1 (C9 (P5 (fun x_word_here=> [some (.val (.ref fl)),some (.val x_told),some (.val x_word_here),none]) (fun _=> rfl) (A5 A7) (fun x_word_here=> (D1 (A71 (fun (s15:W×W) (j16:Unit)=> [some (.val (.ref fl)),some (.val s15.1),some (.val s15.2),none]) (fun s15 j16=> (J8 hr_ (SN.se (A0r (A9 (A5 (A3 rfl)) (A9 (A5 (A3 rfl)) B8)))))) (fun N18=> (C4H (ks:=["BadName","BadRow","BadSizes","InUse","NoRound","NothingLeft","Taken","TooLong","TooMany"]) (i:=3) (j:=2) (l:=[("HideError",(j5 "word")),("Missing",(j5 "word")),("NothingLeft",(j5 "word"))]) (envB:=fun s19=> [some (.val (.ref fl)),some (.val s19),some (.val x_word_here),none]) rfl (Nat.le_of_ble_eq_true rfl) (.cons A8B (.cons A8B (.cons A8B .nil))) (he _) (fun s19=> (fun h z=> N18 (s19,x_word_here) () h z)) (fun s19=> (fun h z=> N18 (x_told,s19) () h z)) (fun E2 Ein hz kk20 N21=> (P5 (fun x_told=> [some (.val (.ref fl)),some (.val x_told),some (.val x_word_here),none]) (fun _=> rfl) (A5 (C5j hz hs rfl B8)) (fun x_told=> (fun h z=> N21 x_told h z)))))))))))))))
theorem B9A {ML:List W→MC} (fl:Addr) (sp:G1) (hs:∀ws h Q E,upc ML ws h Q E→sp ws h Q E) (ws:List W) (h:AH) (Qa:RR→AH→Prop) (Ea:AExc→AH→Prop) (hl:ws.length=1) (z:upc (A6y ML fl) ws h Qa Ea):A4i fl sp (C4 Ea) (B6 Qa) (G8 4 ws) h:=by
  obtain ⟨Q0,E0,hQ,hE,z⟩:=z
  match ws,hl with
  | [x_ask],_=>
    obtain ⟨e,z⟩:=z
    subst e
    exact B86 hQ hE hs (.ref fl) h z
theorem B9f {Q:RR→AH→Prop} {E:AExc→AH→Prop} {Q':RR→AH→Prop} {E':AExc→AH→Prop} (hQ:∀r h,Q r h→Q' r h) (hE:∀x h,E x h→E' x h) (x_bag x_mcasks x_most:W):∀h,A4t x_bag x_mcasks x_most h Q E→A7A (C4 E') (B6 Q') [some (.val x_bag),some (.val x_mcasks),some (.val x_most),none] h:=by
  have hr_:=M7 hQ
  generalize B6 Q'=D0 at hr_ ⊢
  obtain ⟨nx0,rt0,bk0,ct0⟩:=D0
  have hr_:∀r s env h,Rl env r s→Q s.rr h→rt0 r env h:=hr_
  have he:=M8 hE
  unfold A4t A7A
  exact (J8 hr_ (SN.se (H8 B0b (E3 (SN.se (A2F (A3g (E3 (SN.se (B5 Q3 (SN.se A7) (SN.se (L7 (he _) (A9 (A5 (A3 rfl)) (A9 (A5 (A3 rfl)) B8)))))) F9)) (fun x_mcask h kk K1 K0 h1 h0 z=> by exact l9 (e1:=[some (.val x_bag),some (.val x_mcasks),some (.val x_most),some (.val x_mcask)]) O5 A1C (A5 (B5 Q3 (SN.se A7) (SN.se (A07 (A9 (A5 (A3 rfl)) (A9 (A5 (A3 rfl)) B8)))))) rfl h1 h0 z))) F9))))
theorem B9c (ws:List W) (h:AH) (Qa:RR→AH→Prop) (Ea:AExc→AH→Prop) (hl:ws.length=3) (z:upc A2d ws h Qa Ea):A7A (C4 Ea) (B6 Qa) (G8 4 ws) h:=by
  obtain ⟨Q0,E0,hQ,hE,z⟩:=z
  match ws,hl with
  | [x_bag,x_mcasks,x_most],_=> exact B9f hQ hE x_bag x_mcasks x_most h z
theorem B8g {Q:RR→AH→Prop} {E:AExc→AH→Prop} {Q':RR→AH→Prop} {E':AExc→AH→Prop} (hQ:∀r h,Q r h→Q' r h) (hE:∀x h,E x h→E' x h) (x_bag:W):∀h,A4T x_bag h Q E→A6k (C4 E') (B6 Q') [some (.val x_bag)] h:=by
  have hr_:=M7 hQ
  generalize B6 Q'=D0 at hr_ ⊢
  obtain ⟨nx0,rt0,bk0,ct0⟩:=D0
  have hr_:∀r s env h,Rl env r s→Q s.rr h→rt0 r env h:=hr_
  have he:=M8 hE
  unfold A4T A6k
  exact (J8 hr_ (SN.se (L7 (he _) (A9 (A5 (A3 rfl)) (A9 (A5 A7) (A9 (A5 (L7 (he _) (A9 (A5 (A3 rfl)) (A9 (A5 (U9 (A9 (A5 A7) (A9 (A5 A7) (A9 (A5 A7) (A9 (A5 A7) B8)))))) B8)))) B8))))))
theorem B8R (ws:List W) (h:AH) (Qa:RR→AH→Prop) (Ea:AExc→AH→Prop) (hl:ws.length=1) (z:upc A2W ws h Qa Ea):A6k (C4 Ea) (B6 Qa) (G8 1 ws) h:=by
  obtain ⟨Q0,E0,hQ,hE,z⟩:=z
  match ws,hl with
  | [x_bag],_=> exact B8g hQ hE x_bag h z
theorem B9M {Q:RR→AH→Prop} {E:AExc→AH→Prop} {Q':RR→AH→Prop} {E':AExc→AH→Prop} (hQ:∀r h,Q r h→Q' r h) (hE:∀x h,E x h→E' x h) (x_bag:W):∀h,A4j x_bag h Q E→A64 (C4 E') (B6 Q') [some (.val x_bag),none] h:=by
  have hr_:=M7 hQ
  generalize B6 Q'=D0 at hr_ ⊢
  obtain ⟨nx0,rt0,bk0,ct0⟩:=D0
  have hr_:∀r s env h,Rl env r s→Q s.rr h→rt0 r env h:=hr_
  have he:=M8 hE
  unfold A4j A64
  exact (C9 (P5 (fun x_some=> [some (.val x_bag),some (.val x_some)]) (fun _=> rfl) (A5 (U9 (A9 (A5 A7) (A9 (A5 A7) (A9 (A5 A7) (A9 (A5 A7) (A9 (A5 (B5 Q3 (SN.se A7) (SN.se (L7 (he _) (A9 (A5 (A3 rfl)) (A9 (A5 A7) B8)))))) (A9 (A5 (L7 (he _) (A9 (A5 (A3 rfl)) (A9 (A5 A7) B8)))) (A9 (A5 (B5 B6N (SN.se (B5 B08 (SN.se A7) (SN.se A7))) (SN.se A7))) (A9 (A5 (L7 (he _) (A9 (A5 (A3 rfl)) (A9 (A5 (B5 B08 (SN.se A7) (SN.se A7))) B8)))) B8)))))))))) (fun x_some=> (D1 (J8 hr_ (SN.se (L7 (he _) (A9 (A5 (A3 rfl)) (A9 (A5 (A3 rfl)) B8)))))))))
theorem B9D (ws:List W) (h:AH) (Qa:RR→AH→Prop) (Ea:AExc→AH→Prop) (hl:ws.length=1) (z:upc A2b ws h Qa Ea):A64 (C4 Ea) (B6 Qa) (G8 2 ws) h:=by
  obtain ⟨Q0,E0,hQ,hE,z⟩:=z
  match ws,hl with
  | [x_bag],_=> exact B9M hQ hE x_bag h z
theorem B00 {Q:RR→AH→Prop} {E:AExc→AH→Prop} {envOf:SV→A0} {vs:List Nat} {g:H9} {tb:K9} {tv:D3} {body:W→SV→(SV→Option W→MC)→MC} {k:SV→List W→MC} {K:List W→A0→AH→Prop} (hk:∀s acc h',k s acc h' Q E→K acc (envOf s) h')
    (b:∀w s h (kk:SV→Option W→MC) (K1:W→A0→AH→Prop) (K0:A0→AH→Prop),(∀s y h',kk s (some y) h' Q E→K1 y (envOf s) h')→(∀s h',kk s none h' Q E→K0 (envOf s) h')→body w s kk h Q E→
      g w (T5 (envOf s) vs) h fun e1 h1=> tb e1 h1 fun b e2 h2=> if b=true then tv e2 h2 fun y e3 h3=> K1 y (mend (envOf s) e3 vs) h3 else K0 (mend (envOf s) e2 vs) h2):
    ∀(ws:List W) (s:SV) (acc:List W) (h:AH),A6K body k ws s acc h Q E→lcLoop vs g tb tv K ws acc (envOf s) h
  | [],s,acc,h,z=> hk s acc h z
  | w::ws,s,acc,h,z=> b w s h _ (fun y e3 h3=> acc.length < sizeLine∧lcLoop vs g tb tv K ws (acc++[y]) e3 h3) (fun e2 h2=> lcLoop vs g tb tv K ws acc e2 h2)
      (fun s y h' z=> ⟨z.1,B00 hk b ws s (acc++[y]) h' z.2⟩) (fun s h' z=> B00 hk b ws s acc h' z) z
theorem B8m {Q:RR→AH→Prop} {E:AExc→AH→Prop} {Q':RR→AH→Prop} {E':AExc→AH→Prop} (hQ:∀r h,Q r h→Q' r h) (hE:∀x h,E x h→E' x h) (x_bag x_row:W):∀h,A4X x_bag x_row h Q E→A6t (C4 E') (B6 Q') [some (.val x_bag),some (.val x_row),none,none] h:=by
  have hr_:=M7 hQ
  have he:=M8 hE
  unfold A4X A6t
  refine C9 (A5x (fun x=> [some (.val x_bag),some (.val x_row),some x,none]) (fun _=> rfl) (H8 A7y (E3 (SN.se (A3 rfl)) F9)) fun x_left=> D1 (C4Y fun h z=> ?_))
  refine A5Q (env:=[some (.val x_bag),some (.val x_row),some x_left,none]) (A5 (A3 (i:=1) rfl)) h _ _ (fun ws h1 z=> ?_) z
  refine B00 (envOf:=fun s=> [some (.val x_bag),some (.val x_row),some s,none]) (fun s acc h' z=> hr_ (.own (.seq acc)) (.own (.seq acc)) _ _ rfl z) (fun v s h kk K1 K0 h1 h0 z=> ?_) ws x_left [] h1 z
  refine O5 (i:=3) (env:=[some (.val x_bag),some (.val x_row),some s,none]) h _ ?_
  refine C5G ?_
  exact B6q (i:=2) (env:=[some (.val x_bag),some (.val x_row),some s,some (.val v)]) (K:=fun r env' h'=> match r with
    | .val w=> K1 w (mend [some (.val x_bag),some (.val x_row),some s,none] env' [3]) h'
    | .own c=> K1 c.fz (mend [some (.val x_bag),some (.val x_row),some s,none] env' [3]) h'
    | .slot i=> match env'[i]? with
      | some (some (.val w))=> K1 w (mend [some (.val x_bag),some (.val x_row),some s,none] env' [3]) h'
      | some (some (.own c))=> K1 c.fz (mend [some (.val x_bag),some (.val x_row),some s,none] (env'.set i (some (.val c.fz))) [3]) h'
      | _=> False) C1h rfl (A9 (A5 (A07 (A9 (A5 (A3 rfl)) (A9 (A5 (H8 P0 (E3 (i7 rfl) F9))) B8)))) B8) (fun x' w h z=> h1 x' w h z) h z
theorem B8n (ws:List W) (h:AH) (Qa:RR→AH→Prop) (Ea:AExc→AH→Prop) (hl:ws.length=2) (z:upc A2a ws h Qa Ea):A6t (C4 Ea) (B6 Qa) (G8 4 ws) h:=by
  obtain ⟨Q0,E0,hQ,hE,z⟩:=z
  match ws,hl with
  | [x_bag,x_row],_=> exact B8m hQ hE x_bag x_row h z
theorem B77 {Q:RR→AH→Prop} {E:AExc→AH→Prop} {Q':RR→AH→Prop} {E':AExc→AH→Prop} (hQ:∀r h,Q r h→Q' r h) (hE:∀x h,E x h→E' x h) (x_bag x_mcasks x_mmany:W):∀h,A4K x_bag x_mcasks x_mmany h Q E→A6h (C4 E') (B6 Q') [some (.val x_bag),some (.val x_mcasks),some (.val x_mmany)] h:=by
  have hr_:=M7 hQ
  generalize B6 Q'=D0 at hr_ ⊢
  obtain ⟨nx0,rt0,bk0,ct0⟩:=D0
  have hr_:∀r s env h,Rl env r s→Q s.rr h→rt0 r env h:=hr_
  have he:=M8 hE
  unfold A4K A6h
  exact (J8 hr_ (SN.se (H8 B0b (E3 (SN.se (A8g (SN.se (L7 (he _) (A9 (A5 (A3 rfl)) (A9 (A5 (C3a (SN.se (A3 rfl)))) B8)))) A8k (A7w (SN.se (A3 rfl))))) F9))))
theorem B75 (ws:List W) (h:AH) (Qa:RR→AH→Prop) (Ea:AExc→AH→Prop) (hl:ws.length=3) (z:upc A0H ws h Qa Ea):A6h (C4 Ea) (B6 Qa) (G8 3 ws) h:=by
  obtain ⟨Q0,E0,hQ,hE,z⟩:=z
  match ws,hl with
  | [x_bag,x_mcasks,x_mmany],_=> exact B77 hQ hE x_bag x_mcasks x_mmany h z
theorem B9Z {Q:RR→AH→Prop} {E:AExc→AH→Prop} {Q':RR→AH→Prop} {E':AExc→AH→Prop} (hQ:∀r h,Q r h→Q' r h) (hE:∀x h,E x h→E' x h) (x_msizes:W):∀h,A4n x_msizes h Q E→A66 (C4 E') (B6 Q') [some (.val x_msizes),none,none,none,none] h:=by
  have hr_:=M7 hQ
  generalize B6 Q'=D0 at hr_ ⊢
  obtain ⟨nx0,rt0,bk0,ct0⟩:=D0
  have hr_:∀r s env h,Rl env r s→Q s.rr h→rt0 r env h:=hr_
  have he:=M8 hE
  unfold A4n A66
  exact (C9 (A5x (fun x_found=> [some (.val x_msizes),some x_found,none,none,none]) (fun _=> rfl) (U9 B8) (fun x_found=> (D1 (C9 (A5y (fun (s7:SV) (j8:Option SV×Option SV)=> [some (.val x_msizes),some s7,j8.1,j8.2,none]) x_found (none,none) rfl (A3g (E3 (SN.se (H8 P0 (E3 (SN.se (A3 rfl)) F9))) F9)) (fun s7 j8=> (D1 (J8 hr_ (i7 rfl)))) (fun R12 x_mone s7 j8 kn9 _ N11 h z=> by refine A1E [some (.val x_msizes),some s7,some (.val x_mone),j8.2,none] O5 rfl h _ ?_;exact A1M h z (C9 (C2L (fun x_near=> [some (.val x_msizes),some s7,some (.val x_mone),some x_near,none]) (fun _=> rfl) (A3g (E3 (SN.se (H8 P0 (E3 (SN.se (A3 rfl)) F9))) F9)) (fun x_at h kk K1 K0 h1 h0 z=> by exact l9 (e1:=[some (.val x_msizes),some s7,some (.val x_mone),j8.2,some (.val x_at)]) O5 (A5q (F8 (SN.se (B5 P3 (SN.se (A3 rfl)) (SN.se (A3 rfl))))) (F8 (SN.se (B5 P3 (SN.se (B5 L8 (SN.se (A3 rfl)) (SN.se (A3 rfl)))) (SN.se (B5 L8 (SN.se (A3 rfl)) (SN.se (A3 rfl)))))))) (A5 (A3 rfl)) rfl h1 h0 z) (fun x_near=> (D1 (A3p [some (.val x_msizes),some s7,some (.val x_mone),some (.val (SV.fz x_near)),none] rfl rfl (B6H (fun x_found=> [some (.val x_msizes),some x_found,some (.val x_mone),some (.val (SV.fz x_near)),none]) (fun _=> rfl) rfl (SN.se (A2F (A5Q (A5 (A3 rfl))) (fun x_at h kk K1 K0 h1 h0 z=> by exact l9 (e1:=[some (.val x_msizes),some s7,some (.val x_mone),some (.val (SV.fz x_near)),some (.val x_at)]) O5 A1C (A5 (A0r (A9 (A5 (A3 rfl)) (A9 (A5 (A3 rfl)) B8)))) rfl h1 h0 z))) (fun x_found=> (fun h z=> N11 x_found (some (.val x_mone),some (.val (SV.fz x_near))) h z)))))))))))))))
theorem B9V (ws:List W) (h:AH) (Qa:RR→AH→Prop) (Ea:AExc→AH→Prop) (hl:ws.length=1) (z:upc A2c ws h Qa Ea):A66 (C4 Ea) (B6 Qa) (G8 5 ws) h:=by
  obtain ⟨Q0,E0,hQ,hE,z⟩:=z
  match ws,hl with
  | [x_msizes],_=> exact B9Z hQ hE x_msizes h z
theorem B91 {Q:RR→AH→Prop} {E:AExc→AH→Prop} {Q':RR→AH→Prop} {E':AExc→AH→Prop} (hQ:∀r h,Q r h→Q' r h) (hE:∀x h,E x h→E' x h) (x_bag x_msizes x_number_here x_taps:W):∀h,A4w x_bag x_msizes x_number_here x_taps h Q E→A7G (C4 E') (B6 Q') [some (.val x_bag),some (.val x_msizes),some (.val x_number_here),some (.val x_taps),none,none,none,none] h:=by
  have hr_:=M7 hQ
  generalize B6 Q'=D0 at hr_ ⊢
  obtain ⟨nx0,rt0,bk0,ct0⟩:=D0
  have hr_:∀r s env h,Rl env r s→Q s.rr h→rt0 r env h:=hr_
  have he:=M8 hE
  unfold A4w A7G
  exact (C9 (P5 (fun x_how=> [some (.val x_bag),some (.val x_msizes),some (.val x_number_here),some (.val x_taps),some (.val x_how),none,none,none]) (fun _=> rfl) (A5 (L7 (he _) (A9 (A5 (A3 rfl)) (A9 (A5 A7) B8)))) (fun x_how=> (D1 (C9 (P5 (fun x_pairs=> [some (.val x_bag),some (.val x_msizes),some (.val x_number_here),some (.val x_taps),some (.val x_how),some (.val x_pairs),none,none]) (fun _=> rfl) (A5 (L7 (he _) (A9 (A5 (A3 rfl)) B8))) (fun x_pairs=> (D1 (C9 (M3 (A5q (F8 (SN.se (B5 P3 (SN.se (A3 rfl)) (SN.se A7)))) (F8 (SN.se (B5 P3 (SN.se (A3 rfl)) (SN.se (U9 B8)))))) (J8 hr_ (SN.se (B5 Q3 (SN.se (A0r (A9 (A5 A7) B8))) (SN.se (L7 (he _) (A9 (A5 (A3 rfl)) (A9 (A5 (A3 rfl)) B8))))))) (N2 (D1 (C9 (M3 (A5q (F8 (SN.se (B5 B1p (SN.se (A3 rfl)) (SN.se A7)))) (F8 (SN.se (A3 rfl)))) (J8 hr_ (SN.se (A0r (A9 (A5 A7) (A9 (A5 (L7 (he _) (A9 (A5 (A3 rfl)) (A9 (A5 (U9 (A9 (A5 A7) (A9 (A5 A7) (A9 (A5 A7) (A9 (A5 A7) (A9 (A5 (A3 rfl)) B8))))))) B8)))) (A9 (A5 (L7 (he _) (A9 (A5 (A3 rfl)) (A9 (A5 (H8 P0 (E3 (SN.se (A3 rfl)) F9))) B8)))) B8)))))) (N2 (D1 (C9 (M3 (A55 (F8 (SN.se (B5 P3 (SN.se (A3 rfl)) (SN.se A7)))) (F8 (SN.se (B5 P3 (SN.se (H8 P0 (E3 (SN.se (A3 rfl)) F9))) (SN.se A7))))) (J8 hr_ (SN.se (A0r (A9 (A5 A7) (A9 (A5 (A3 rfl)) (A9 (A5 (L7 (he _) (A9 (A5 (A3 rfl)) (A9 (A5 (H8 P0 (E3 (SN.se (A3 rfl)) F9))) B8)))) B8)))))) (N2 (D1 (C9 (P5 (fun x_mmany=> [some (.val x_bag),some (.val x_msizes),some (.val x_number_here),some (.val x_taps),some (.val x_how),some (.val x_pairs),some (.val x_mmany),none]) (fun _=> rfl) (A5 (B5 Q3 (SN.se A7) (SN.se (L7 (he _) (A9 (A5 (A3 rfl)) (A9 (A5 (B5 B6N (SN.se (H8 P0 (E3 (SN.se (A3 rfl)) F9))) (SN.se A7))) B8)))))) (fun x_mmany=> (D1 (C9 (P5 (fun x_word_here=> [some (.val x_bag),some (.val x_msizes),some (.val x_number_here),some (.val x_taps),some (.val x_how),some (.val x_pairs),some (.val x_mmany),some (.val x_word_here)]) (fun _=> rfl) (A5 (B5 L8 (SN.se (U9 (A9 (A5 A7) (A9 (A5 A7) B8)))) (SN.se (B5 B0Y (SN.se (L7 (he _) (A9 (A5 (A3 rfl)) (A9 (A5 A7) B8)))) (SN.se A7))))) (fun x_word_here=> (D1 (J8 hr_ (SN.se (B5 Q3 (SN.se (A0r (A9 (A5 (A3 rfl)) (A9 (A5 (A3 rfl)) B8)))) (SN.se (L7 (he _) (A9 (A5 (A3 rfl)) (A9 (A5 (H8 P0 (E3 (SN.se (A3 rfl)) F9))) (A9 (A5 (A3 rfl)) B8))))))))))))))))))))))))))))))))))))
theorem C0J (ws:List W) (h:AH) (Qa:RR→AH→Prop) (Ea:AExc→AH→Prop) (hl:ws.length=4) (z:upc A2f ws h Qa Ea):A7G (C4 Ea) (B6 Qa) (G8 8 ws) h:=by
  obtain ⟨Q0,E0,hQ,hE,z⟩:=z
  match ws,hl with
  | [x_bag,x_msizes,x_number_here,x_taps],_=> exact B91 hQ hE x_bag x_msizes x_number_here x_taps h z
theorem C0f {Q:RR→AH→Prop} {E:AExc→AH→Prop} {Q':RR→AH→Prop} {E':AExc→AH→Prop} (hQ:∀r h,Q r h→Q' r h) (hE:∀x h,E x h→E' x h) (x_bag x_msizes x_most x_taps:W):∀h,A5B x_bag x_msizes x_most x_taps h Q E→A7M (C4 E') (B6 Q') [some (.val x_bag),some (.val x_msizes),some (.val x_most),some (.val x_taps),none] h:=by
  have hr_:=M7 hQ
  generalize B6 Q'=D0 at hr_ ⊢
  obtain ⟨nx0,rt0,bk0,ct0⟩:=D0
  have hr_:∀r s env h,Rl env r s→Q s.rr h→rt0 r env h:=hr_
  have he:=M8 hE
  unfold A5B A7M
  exact (J8 hr_ (SN.se (A2F (A3g (E3 (SN.se (L7 (he _) (A9 (A5 (A3 rfl)) (A9 (A5 (B5 Q3 (SN.se (A3 rfl)) (SN.se A7))) B8)))) F9)) (fun x_k h kk K1 K0 h1 h0 z=> by exact l9 (e1:=[some (.val x_bag),some (.val x_msizes),some (.val x_most),some (.val x_taps),some (.val x_k)]) O5 A1C (A5 (A07 (A9 (A5 (A3 rfl)) (A9 (A5 (A3 rfl)) (A9 (A5 (A07 (A9 (A5 (A3 rfl)) B8))) (A9 (A5 (A3 rfl)) B8)))))) rfl h1 h0 z))))
theorem C0r (ws:List W) (h:AH) (Qa:RR→AH→Prop) (Ea:AExc→AH→Prop) (hl:ws.length=4) (z:upc A2j ws h Qa Ea):A7M (C4 Ea) (B6 Qa) (G8 5 ws) h:=by
  obtain ⟨Q0,E0,hQ,hE,z⟩:=z
  match ws,hl with
  | [x_bag,x_msizes,x_most,x_taps],_=> exact C0f hQ hE x_bag x_msizes x_most x_taps h z
theorem B89 {Q:RR→AH→Prop} {E:AExc→AH→Prop} {Q':RR→AH→Prop} {E':AExc→AH→Prop} (hQ:∀r h,Q r h→Q' r h) (hE:∀x h,E x h→E' x h) (x_calls x_mname:W):∀h,A4g x_calls x_mname h Q E→A6x (C4 E') (B6 Q') [some (.val x_calls),some (.val x_mname),none] h:=by
  have hr_:=M7 hQ
  generalize B6 Q'=D0 at hr_ ⊢
  obtain ⟨nx0,rt0,bk0,ct0⟩:=D0
  have hr_:∀r s env h,Rl env r s→Q s.rr h→rt0 r env h:=hr_
  have he:=M8 hE
  unfold A4g A6x
  exact (C9 (M3 (F8 (SN.se (A8J (A5 (A3 rfl)) (SN.se (A3 rfl))))) (J8 hr_ (SN.se A7)) (N2 (D1 (J8 hr_ (SN.se (A34 (F8 (SN.se (C2U (envL:=fun x_calls=> [some (.val x_calls),some (.val x_mname),none]) rfl (fun _=> rfl) (fun x_calls=> (SN.se (H8 A8H (E3 (SN.se (A2F (C46 (A5 (A3 rfl))) (fun x_mother h kk K1 K0 h1 h0 z=> by exact l9 (e1:=[some (.val x_calls),some (.val x_mname),some (.val x_mother)]) O5 A1C (A5 (B5 A3n (SN.se (A3 rfl)) (SN.se (A10 (SN.se (A3 rfl)) (A5 (A3 rfl)))))) rfl h1 h0 z))) F9))))))) A7 A7)))))))
theorem B8z (ws:List W) (h:AH) (Qa:RR→AH→Prop) (Ea:AExc→AH→Prop) (hl:ws.length=2) (z:upc A1q ws h Qa Ea):A6x (C4 Ea) (B6 Qa) (G8 3 ws) h:=by
  obtain ⟨Q0,E0,hQ,hE,z⟩:=z
  match ws,hl with
  | [x_calls,x_mname],_=> exact B89 hQ hE x_calls x_mname h z
theorem B70 {Q:RR→AH→Prop} {E:AExc→AH→Prop} {Q':RR→AH→Prop} {E':AExc→AH→Prop} (hQ:∀r h,Q r h→Q' r h) (hE:∀x h,E x h→E' x h) (x_flats x_calls:W):∀h,A4J x_flats x_calls h Q E→A6i (C4 E') (B6 Q') [some (.val x_flats),some (.val x_calls),none,none] h:=by
  have hr_:=M7 hQ
  generalize B6 Q'=D0 at hr_ ⊢
  obtain ⟨nx0,rt0,bk0,ct0⟩:=D0
  have hr_:∀r s env h,Rl env r s→Q s.rr h→rt0 r env h:=hr_
  have he:=M8 hE
  unfold A4J A6i
  exact (C9 (P5 (fun x_found=> [some (.val x_flats),some (.val x_calls),some (.val x_found),none]) (fun _=> rfl) (A5 (U9 B8)) (fun x_found=> (D1 (C9 (A5y (fun (s13:W) (j14:Option SV)=> [some (.val x_flats),some (.val x_calls),some (.val s13),j14]) x_found (none) rfl (A5Q (A5 (A3 rfl))) (fun s13 j14=> (D1 (J8 hr_ (SN.se (A3 rfl))))) (fun R18 x_call s13 j14 kn15 _ N17 h z=> by refine A1E [some (.val x_flats),some (.val x_calls),some (.val s13),some (.val x_call)] O5 rfl h _ ?_;exact A1M h z (P5 (fun x_found=> [some (.val x_flats),some (.val x_calls),some (.val x_found),some (.val x_call)]) (fun _=> rfl) (A5 (B5 Q3 (SN.se (A3 rfl)) (SN.se (B5 B5O (SN.se (A10 (SN.se (A3 rfl)) (A5 (B5 L8 (SN.se (A3 rfl)) (SN.se A7))))) (SN.se (B5 L8 (SN.se (A3 rfl)) (SN.se A7))))))) (fun x_found=> (fun h z=> N17 x_found (some (.val x_call)) h z))))))))))
theorem B8F (ws:List W) (h:AH) (Qa:RR→AH→Prop) (Ea:AExc→AH→Prop) (hl:ws.length=2) (z:upc A1k ws h Qa Ea):A6i (C4 Ea) (B6 Qa) (G8 4 ws) h:=by
  obtain ⟨Q0,E0,hQ,hE,z⟩:=z
  match ws,hl with
  | [x_flats,x_calls],_=> exact B70 hQ hE x_flats x_calls h z
theorem B8Y {Q:RR→AH→Prop} {E:AExc→AH→Prop} {Q':RR→AH→Prop} {E':AExc→AH→Prop} (hQ:∀r h,Q r h→Q' r h) (hE:∀x h,E x h→E' x h) (x_self x_name:W):∀h,A4O x_self x_name h Q E→A6n (C4 E') (B6 Q') [some (.val x_self),some (.val x_name)] h:=by
  have hr_:=M7 hQ
  generalize B6 Q'=D0 at hr_ ⊢
  obtain ⟨nx0,rt0,bk0,ct0⟩:=D0
  have hr_:∀r s env h,Rl env r s→Q s.rr h→rt0 r env h:=hr_
  have he:=M8 hE
  unfold A4O A6n
  exact (C9 (M3 (F8 (SN.se (A8J (A5 (A3 rfl)) (SN.se (d7 (SN.se (A3 rfl))))))) (A04 (he _) (A9 (A5 (A3 rfl)) B8)) (N2 (D1 (J8 hr_ (SN.se (A10 (SN.se (d7 (SN.se (A3 rfl)))) (A5 (A3 rfl)))))))))
theorem B8a (ws:List W) (h:AH) (Qa:RR→AH→Prop) (Ea:AExc→AH→Prop) (hl:ws.length=2) (z:upc T9 ws h Qa Ea):A6n (C4 Ea) (B6 Qa) (G8 2 ws) h:=by
  obtain ⟨Q0,E0,hQ,hE,z⟩:=z
  match ws,hl with
  | [x_self,x_name],_=> exact B8Y hQ hE x_self x_name h z
theorem B8w {Q:RR→AH→Prop} {E:AExc→AH→Prop} {Q':RR→AH→Prop} {E':AExc→AH→Prop} (hQ:∀r h,Q r h→Q' r h) (hE:∀x h,E x h→E' x h) (x_self x_name:W):∀h,A2U x_self x_name h Q E→A6r (C4 E') (B6 Q') [some (.val x_self),some (.val x_name),none,none,none,none] h:=by
  have hr_:=M7 hQ
  generalize B6 Q'=D0 at hr_ ⊢
  obtain ⟨nx0,rt0,bk0,ct0⟩:=D0
  have hr_:∀r s env h,Rl env r s→Q s.rr h→rt0 r env h:=hr_
  have he:=M8 hE
  unfold A2U A6r
  exact (C9 (A2q (SN.se (s8 (he _) (SN.se (A3 rfl)) (A9 (A5 (A3 rfl)) B8))) (fun _=> (D1 (C9 (A5x (fun x_found=> [some (.val x_self),some (.val x_name),some x_found,none,none,none]) (fun _=> rfl) (U9 B8) (fun x_found=> (D1 (C9 (C2s (fun (s9:SV) (j10:Option W×Option W)=> [some (.val x_self),some (.val x_name),some s9,(Option.map SV.val j10.1),(Option.map SV.val j10.2),none]) jnd C42 (s0:=x_found) (j0:=(none,none)) rfl rfl (fun s9 j10 hj hd=> (B1V hd.1 (B1V hd.2.1 (C6V hd.2.2 (B7H hj.1 (B7H hj.2 (B7C C3e))))))) (fun s9 j10=> (D1 (J8 hr_ (i7 rfl)))) (fun t0 x_steps s9 j10 kn11 N0 hw HN=> (fun (N12:∀(s:SV) (j:Unit) h,kn11 s h Q E→N0 ((fun (s9:SV) (j10:Option W×Option W)=> [some (.val x_self),some (.val x_name),some s9,(Option.map SV.val j10.1),(Option.map SV.val j10.2),none]) s (some (W.str t0),some x_steps)) h)=> C4s [some (.val x_self),some (.val x_name),some s9,some (.val (W.str t0)),some (.val x_steps),none] rfl (M3 (F8 (SN.se (H8 A8H (E3 (SN.se (A2F (A5Q (A5 (A3 rfl))) (fun x_step h kk K1 K0 h1 h0 z=> by exact l9 (e1:=[some (.val x_self),some (.val x_name),some s9,some (.val (W.str t0)),some (.val x_steps),some (.val x_step)]) O5 A1C (A5 (A2t (SN.se (A07 (A9 (A5 (A3 rfl)) B8))) (B5 P3 (SN.se (B5 L8 (SN.se (A3 rfl)) (SN.se A7))) (SN.se (A3 rfl))))) rfl h1 h0 z))) F9)))) (B6n (fun x_found=> [some (.val x_self),some (.val x_name),some x_found,some (.val (W.str t0)),some (.val x_steps),none]) (fun _=> rfl) A9n rfl (A9 (A5 (A3 rfl)) B8) (fun x_found _=> (fun h z=> N12 x_found () h z))) (N2 (fun h z=> N12 s9 () h z)))) (fun s _ h z=> HN s _ h (C45 hw) z))))))))))))
theorem B8p (ws:List W) (h:AH) (Qa:RR→AH→Prop) (Ea:AExc→AH→Prop) (hl:ws.length=2) (z:upc j9 ws h Qa Ea):A6r (C4 Ea) (B6 Qa) (G8 6 ws) h:=by
  obtain ⟨Q0,E0,hQ,hE,z⟩:=z
  match ws,hl with
  | [x_self,x_name],_=> exact B8w hQ hE x_self x_name h z
theorem B9h {Q:RR→AH→Prop} {E:AExc→AH→Prop} {Q':RR→AH→Prop} {E':AExc→AH→Prop} (hQ:∀r h,Q r h→Q' r h) (hE:∀x h,E x h→E' x h) (x_self x_name:W):∀h,A4p x_self x_name h Q E→A65 (C4 E') (B6 Q') [some (.val x_self),some (.val x_name),none] h:=by
  have hr_:=M7 hQ
  have he:=M8 hE
  unfold A4p A65
  exact (C9 (P5 (fun x_found=> [some (.val x_self),some (.val x_name),some (.val x_found)]) (fun _=> rfl) (A5 (s8 (he _) (SN.se (A3 rfl)) (A9 (A5 (A3 rfl)) B8))) (fun x_found=> (D1 (C9 (M3 (F8 (SN.se (B5 P3 (SN.se (A3 rfl)) (SN.se (U9 B8))))) (A04 (he _) (A9 (A5 (B5 L8 (SN.se (A3 rfl)) (SN.se A7))) B8)) (N2 (D1 (C9 (B5l (d7 (SN.se (A3 rfl))) (A5 (A3 rfl)) ((D1 (B5l (d7 (SN.se (A3 rfl))) (A5 (A3 rfl)) ((A2x hQ _)))))))))))))))
theorem B9Y (ws:List W) (h:AH) (Qa:RR→AH→Prop) (Ea:AExc→AH→Prop) (hl:ws.length=2) (z:upc X3 ws h Qa Ea):A65 (C4 Ea) (B6 Qa) (G8 3 ws) h:=by
  obtain ⟨Q0,E0,hQ,hE,z⟩:=z
  match ws,hl with
  | [x_self,x_name],_=> exact B9h hQ hE x_self x_name h z
theorem B8N {Q:RR→AH→Prop} {E:AExc→AH→Prop} {Q':RR→AH→Prop} {E':AExc→AH→Prop} (hQ:∀r h,Q r h→Q' r h) (hE:∀x h,E x h→E' x h) (x_mbook x_mname:W):∀h,A4S x_mbook x_mname h Q E→A6o (C4 E') (B6 Q') [some (.val x_mbook),some (.val x_mname),none,none] h:=by
  have hr_:=M7 hQ
  generalize B6 Q'=D0 at hr_ ⊢
  obtain ⟨nx0,rt0,bk0,ct0⟩:=D0
  have hr_:∀r s env h,Rl env r s→Q s.rr h→rt0 r env h:=hr_
  have he:=M8 hE
  unfold A4S A6o
  exact (C9 (P5 (fun x_found=> [some (.val x_mbook),some (.val x_mname),some (.val x_found),none]) (fun _=> rfl) (A5 A7) (fun x_found=> (D1 (C9 (C4z (ks:=["BadName","BadRow","BadSizes","InUse","NoRound","NothingLeft","Taken","TooLong","TooMany"]) (i:=3) (j:=2) (l:=[("InUse",(j5 "name"))]) rfl (Nat.le_of_ble_eq_true rfl) (.cons A8B .nil) (he _) (fun s7=> (D1 (J8 hr_ (SN.se (A3 rfl))))) (fun E2 Ein hz kk8 N9=> (A2q (SN.se (s8 hz (SN.se (A3 rfl)) (A9 (A5 (A3 rfl)) B8))) (fun _=> (fun h z=> N9 x_found h z))))))))))
theorem B8X (ws:List W) (h:AH) (Qa:RR→AH→Prop) (Ea:AExc→AH→Prop) (hl:ws.length=2) (z:upc A1n ws h Qa Ea):A6o (C4 Ea) (B6 Qa) (G8 4 ws) h:=by
  obtain ⟨Q0,E0,hQ,hE,z⟩:=z
  match ws,hl with
  | [x_mbook,x_mname],_=> exact B8N hQ hE x_mbook x_mname h z
theorem B8L {Q:RR→AH→Prop} {E:AExc→AH→Prop} {Q':RR→AH→Prop} {E':AExc→AH→Prop} (hQ:∀r h,Q r h→Q' r h) (hE:∀x h,E x h→E' x h) (x_self x_sizes:W):∀h,A4U x_self x_sizes h Q E→A6l (C4 E') (B6 Q') [some (.val x_self),some (.val x_sizes)] h:=by
  have hr_:=M7 hQ
  have he:=M8 hE
  unfold A4U A6l
  exact (C9 (A2q (SN.se (L7 (he _) (A9 (A5 (A3 rfl)) B8))) (fun _=> (D1 (C9 (B0E (A5 (A3 rfl)) (SN.se (A3 rfl)) ((D1 (C9 (B0E (A52 A7j) (SN.se (A3 rfl)) ((D1 (B0E (A52 A7j) (SN.se (A3 rfl)) ((A2x hQ _)))))))))))))))
theorem B8I (ws:List W) (h:AH) (Qa:RR→AH→Prop) (Ea:AExc→AH→Prop) (hl:ws.length=2) (z:upc A2X ws h Qa Ea):A6l (C4 Ea) (B6 Qa) (G8 2 ws) h:=by
  obtain ⟨Q0,E0,hQ,hE,z⟩:=z
  match ws,hl with
  | [x_self,x_sizes],_=> exact B8L hQ hE x_self x_sizes h z
theorem B7y {Q:RR→AH→Prop} {E:AExc→AH→Prop} {Q':RR→AH→Prop} {E':AExc→AH→Prop} (hQ:∀r h,Q r h→Q' r h) (hE:∀x h,E x h→E' x h) (x_self x_name:W):∀h,A4I x_self x_name h Q E→A6g (C4 E') (B6 Q') [some (.val x_self),some (.val x_name)] h:=by
  have hr_:=M7 hQ
  have he:=M8 hE
  unfold A4I A6g
  exact (C9 (M3 (A17 (F8 (SN.se (L7 (he _) (A9 (A5 (A3 rfl)) B8))))) (A04 (he _) B8) (N2 (D1 (C9 (M3 (F8 (SN.se (A8J (A5 (A3 rfl)) (SN.se (d7 (SN.se (A3 rfl))))))) (A04 (he _) (A9 (A5 (A3 rfl)) B8)) (N2 (D1 (M3 (F8 (SN.se (B5 B1R (SN.se (H8 B0P (E3 (SN.se (d7 (SN.se (A3 rfl)))) F9))) (SN.se A7)))) (A04 (he _) (A9 (A5 A7) B8)) (N2 (A2x hQ _)))))))))))
theorem B7x (ws:List W) (h:AH) (Qa:RR→AH→Prop) (Ea:AExc→AH→Prop) (hl:ws.length=2) (z:upc A1j ws h Qa Ea):A6g (C4 Ea) (B6 Qa) (G8 2 ws) h:=by
  obtain ⟨Q0,E0,hQ,hE,z⟩:=z
  match ws,hl with
  | [x_self,x_name],_=> exact B7y hQ hE x_self x_name h z
theorem B8W {Q:RR→AH→Prop} {E:AExc→AH→Prop} {Q':RR→AH→Prop} {E':AExc→AH→Prop} (hQ:∀r h,Q r h→Q' r h) (hE:∀x h,E x h→E' x h) (x_self x_steps:W):∀h,A4P x_self x_steps h Q E→A6m (C4 E') (B6 Q') [some (.val x_self),some (.val x_steps),none,none] h:=by
  have hr_:=M7 hQ
  generalize B6 Q'=D0 at hr_ ⊢
  obtain ⟨nx0,rt0,bk0,ct0⟩:=D0
  have hr_:∀r s env h,Rl env r s→Q s.rr h→rt0 r env h:=hr_
  have he:=M8 hE
  unfold A4P A6m
  exact (C9 (A5x (fun x_found=> [some (.val x_self),some (.val x_steps),some x_found,none]) (fun _=> rfl) (U9 B8) (fun x_found=> (D1 (C9 (B0X (fun (s7:SV) (j8:Option SV)=> [some (.val x_self),some (.val x_steps),some s7,j8]) x_found (none) rfl (A3a (SN.se (A3 rfl))) (fun s7 j8=> (D1 (J8 hr_ (i7 rfl)))) (fun R12 x_step s7 j8 kn9 _ N11 h z=> by refine A1E [some (.val x_self),some (.val x_steps),some s7,some (.val x_step)] O5 rfl h _ ?_;exact A1M h z (M3 (F8 (SN.se (L7 (he _) (A9 (A5 (A3 rfl)) B8)))) (B6H (fun x_found=> [some (.val x_self),some (.val x_steps),some x_found,some (.val x_step)]) (fun _=> rfl) rfl (SN.se (B5 B5O (SN.se (A10 (SN.se (d7 (SN.se (A3 rfl)))) (A5 (B5 L8 (SN.se (A3 rfl)) (SN.se A7))))) (SN.se (B5 L8 (SN.se (A3 rfl)) (SN.se A7))))) (fun x_found=> (fun h z=> N11 x_found (some (.val x_step)) h z))) (B6n (fun x_found=> [some (.val x_self),some (.val x_steps),some x_found,some (.val x_step)]) (fun _=> rfl) A9n rfl (A9 (A5 (A3 rfl)) B8) (fun x_found _=> (fun h z=> N11 x_found (some (.val x_step)) h z)))))))))))
theorem B8f (ws:List W) (h:AH) (Qa:RR→AH→Prop) (Ea:AExc→AH→Prop) (hl:ws.length=2) (z:upc A1m ws h Qa Ea):A6m (C4 Ea) (B6 Qa) (G8 4 ws) h:=by
  obtain ⟨Q0,E0,hQ,hE,z⟩:=z
  match ws,hl with
  | [x_self,x_steps],_=> exact B8W hQ hE x_self x_steps h z
theorem B7v {Q:RR→AH→Prop} {E:AExc→AH→Prop} {Q':RR→AH→Prop} {E':AExc→AH→Prop} (hQ:∀r h,Q r h→Q' r h) (hE:∀x h,E x h→E' x h) (x_self x_at x_step:W):∀h,A4H x_self x_at x_step h Q E→A6f (C4 E') (B6 Q') [some (.val x_self),some (.val x_at),some (.val x_step),none] h:=by
  have hr_:=M7 hQ
  have he:=M8 hE
  unfold A4H A6f
  exact (C9 (P5 (fun x_place=> [some (.val x_self),some (.val x_at),some (.val x_step),some (.val x_place)]) (fun _=> rfl) (A5 (A34 (F8 (SN.se (L7 (he _) (A9 (A5 (A3 rfl)) B8)))) (L7 (he _) (A9 (A5 (A3 rfl)) B8)) (L7 (he _) (A9 (A5 (d7 (SN.se (A3 rfl)))) (A9 (A5 (A3 rfl)) B8))))) (fun x_place=> (D1 (C9 (M3 (F8 (SN.se (B5 A5o (SN.se (A3 rfl)) (SN.se A7)))) (A04 (he _) (A9 (A5 (A3 rfl)) (A9 (A5 (A3 rfl)) B8))) (N2 (D1 (M3 (F8 (SN.se (L7 (he _) (A9 (A5 (A3 rfl)) B8)))) (A2q (SN.se (s8 (he _) (SN.se (A3 rfl)) (A9 (A5 (B5 L8 (SN.se (A3 rfl)) (SN.se A7))) B8))) (fun _=> (A2x hQ _))) (N2 (A2x hQ _)))))))))))
theorem B7w (ws:List W) (h:AH) (Qa:RR→AH→Prop) (Ea:AExc→AH→Prop) (hl:ws.length=3) (z:upc A1i ws h Qa Ea):A6f (C4 Ea) (B6 Qa) (G8 4 ws) h:=by
  obtain ⟨Q0,E0,hQ,hE,z⟩:=z
  match ws,hl with
  | [x_self,x_at,x_step],_=> exact B7v hQ hE x_self x_at x_step h z
theorem B85 {Q:RR→AH→Prop} {E:AExc→AH→Prop} {Q':RR→AH→Prop} {E':AExc→AH→Prop} (hQ:∀r h,Q r h→Q' r h) (hE:∀x h,E x h→E' x h) (x_self x_steps:W):∀h,A4d x_self x_steps h Q E→A62 (C4 E') (B6 Q') [some (.val x_self),some (.val x_steps),none] h:=by
  have hr_:=M7 hQ
  generalize B6 Q'=D0 at hr_ ⊢
  obtain ⟨nx0,rt0,bk0,ct0⟩:=D0
  have hr_:∀r s env h,Rl env r s→Q s.rr h→rt0 r env h:=hr_
  have he:=M8 hE
  unfold A4d A62
  exact (J8 hr_ (SN.se (H8 C4O (E3 (SN.se (C4m (A3a (SN.se (A3 rfl))) (fun x_step h kk K1 K0 h1 h0 z=> by exact l9 (e1:=[some (.val x_self),some (.val x_steps),some (.val x_step)]) O5 A1C (A5 (A34 (F8 (SN.se (A07 (A9 (A5 (A3 rfl)) B8)))) (B5 A11 (SN.se (B5 L8 (SN.se (A3 rfl)) (SN.se A7))) (SN.se (H8 P0 (E3 (SN.se (A10 (SN.se (d7 (SN.se (A3 rfl)))) (A5 (B5 L8 (SN.se (A3 rfl)) (SN.se A7))))) F9)))) A7)) rfl h1 h0 z))) F9))))
theorem B87 (ws:List W) (h:AH) (Qa:RR→AH→Prop) (Ea:AExc→AH→Prop) (hl:ws.length=2) (z:upc A1p ws h Qa Ea):A62 (C4 Ea) (B6 Qa) (G8 3 ws) h:=by
  obtain ⟨Q0,E0,hQ,hE,z⟩:=z
  match ws,hl with
  | [x_self,x_steps],_=> exact B85 hQ hE x_self x_steps h z
theorem B8Z {Q:RR→AH→Prop} {E:AExc→AH→Prop} {Q':RR→AH→Prop} {E':AExc→AH→Prop} (hQ:∀r h,Q r h→Q' r h) (hE:∀x h,E x h→E' x h) (x_self x_name x_steps:W):∀h,A4L x_self x_name x_steps h Q E→A6p (C4 E') (B6 Q') [some (.val x_self),some (.val x_name),some (.val x_steps),none,none] h:=by
  have hr_:=M7 hQ
  have he:=M8 hE
  unfold A4L A6p
  exact (C9 (A2q (SN.se (s8 (he _) (SN.se (A3 rfl)) (A9 (A5 (A3 rfl)) B8))) (fun _=> (D1 (C9 (B0X (fun (s10:Unit) (j11:Option SV×Option SV)=> [some (.val x_self),some (.val x_name),some (.val x_steps),j11.1,j11.2]) () (none,none) rfl (C5i (SN.se (A3 rfl))) (fun s10 j11=> (D1 (C9 (M3 (F8 (SN.se (B5 B1i (SN.se (s8 (he _) (SN.se (A3 rfl)) (A9 (A5 (A3 rfl)) B8))) (SN.se A7)))) (A04 (he _) (A9 (A5 A7) B8)) (N2 (D1 (C9 (B5G (A5 (H8 A7y (E3 (SN.se (A3 rfl)) F9))) (d7 (SN.se (A3 rfl))) (A5 (A3 rfl)) ((D1 (B5G (A5 (s8 (he _) (SN.se (A3 rfl)) (A9 (A5 (A3 rfl)) B8))) (d7 (SN.se (A3 rfl))) (A5 (A3 rfl)) ((A2x hQ _))))))))))))) (fun R18 w15 s10 j11 kn12 _ N14 h z=> by obtain ⟨x_at,x_step,rfl,z17⟩:=A8N z;refine A1E [some (.val x_self),some (.val x_name),some (.val x_steps),some (.val x_at),some (.val x_step)] (B2B O5 O5) rfl h _ ?_;exact A1M h z17 (A2q (SN.se (s8 (he _) (SN.se (A3 rfl)) (A9 (A5 (A3 rfl)) (A9 (A5 (A3 rfl)) B8)))) (fun _=> (fun h z=> N14 () (some (.val x_at),some (.val x_step)) h z))))))))))
theorem B8G (ws:List W) (h:AH) (Qa:RR→AH→Prop) (Ea:AExc→AH→Prop) (hl:ws.length=3) (z:upc A1l ws h Qa Ea):A6p (C4 Ea) (B6 Qa) (G8 5 ws) h:=by
  obtain ⟨Q0,E0,hQ,hE,z⟩:=z
  match ws,hl with
  | [x_self,x_name,x_steps],_=> exact B8Z hQ hE x_self x_name x_steps h z
theorem B9J {Q:RR→AH→Prop} {E:AExc→AH→Prop} {Q':RR→AH→Prop} {E':AExc→AH→Prop} (hQ:∀r h,Q r h→Q' r h) (hE:∀x h,E x h→E' x h) (x_self:W):∀h,A4k x_self h Q E→A63 (C4 E') (B6 Q') [some (.val x_self)] h:=by
  have hr_:=M7 hQ
  generalize B6 Q'=D0 at hr_ ⊢
  obtain ⟨nx0,rt0,bk0,ct0⟩:=D0
  have hr_:∀r s env h,Rl env r s→Q s.rr h→rt0 r env h:=hr_
  have he:=M8 hE
  unfold A4k A63
  exact (J8 hr_ (SN.se (H8 C2W (E3 (SN.se (d7 (SN.se (A3 rfl)))) F9))))
theorem B9U (ws:List W) (h:AH) (Qa:RR→AH→Prop) (Ea:AExc→AH→Prop) (hl:ws.length=1) (z:upc A1r ws h Qa Ea):A63 (C4 Ea) (B6 Qa) (G8 1 ws) h:=by
  obtain ⟨Q0,E0,hQ,hE,z⟩:=z
  match ws,hl with
  | [x_self],_=> exact B9J hQ hE x_self h z
theorem B8j {Q:RR→AH→Prop} {E:AExc→AH→Prop} {Q':RR→AH→Prop} {E':AExc→AH→Prop} (hQ:∀r h,Q r h→Q' r h) (hE:∀x h,E x h→E' x h) (x_self:W):∀h,A4V x_self h Q E→A6q (C4 E') (B6 Q') [some (.val x_self)] h:=by
  have hr_:=M7 hQ
  generalize B6 Q'=D0 at hr_ ⊢
  obtain ⟨nx0,rt0,bk0,ct0⟩:=D0
  have hr_:∀r s env h,Rl env r s→Q s.rr h→rt0 r env h:=hr_
  have he:=M8 hE
  unfold A4V A6q
  exact (J8 hr_ (SN.se (H8 B0P (E3 (SN.se (d7 (SN.se (A3 rfl)))) F9))))
theorem B8s (ws:List W) (h:AH) (Qa:RR→AH→Prop) (Ea:AExc→AH→Prop) (hl:ws.length=1) (z:upc A2Y ws h Qa Ea):A6q (C4 Ea) (B6 Qa) (G8 1 ws) h:=by
  obtain ⟨Q0,E0,hQ,hE,z⟩:=z
  match ws,hl with
  | [x_self],_=> exact B8j hQ hE x_self h z
theorem B8S {Q:RR→AH→Prop} {E:AExc→AH→Prop} {Q':RR→AH→Prop} {E':AExc→AH→Prop} (hQ:∀r h,Q r h→Q' r h) (hE:∀x h,E x h→E' x h) (x_self:W):∀h,A4M x_self h Q E→A6j (C4 E') (B6 Q') [some (.val x_self)] h:=by
  have hr_:=M7 hQ
  generalize B6 Q'=D0 at hr_ ⊢
  obtain ⟨nx0,rt0,bk0,ct0⟩:=D0
  have hr_:∀r s env h,Rl env r s→Q s.rr h→rt0 r env h:=hr_
  have he:=M8 hE
  unfold A4M A6j
  exact (J8 hr_ (SN.se (C1a (.cons (SN.se A7) (.cons (SN.se (C47 (SN.se (H8 B0P (E3 (SN.se (d7 (SN.se (A3 rfl)))) F9))))) (.cons (SN.se A7) .nil))))))
theorem B8V (ws:List W) (h:AH) (Qa:RR→AH→Prop) (Ea:AExc→AH→Prop) (hl:ws.length=1) (z:upc A2V ws h Qa Ea):A6j (C4 Ea) (B6 Qa) (G8 1 ws) h:=by
  obtain ⟨Q0,E0,hQ,hE,z⟩:=z
  match ws,hl with
  | [x_self],_=> exact B8S hQ hE x_self h z
theorem B9d {Q:RR→AH→Prop} {E:AExc→AH→Prop} {Q':RR→AH→Prop} {E':AExc→AH→Prop} (hQ:∀r h,Q r h→Q' r h) (hE:∀x h,E x h→E' x h) (x_self x_name:W):∀h,A4m x_self x_name h Q E→A69 (C4 E') (B6 Q') [some (.val x_self),some (.val x_name)] h:=by
  have hr_:=M7 hQ
  generalize B6 Q'=D0 at hr_ ⊢
  obtain ⟨nx0,rt0,bk0,ct0⟩:=D0
  have hr_:∀r s env h,Rl env r s→Q s.rr h→rt0 r env h:=hr_
  have he:=M8 hE
  unfold A4m A69
  exact (C9 (A2q (SN.se (s8 (he _) (SN.se (A3 rfl)) (A9 (A5 (A3 rfl)) B8))) (fun _=> (D1 (J8 hr_ (SN.se (H8 A7y (E3 (SN.se (A10 (SN.se (d7 (SN.se (A3 rfl)))) (A5 (A3 rfl)))) F9))))))))
theorem B9p (ws:List W) (h:AH) (Qa:RR→AH→Prop) (Ea:AExc→AH→Prop) (hl:ws.length=2) (z:upc A1s ws h Qa Ea):A69 (C4 Ea) (B6 Qa) (G8 2 ws) h:=by
  obtain ⟨Q0,E0,hQ,hE,z⟩:=z
  match ws,hl with
  | [x_self,x_name],_=> exact B9d hQ hE x_self x_name h z
theorem C50 {Q:RR→AH→Prop} {E:AExc→AH→Prop} {Q':RR→AH→Prop} {E':AExc→AH→Prop} (hQ:∀r h,Q r h→Q' r h) (hE:∀x h,E x h→E' x h) (x_script:W):∀h,A5s x_script h Q E→A8T (C4 E') (B6 Q') [some (.val x_script),none,none,none,none,none,none,none,none,none,none,none,none,none,none,none,none,none,none] h:=by
  have hr_:=M7 hQ
  generalize B6 Q'=D0 at hr_ ⊢
  obtain ⟨nx0,rt0,bk0,ct0⟩:=D0
  have hr_:∀r s env h,Rl env r s→Q s.rr h→rt0 r env h:=hr_
  have he:=M8 hE
  unfold A5s A8T
  exact (C9 (A5x (fun x_bag=> [some (.val x_script),some x_bag,none,none,none,none,none,none,none,none,none,none,none,none,none,none,none,none,none]) (fun _=> rfl) (L7 (he _) (A9 (A5 (A3 rfl)) B8)) (fun x_bag=> (D1 (C9 (C3b (fun x_bag=> [some (.val x_script),some (.val x_bag),none,none,none,none,none,none,none,none,none,none,none,none,none,none,none,none,none]) (fun _=> rfl) rfl (fun x_bag=> (P5 (fun x_msizes=> [some (.val x_script),some (.val x_bag),some (.val x_msizes),none,none,none,none,none,none,none,none,none,none,none,none,none,none,none,none]) (fun _=> rfl) (A5 (L7 (he _) (A9 (A5 (A3 rfl)) B8))) (fun x_msizes=> (D1 (C9 (P5 (fun x_names=> [some (.val x_script),some (.val x_bag),some (.val x_msizes),some (.val x_names),none,none,none,none,none,none,none,none,none,none,none,none,none,none,none]) (fun _=> rfl) (A5 (U9 (A9 (A5 A7) (A9 (A5 A7) (A9 (A5 A7) (A9 (A5 A7) B8)))))) (fun x_names=> (D1 (C9 (C4N (A5 (A0r (A9 (A5 (C23 (he _) (A9 (A5 (A3 rfl)) B8))) (A9 (A52 A7j) (A9 (A52 (U9 B8)) (A9 (A52 A7j) B8)))))) (fun w47 h z=> by obtain ⟨x_mbook,x_calls,x_order,x_flats,rfl,z49⟩:=C4a z;refine A1E [some (.val x_script),some (.val x_bag),some (.val x_msizes),some (.val x_names),some (.val x_mbook),some (.val x_calls),some (.val x_order),some (.val x_flats),none,none,none,none,none,none,none,none,none,none,none] (C6y O5 O5 O5 O5) rfl h _ ?_;exact A1M h z49 (D1 (C9 (A5y (fun (s50:Unit) (j51:Option W×Option W×Option W×Option SV×Option W×Option W×Option W×Option W×Option W×Option W)=> [some (.val x_script),some (.val x_bag),some (.val x_msizes),some (.val x_names),some (.val x_mbook),some (.val x_calls),some (.val x_order),some (.val x_flats),(Option.map SV.val j51.1),(Option.map SV.val j51.2.1),(Option.map SV.val j51.2.2.1),j51.2.2.2.1,(Option.map SV.val j51.2.2.2.2.1),(Option.map SV.val j51.2.2.2.2.2.1),(Option.map SV.val j51.2.2.2.2.2.2.1),(Option.map SV.val j51.2.2.2.2.2.2.2.1),(Option.map SV.val j51.2.2.2.2.2.2.2.2.1),(Option.map SV.val j51.2.2.2.2.2.2.2.2.2),none]) () (none,none,none,none,none,none,none,none,none,none) rfl (A3g (E3 (SN.se (B5 Q3 (SN.se A7) (SN.se (L7 (he _) (A9 (A5 (A3 rfl)) (A9 (A5 A7) B8)))))) F9)) (fun s50 j51=> (D1 (J8 hr_ (SN.se A7)))) (fun R55 x_turn s50 j51 kn52 _ N54 h z=> by refine A1E [some (.val x_script),some (.val x_bag),some (.val x_msizes),some (.val x_names),some (.val x_mbook),some (.val x_calls),some (.val x_order),some (.val x_flats),some (.val x_turn),(Option.map SV.val j51.2.1),(Option.map SV.val j51.2.2.1),j51.2.2.2.1,(Option.map SV.val j51.2.2.2.2.1),(Option.map SV.val j51.2.2.2.2.2.1),(Option.map SV.val j51.2.2.2.2.2.2.1),(Option.map SV.val j51.2.2.2.2.2.2.2.1),(Option.map SV.val j51.2.2.2.2.2.2.2.2.1),(Option.map SV.val j51.2.2.2.2.2.2.2.2.2),none] O5 rfl h _ ?_;exact A1M h z (C9 (P5 (fun x_mname=> [some (.val x_script),some (.val x_bag),some (.val x_msizes),some (.val x_names),some (.val x_mbook),some (.val x_calls),some (.val x_order),some (.val x_flats),some (.val x_turn),some (.val x_mname),(Option.map SV.val j51.2.2.1),j51.2.2.2.1,(Option.map SV.val j51.2.2.2.2.1),(Option.map SV.val j51.2.2.2.2.2.1),(Option.map SV.val j51.2.2.2.2.2.2.1),(Option.map SV.val j51.2.2.2.2.2.2.2.1),(Option.map SV.val j51.2.2.2.2.2.2.2.2.1),(Option.map SV.val j51.2.2.2.2.2.2.2.2.2),none]) (fun _=> rfl) (A5 (L7 (he _) (A9 (A5 (A3 rfl)) (A9 (A5 (A3 rfl)) B8)))) (fun x_mname=> (D1 (A71 (fun (s56:Unit) (j57:Option W×Option SV×Option W×Option W×Option W×Option W)=> [some (.val x_script),some (.val x_bag),some (.val x_msizes),some (.val x_names),some (.val x_mbook),some (.val x_calls),some (.val x_order),some (.val x_flats),some (.val x_turn),some (.val x_mname),(Option.map SV.val j57.1),j57.2.1,(Option.map SV.val j51.2.2.2.2.1),(Option.map SV.val j57.2.2.1),(Option.map SV.val j57.2.2.2.1),(Option.map SV.val j57.2.2.2.2.1),(Option.map SV.val j57.2.2.2.2.2),(Option.map SV.val j51.2.2.2.2.2.2.2.2.2),none]) (fun s56 j57=> (C9 (P5 (fun x_count=> [some (.val x_script),some (.val x_bag),some (.val x_msizes),some (.val x_names),some (.val x_mbook),some (.val x_calls),some (.val x_order),some (.val x_flats),some (.val x_turn),some (.val x_mname),(Option.map SV.val j57.1),j57.2.1,(Option.map SV.val j51.2.2.2.2.1),(Option.map SV.val j57.2.2.1),(Option.map SV.val j57.2.2.2.1),(Option.map SV.val j57.2.2.2.2.1),(Option.map SV.val j57.2.2.2.2.2),some (.val x_count),none]) (fun _=> rfl) (A5 (H8 P0 (E3 (SN.se (A3 rfl)) F9))) (fun x_count=> (D1 (C9 (M3 (A17 (F8 (SN.se (L7 (he _) (A9 (A5 (U9 (A9 (A5 (s8 (he _) (SN.se (A3 rfl)) B8)) (A9 (A5 (B6d B0W (SN.se (A3 rfl)))) (A9 (A5 (B6d B0Q (SN.se (A3 rfl)))) B8))))) (A9 (A5 (U9 (A9 (A5 (A3 rfl)) (A9 (A5 (A3 rfl)) (A9 (A5 (B5 Q3 (SN.se (B5 Q3 (SN.se A7) (SN.se (H8 C3L (E3 (SN.se (A3 rfl)) F9))))) (SN.se A7))) B8))))) B8)))))) (J8 hr_ (SN.se A7)) (N2 (D1 (B0X (fun (s58:Unit) (j59:Option SV×Option W)=> [some (.val x_script),some (.val x_bag),some (.val x_msizes),some (.val x_names),some (.val x_mbook),some (.val x_calls),some (.val x_order),some (.val x_flats),some (.val x_turn),some (.val x_mname),(Option.map SV.val j57.1),j59.1,(Option.map SV.val j59.2),(Option.map SV.val j57.2.2.1),(Option.map SV.val j57.2.2.2.1),(Option.map SV.val j57.2.2.2.2.1),(Option.map SV.val j57.2.2.2.2.2),some (.val x_count),none]) () (j57.2.1,j51.2.2.2.2.1) rfl (A3a (SN.se (A3 rfl))) (fun s58 j59=> (fun h z=> N54 () (some x_turn,some x_mname,j57.1,j59.1,j59.2,j57.2.2.1,j57.2.2.2.1,j57.2.2.2.2.1,j57.2.2.2.2.2,some x_count) h z)) (fun R63 x_here s58 j59 kn60 _ N62 h z=> by refine A1E [some (.val x_script),some (.val x_bag),some (.val x_msizes),some (.val x_names),some (.val x_mbook),some (.val x_calls),some (.val x_order),some (.val x_flats),some (.val x_turn),some (.val x_mname),(Option.map SV.val j57.1),j59.1,some (.val x_here),(Option.map SV.val j57.2.2.1),(Option.map SV.val j57.2.2.2.1),(Option.map SV.val j57.2.2.2.2.1),(Option.map SV.val j57.2.2.2.2.2),some (.val x_count),none] O5 rfl h _ ?_;exact A1M h z (C9 (A9w (fun x_near=> [some (.val x_script),some (.val x_bag),some (.val x_msizes),some (.val x_names),some (.val x_mbook),some (.val x_calls),some (.val x_order),some (.val x_flats),some (.val x_turn),some (.val x_mname),(Option.map SV.val j57.1),some x_near,some (.val x_here),(Option.map SV.val j57.2.2.1),(Option.map SV.val j57.2.2.2.1),(Option.map SV.val j57.2.2.2.2.1),(Option.map SV.val j57.2.2.2.2.2),some (.val x_count),none]) (fun _=> rfl) (A3a (SN.se (A3 rfl))) (fun x_there h kk K1 K0 h1 h0 z=> by exact l9 (e1:=[some (.val x_script),some (.val x_bag),some (.val x_msizes),some (.val x_names),some (.val x_mbook),some (.val x_calls),some (.val x_order),some (.val x_flats),some (.val x_turn),some (.val x_mname),(Option.map SV.val j57.1),j59.1,some (.val x_here),(Option.map SV.val j57.2.2.1),(Option.map SV.val j57.2.2.2.1),(Option.map SV.val j57.2.2.2.2.1),(Option.map SV.val j57.2.2.2.2.2),some (.val x_count),some (.val x_there)]) O5 (F8 (SN.se (B5 A3n (SN.se (A3 rfl)) (SN.se (A10 (SN.se (A3 rfl)) (A5 (A3 rfl))))))) (A5 (A3 rfl)) rfl h1 h0 z) (fun x_near=> (D1 (A3p [some (.val x_script),some (.val x_bag),some (.val x_msizes),some (.val x_names),some (.val x_mbook),some (.val x_calls),some (.val x_order),some (.val x_flats),some (.val x_turn),some (.val x_mname),(Option.map SV.val j57.1),some (.val (SV.fz x_near)),some (.val x_here),(Option.map SV.val j57.2.2.1),(Option.map SV.val j57.2.2.2.1),(Option.map SV.val j57.2.2.2.2.1),(Option.map SV.val j57.2.2.2.2.2),some (.val x_count),none] rfl rfl (M3 (A17 (F8 (SN.se (L7 (he _) (A9 (A5 (U9 (A9 (A5 (B4h (he _) (SN.se (A3 rfl)) B8 (A9 (A5 (A3 rfl)) B8))) (A9 (A5 (s8 (he _) (SN.se (A3 rfl)) (A9 (A5 (A3 rfl)) B8))) B8)))) (A9 (A5 (U9 (A9 (A5 (A3 rfl)) (A9 (A5 (A10 (SN.se (A3 rfl)) (A5 (A3 rfl)))) B8)))) B8)))))) (J8 hr_ (SN.se A7)) (N2 (fun h z=> N62 () (some (.val (SV.fz x_near)),some x_here) h z))))))))))))))))))) (fun N65=> (M3 (A55 (F8 (SN.se (A8J (A5 (A3 rfl)) (SN.se (A3 rfl))))) (F8 (SN.se (B5 P3 (SN.se (L7 (he _) (A9 (A5 (A3 rfl)) (A9 (A5 A7) B8)))) (SN.se A7))))) (C9 (P5 (fun x_due=> [some (.val x_script),some (.val x_bag),some (.val x_msizes),some (.val x_names),some (.val x_mbook),some (.val x_calls),some (.val x_order),some (.val x_flats),some (.val x_turn),some (.val x_mname),some (.val x_due),j51.2.2.2.1,(Option.map SV.val j51.2.2.2.2.1),(Option.map SV.val j51.2.2.2.2.2.1),(Option.map SV.val j51.2.2.2.2.2.2.1),(Option.map SV.val j51.2.2.2.2.2.2.2.1),(Option.map SV.val j51.2.2.2.2.2.2.2.2.1),(Option.map SV.val j51.2.2.2.2.2.2.2.2.2),none]) (fun _=> rfl) (A5 (L7 (he _) (A9 (A5 (A3 rfl)) (A9 (A5 (A3 rfl)) B8)))) (fun x_due=> (D1 (C9 (M3 (F8 (SN.se (B5 P3 (SN.se (C0m (he _) (fun f sp hs ws h Qa Ea hl z=> B9A f sp hs ws h Qa Ea hl z) (C3k (fun Q E E' he=> (SN.se (s8 (he _) (SN.se (A3 rfl)) (A9 (A5 (A3 rfl)) B8))))) (C3j B8))) (SN.se (A0r (A9 (A5 A7) (A9 (A5 (A3 rfl)) B8))))))) (J8 hr_ (SN.se A7)) (N2 (D1 (A71 (fun (s66:Unit) (j67:Unit)=> [some (.val x_script),some (.val x_bag),some (.val x_msizes),some (.val x_names),some (.val x_mbook),some (.val x_calls),some (.val x_order),some (.val x_flats),some (.val x_turn),some (.val x_mname),some (.val x_due),j51.2.2.2.1,(Option.map SV.val j51.2.2.2.2.1),(Option.map SV.val j51.2.2.2.2.2.1),(Option.map SV.val j51.2.2.2.2.2.2.1),(Option.map SV.val j51.2.2.2.2.2.2.2.1),(Option.map SV.val j51.2.2.2.2.2.2.2.2.1),(Option.map SV.val j51.2.2.2.2.2.2.2.2.2),none]) (fun s66 j67=> (C9 (A9w (fun x_near=> [some (.val x_script),some (.val x_bag),some (.val x_msizes),some (.val x_names),some (.val x_mbook),some (.val x_calls),some (.val x_order),some (.val x_flats),some (.val x_turn),some (.val x_mname),some (.val x_due),some x_near,(Option.map SV.val j51.2.2.2.2.1),(Option.map SV.val j51.2.2.2.2.2.1),(Option.map SV.val j51.2.2.2.2.2.2.1),(Option.map SV.val j51.2.2.2.2.2.2.2.1),(Option.map SV.val j51.2.2.2.2.2.2.2.2.1),(Option.map SV.val j51.2.2.2.2.2.2.2.2.2),none]) (fun _=> rfl) (A3a (SN.se (A3 rfl))) (fun x_here h kk K1 K0 h1 h0 z=> by exact l9 (e1:=[some (.val x_script),some (.val x_bag),some (.val x_msizes),some (.val x_names),some (.val x_mbook),some (.val x_calls),some (.val x_order),some (.val x_flats),some (.val x_turn),some (.val x_mname),some (.val x_due),j51.2.2.2.1,some (.val x_here),(Option.map SV.val j51.2.2.2.2.2.1),(Option.map SV.val j51.2.2.2.2.2.2.1),(Option.map SV.val j51.2.2.2.2.2.2.2.1),(Option.map SV.val j51.2.2.2.2.2.2.2.2.1),(Option.map SV.val j51.2.2.2.2.2.2.2.2.2),none]) O5 (F8 (SN.se (B5 A3n (SN.se (A3 rfl)) (SN.se (C2o (SN.se (A3 rfl)) (A5 (A3 rfl)) (A5 (U9 B8))))))) (A5 (A3 rfl)) (by generalize j51.2.2.2.2.1=q0;cases q0 <;> rfl) h1 h0 z) (fun x_near=> (D1 (M3 (A5q (F8 (SN.se (B5 P3 (SN.se (A3 rfl)) (SN.se A7)))) (F8 (SN.se (B5 P3 (SN.se (L7 (he _) (A9 (A5 (A3 rfl)) (A9 (A5 (A3 rfl)) B8)))) (SN.se (B5 L8 (i7 rfl) (SN.se A7))))))) (J8 hr_ (SN.se A7)) (N2 (fun h z=> N65 () (some x_due,some x_near,j51.2.2.2.2.2.1,j51.2.2.2.2.2.2.1,j51.2.2.2.2.2.2.2.1,j51.2.2.2.2.2.2.2.2.1) h z)))))))) (fun N69=> (M3 (F8 (SN.se (B5 P3 (SN.se (A3 rfl)) (SN.se A7)))) (C9 (C4B (A3 rfl) (A5 (A3 rfl)) ((D1 (B6l C3y (A3 rfl) (A9 (A5 (A3 rfl)) B8) ((fun h z=> N69 () () h z))))))) (N2 (fun h z=> N69 () () h z))))))))))))) (C9 (A9w (fun x_some=> [some (.val x_script),some (.val x_bag),some (.val x_msizes),some (.val x_names),some (.val x_mbook),some (.val x_calls),some (.val x_order),some (.val x_flats),some (.val x_turn),some (.val x_mname),(Option.map SV.val j51.2.2.1),j51.2.2.2.1,(Option.map SV.val j51.2.2.2.2.1),some x_some,(Option.map SV.val j51.2.2.2.2.2.2.1),(Option.map SV.val j51.2.2.2.2.2.2.2.1),(Option.map SV.val j51.2.2.2.2.2.2.2.2.1),(Option.map SV.val j51.2.2.2.2.2.2.2.2.2),none]) (fun _=> rfl) (A3a (SN.se (A3 rfl))) (fun x_here h kk K1 K0 h1 h0 z=> by exact l9 (e1:=[some (.val x_script),some (.val x_bag),some (.val x_msizes),some (.val x_names),some (.val x_mbook),some (.val x_calls),some (.val x_order),some (.val x_flats),some (.val x_turn),some (.val x_mname),(Option.map SV.val j51.2.2.1),j51.2.2.2.1,some (.val x_here),(Option.map SV.val j51.2.2.2.2.2.1),(Option.map SV.val j51.2.2.2.2.2.2.1),(Option.map SV.val j51.2.2.2.2.2.2.2.1),(Option.map SV.val j51.2.2.2.2.2.2.2.2.1),(Option.map SV.val j51.2.2.2.2.2.2.2.2.2),none]) O5 (F8 (SN.se (B5 P3 (SN.se (A07 (A9 (A5 (A3 rfl)) (A9 (A5 A7) B8)))) (SN.se A7)))) (A5 (A3 rfl)) (by generalize j51.2.2.2.2.1=q0;cases q0 <;> rfl) h1 h0 z) (fun x_some=> (D1 (C9 (P5 (fun x_mdeeds=> [some (.val x_script),some (.val x_bag),some (.val x_msizes),some (.val x_names),some (.val x_mbook),some (.val x_calls),some (.val x_order),some (.val x_flats),some (.val x_turn),some (.val x_mname),(Option.map SV.val j51.2.2.1),j51.2.2.2.1,(Option.map SV.val j51.2.2.2.2.1),some x_some,some (.val x_mdeeds),(Option.map SV.val j51.2.2.2.2.2.2.2.1),(Option.map SV.val j51.2.2.2.2.2.2.2.2.1),(Option.map SV.val j51.2.2.2.2.2.2.2.2.2),none]) (fun _=> rfl) (A5 (L7 (he _) (A9 (A5 (A3 rfl)) (A9 (A5 (A3 rfl)) (A9 (A5 A7) (A9 (A5 A7) B8)))))) (fun x_mdeeds=> (D1 (C9 (A3p [some (.val x_script),some (.val x_bag),some (.val x_msizes),some (.val x_names),some (.val x_mbook),some (.val x_calls),some (.val x_order),some (.val x_flats),some (.val x_turn),some (.val x_mname),(Option.map SV.val j51.2.2.1),j51.2.2.2.1,(Option.map SV.val j51.2.2.2.2.1),some (.val (SV.fz x_some)),some (.val x_mdeeds),(Option.map SV.val j51.2.2.2.2.2.2.2.1),(Option.map SV.val j51.2.2.2.2.2.2.2.2.1),(Option.map SV.val j51.2.2.2.2.2.2.2.2.2),none] rfl rfl (P5 (fun x_msteps=> [some (.val x_script),some (.val x_bag),some (.val x_msizes),some (.val x_names),some (.val x_mbook),some (.val x_calls),some (.val x_order),some (.val x_flats),some (.val x_turn),some (.val x_mname),(Option.map SV.val j51.2.2.1),j51.2.2.2.1,(Option.map SV.val j51.2.2.2.2.1),some (.val (SV.fz x_some)),some (.val x_mdeeds),some (.val x_msteps),(Option.map SV.val j51.2.2.2.2.2.2.2.2.1),(Option.map SV.val j51.2.2.2.2.2.2.2.2.2),none]) (fun _=> rfl) (A5 (B5 Q3 (SN.se (A2F (A5Q (A5 (A3 rfl))) (fun x_here h kk K1 K0 h1 h0 z=> by exact l9 (e1:=[some (.val x_script),some (.val x_bag),some (.val x_msizes),some (.val x_names),some (.val x_mbook),some (.val x_calls),some (.val x_order),some (.val x_flats),some (.val x_turn),some (.val x_mname),(Option.map SV.val j51.2.2.1),j51.2.2.2.1,some (.val x_here),some (.val (SV.fz x_some)),some (.val x_mdeeds),(Option.map SV.val j51.2.2.2.2.2.2.2.1),(Option.map SV.val j51.2.2.2.2.2.2.2.2.1),(Option.map SV.val j51.2.2.2.2.2.2.2.2.2),none]) O5 A1C (A5 (A0r (A9 (A5 A7) (A9 (A5 (A3 rfl)) (A9 (A5 (A07 (A9 (A5 (A3 rfl)) (A9 (A5 A7) B8)))) B8))))) (by generalize j51.2.2.2.2.1=q0;cases q0 <;> rfl) h1 h0 z))) (SN.se (A3 rfl)))) (fun x_msteps=> (D1 (C9 (P5 (fun x_laid=> [some (.val x_script),some (.val x_bag),some (.val x_msizes),some (.val x_names),some (.val x_mbook),some (.val x_calls),some (.val x_order),some (.val x_flats),some (.val x_turn),some (.val x_mname),(Option.map SV.val j51.2.2.1),j51.2.2.2.1,(Option.map SV.val j51.2.2.2.2.1),some (.val (SV.fz x_some)),some (.val x_mdeeds),some (.val x_msteps),some (.val x_laid),(Option.map SV.val j51.2.2.2.2.2.2.2.2.2),none]) (fun _=> rfl) (A5 (L7 (he _) (A9 (A5 (A3 rfl)) (A9 (A5 (A8g (SN.se (A3 rfl)) A8k (A7w (SN.se (H8 P0 (E3 (SN.se (A3 rfl)) F9)))))) B8)))) (fun x_laid=> (D1 (C9 (M3 (F8 (SN.se (B5 B1i (SN.se (H8 P0 (E3 (SN.se (A3 rfl)) F9))) (SN.se A7)))) (C5V (fun h z=> N54 () (some x_turn,some x_mname,j51.2.2.1,j51.2.2.2.1,j51.2.2.2.2.1,some (SV.fz x_some),some x_mdeeds,some x_msteps,some x_laid,j51.2.2.2.2.2.2.2.2.2) h z)) (N2 (D1 (C9 (M3 (F8 (SN.se (B5 A5o (SN.se (B4h (he _) (SN.se (A3 rfl)) B8 (A9 (A5 (A3 rfl)) (A9 (A5 (H8 B0b (E3 (SN.se (A3 rfl)) F9))) B8)))) (SN.se A7)))) (J8 hr_ (SN.se A7)) (N2 (D1 (C9 (C4E (A5 (A0r (A9 (A5 (A3 rfl)) (A9 (A5 (B5 Q3 (SN.se (A3 rfl)) (SN.se (A3 rfl)))) B8)))) (SN.se (A3 rfl)) (A5 (A3 rfl)) (SN.se (A3 rfl)) (A5 (A3 rfl)) ((D1 (B6l A9n (A3 rfl) (A9 (A5 (A3 rfl)) B8) ((fun h z=> N65 () (j51.2.2.1,j51.2.2.2.1,some (SV.fz x_some),some x_mdeeds,some x_msteps,some x_laid) h z))))))))))))))))))))))))))))))))))))))))))))))))))))))))))))
theorem C5o (ws:List W) (h:AH) (Qa:RR→AH→Prop) (Ea:AExc→AH→Prop) (hl:ws.length=1) (z:upc m_law ws h Qa Ea):A8T (C4 Ea) (B6 Qa) (G8 19 ws) h:=by
  obtain ⟨Q0,E0,hQ,hE,z⟩:=z
  match ws,hl with
  | [x_script],_=> exact C50 hQ hE x_script h z
end Ab
namespace Ab
open PySem PySem.Spec PyProof.Rows L2 RZ
abbrev A9a:List Str:=["sizes","cask","size"]
abbrev A43:List Str:=["sizes"]
theorem B3T:FnScope A9a A43 (defScope Z9):=⟨rfl,rfl,rfl,by decide+kernel,rfl,by decide+kernel,by decide+kernel⟩
theorem B9v:O8 "look_sizes" Z9 A43:=fun _ _ _ _ _ _ us hl=> match us,hl with | [_],_=> rfl
abbrev A9d:List Str:=["word","many","casks"]
abbrev A5A:List Str:=["word","many","casks"]
theorem B3m:FnScope A9d A5A (defScope c5):=⟨rfl,rfl,rfl,by decide+kernel,rfl,by decide+kernel,by decide+kernel⟩
theorem B90:O8 "has_count" c5 A5A:=fun _ _ _ _ _ _ us hl=> match us,hl with | [_,_,_],_=> rfl
abbrev A9e:List Str:=["things","start","casks","at","cask"]
abbrev A5F:List Str:=["things","start","casks"]
theorem B3g:FnScope A9e A5F (defScope c8):=⟨rfl,rfl,rfl,by decide+kernel,rfl,by decide+kernel,by decide+kernel⟩
theorem B3Z:O8 "first_bad" c8 A5F:=fun _ _ _ _ _ _ us hl=> match us,hl with | [_,_,_],_=> rfl
abbrev A9l:List Str:=["sizes","deed","word","things","bad","many","casks"]
abbrev A5G:List Str:=["sizes","deed"]
theorem B37:FnScope A9l A5G (defScope c9):=⟨rfl,rfl,rfl,by decide+kernel,rfl,by decide+kernel,by decide+kernel⟩
theorem C0o:O8 "fault_of" c9 A5G:=fun _ _ _ _ _ _ us hl=> match us,hl with | [_,_],_=> rfl
abbrev A7T:List Str:=["text","sign"]
abbrev A5K:List Str:=["text"]
theorem B4C:FnScope A7T A5K (defScope X6):=⟨rfl,rfl,rfl,by decide+kernel,rfl,by decide+kernel,by decide+kernel⟩
theorem C1d:O8 "is_name" X6 A5K:=fun _ _ _ _ _ _ us hl=> match us,hl with | [_],_=> rfl
abbrev A9q:List Str:=["step"]
abbrev x7:List Str:=["step"]
theorem B4D:FnScope A9q x7 (defScope R8):=⟨rfl,rfl,rfl,by decide+kernel,rfl,by decide+kernel,by decide+kernel⟩
theorem A5M:O8 "is_call" R8 x7:=fun _ _ _ _ _ _ us hl=> match us,hl with | [_],_=> rfl
abbrev A9b:List Str:=["step"]
abbrev A4z:List Str:=["step"]
theorem B3R:FnScope A9b A4z (defScope Z8):=⟨rfl,rfl,rfl,by decide+kernel,rfl,by decide+kernel,by decide+kernel⟩
theorem B9W:O8 "call_fault" Z8 A4z:=fun _ _ _ _ _ _ us hl=> match us,hl with | [_],_=> rfl
abbrev A9f:List Str:=["_law_script"]
abbrev A5C:List Str:=["_law_script"]
theorem B3X:FnScope A9f A5C (defScope c7):=⟨rfl,rfl,rfl,by decide+kernel,rfl,by decide+kernel,by decide+kernel⟩
theorem C0Q:O8 "_law_open" c7 A5C:=fun _ _ _ _ _ _ us hl=> match us,hl with | [_],_=> rfl
abbrev A9j:List Str:=["_law_bag","_law_sides","_law_cell","_law_side","_law_mix"]
abbrev V8:List Str:=["_law_bag","_law_sides"]
theorem B3Y:FnScope A9j V8 (defScope O6):=⟨rfl,rfl,rfl,by decide+kernel,rfl,by decide+kernel,by decide+kernel⟩
theorem V9:O8 "_law_take" O6 V8:=fun _ _ _ _ _ _ us hl=> match us,hl with | [_,_],_=> rfl
abbrev A9c:List Str:=["_law_bag","_law_row_here"]
abbrev w5:List Str:=["_law_bag","_law_row_here"]
theorem B3e:FnScope A9c w5 (defScope R7):=⟨rfl,rfl,rfl,by decide+kernel,rfl,by decide+kernel,by decide+kernel⟩
theorem A5E:O8 "_law_pick" R7 w5:=fun _ _ _ _ _ _ us hl=> match us,hl with | [_,_],_=> rfl
abbrev A7J:List Str:=["_law_found","_law_due","_law_at"]
abbrev A2i:List Str:=["_law_found","_law_due"]
theorem B3o:FnScope A7J A2i (defScope W0):=⟨rfl,rfl,rfl,by decide+kernel,rfl,by decide+kernel,by decide+kernel⟩
theorem A9g:O8 "_law_same" W0 A2i:=fun _ _ _ _ _ _ us hl=> match us,hl with | [_,_],_=> rfl
abbrev A7B:List Str:=["_law_ask","_law_told","_law_word_here","e"]
abbrev B3j:List Str:=["_law_ask"]
theorem B3h:FnScope A7B B3j (defScope X4):=⟨rfl,rfl,rfl,by decide+kernel,rfl,by decide+kernel,by decide+kernel⟩
theorem B92:O8 "_law_word" X4 B3j:=fun _ _ _ _ _ _ us hl=> match us,hl with | [_],_=> rfl
abbrev A67:List Str:=["_law_bag","_law_mcasks","_law_most","_law_mcask"]
abbrev A44:List Str:=["_law_bag","_law_mcasks","_law_most"]
theorem B3P:FnScope A67 A44 (defScope X2):=⟨rfl,rfl,rfl,by decide+kernel,rfl,by decide+kernel,by decide+kernel⟩
theorem B9m:O8 "_law_sizes" X2 A44:=fun _ _ _ _ _ _ us hl=> match us,hl with | [_,_,_],_=> rfl
abbrev A9M:List Str:=["_law_bag"]
abbrev A4Y:List Str:=["_law_bag"]
theorem B2u:FnScope A9M A4Y (defScope Z2):=⟨rfl,rfl,rfl,by decide+kernel,rfl,by decide+kernel,by decide+kernel⟩
theorem B8Q:O8 "_law_any_sizes" Z2 A4Y:=fun _ _ _ _ _ _ us hl=> match us,hl with | [_],_=> rfl
abbrev A9X:List Str:=["_law_bag","_law_some"]
abbrev A4u:List Str:=["_law_bag"]
theorem B27:FnScope A9X A4u (defScope Z4):=⟨rfl,rfl,rfl,by decide+kernel,rfl,by decide+kernel,by decide+kernel⟩
theorem B9T:O8 "_law_number" Z4 A4u:=fun _ _ _ _ _ _ us hl=> match us,hl with | [_],_=> rfl
abbrev A6w:List Str:=["_law_bag","_law_row_here","_law_left","_law_thing"]
abbrev A4e:List Str:=["_law_bag","_law_row_here"]
theorem B20:FnScope A6w A4e (defScope W9):=⟨rfl,rfl,rfl,by decide+kernel,rfl,by decide+kernel,by decide+kernel⟩
theorem B8r:O8 "_law_shuffled" W9 A4e:=fun _ _ _ _ _ _ us hl=> match us,hl with | [_,_],_=> rfl
abbrev A9K:List Str:=["_law_bag","_law_mcasks","_law_mmany"]
abbrev A4Q:List Str:=["_law_bag","_law_mcasks","_law_mmany"]
theorem B2i:FnScope A9K A4Q (defScope Y7):=⟨rfl,rfl,rfl,by decide+kernel,rfl,by decide+kernel,by decide+kernel⟩
theorem B8D:O8 "_law_some_casks" Y7 A4Q:=fun _ _ _ _ _ _ us hl=> match us,hl with | [_,_,_],_=> rfl
abbrev A4x:List Str:=["_law_msizes","_law_found","_law_mone","_law_near","_law_at"]
abbrev A41:List Str:=["_law_msizes"]
theorem B3M:FnScope A4x A41 (defScope V7):=⟨rfl,rfl,rfl,by decide+kernel,rfl,by decide+kernel,by decide+kernel⟩
theorem B9w:O8 "_law_alike" V7 A41:=fun _ _ _ _ _ _ us hl=> match us,hl with | [_],_=> rfl
abbrev A9k:List Str:=["_law_bag","_law_msizes","_law_number_here","_law_taps","_law_how","_law_pairs","_law_mmany","_law_word_here"]
abbrev A49:List Str:=["_law_bag","_law_msizes","_law_number_here","_law_taps"]
theorem B3i:FnScope A9k A49 (defScope c6):=⟨rfl,rfl,rfl,by decide+kernel,rfl,by decide+kernel,by decide+kernel⟩
theorem C0X:O8 "_law_deed" c6 A49:=fun _ _ _ _ _ _ us hl=> match us,hl with | [_,_,_,_],_=> rfl
abbrev A7N:List Str:=["_law_bag","_law_msizes","_law_most","_law_taps","_law_k"]
abbrev A5I:List Str:=["_law_bag","_law_msizes","_law_most","_law_taps"]
theorem B34:FnScope A7N A5I (defScope X5):=⟨rfl,rfl,rfl,by decide+kernel,rfl,by decide+kernel,by decide+kernel⟩
theorem C0n:O8 "_law_row" X5 A5I:=fun _ _ _ _ _ _ us hl=> match us,hl with | [_,_,_,_],_=> rfl
abbrev A6z:List Str:=["_law_calls","_law_mname","_law_mother"]
abbrev A4h:List Str:=["_law_calls","_law_mname"]
theorem B26:FnScope A6z A4h (defScope X0):=⟨rfl,rfl,rfl,by decide+kernel,rfl,by decide+kernel,by decide+kernel⟩
theorem B8x:O8 "_law_word_of" X0 A4h:=fun _ _ _ _ _ _ us hl=> match us,hl with | [_,_],_=> rfl
abbrev A9L:List Str:=["_law_flats","_law_calls","_law_found","_law_call"]
abbrev A4N:List Str:=["_law_flats","_law_calls"]
theorem B2l:FnScope A9L A4N (defScope Y6):=⟨rfl,rfl,rfl,by decide+kernel,rfl,by decide+kernel,by decide+kernel⟩
theorem B79:O8 "_law_laid_calls" Y6 A4N:=fun _ _ _ _ _ _ us hl=> match us,hl with | [_,_],_=> rfl
abbrev A9V:List Str:=["self","name"]
abbrev A01:List Str:=["self","name"]
theorem B3B:FnScope A9V A01 (defScope U2):=⟨rfl,rfl,rfl,by decide+kernel,rfl,by decide+kernel,by decide+kernel⟩
theorem A9S:V1 "Book" "there" U2 A01:=fun _ _ _ _ _ _ us hl=> match us,hl with | [_,_],_=> rfl
abbrev A6u:List Str:=["self","name","found","other","steps","step"]
abbrev A1o:List Str:=["self","name"]
theorem B2w:FnScope A6u A1o (defScope U0):=⟨rfl,rfl,rfl,by decide+kernel,rfl,by decide+kernel,by decide+kernel⟩
theorem B8c:V1 "Book" "callers" U0 A1o:=fun _ _ _ _ _ _ us hl=> match us,hl with | [_,_],_=> rfl
abbrev A9Y:List Str:=["self","name","found"]
abbrev A2e:List Str:=["self","name"]
theorem B3K:FnScope A9Y A2e (defScope V6):=⟨rfl,rfl,rfl,by decide+kernel,rfl,by decide+kernel,by decide+kernel⟩
theorem B28:V1 "Book" "drop" V6 A2e:=fun _ _ _ _ _ _ us hl=> match us,hl with | [_,_],_=> rfl
abbrev A9W:List Str:=["_law_mbook","_law_mname","_law_found","e"]
abbrev A4s:List Str:=["_law_mbook","_law_mname"]
theorem B3H:FnScope A9W A4s (defScope Z7):=⟨rfl,rfl,rfl,by decide+kernel,rfl,by decide+kernel,by decide+kernel⟩
theorem B9B:O8 "_law_caller" Z7 A4s:=fun _ _ _ _ _ _ us hl=> match us,hl with | [_,_],_=> rfl
abbrev A9O:List Str:=["self","sizes"]
abbrev A4W:List Str:=["self","sizes"]
theorem B2p:FnScope A9O A4W (defScope Z0):=⟨rfl,rfl,rfl,by decide+kernel,rfl,by decide+kernel,by decide+kernel⟩
theorem B8E:V1 "Book" "__init__" Z0 A4W:=fun _ _ _ _ _ _ us hl=> match us,hl with | [_,_],_=> rfl
abbrev A9N:List Str:=["self","name"]
abbrev A4c:List Str:=["self","name"]
theorem B2q:FnScope A9N A4c (defScope Y9):=⟨rfl,rfl,rfl,by decide+kernel,rfl,by decide+kernel,by decide+kernel⟩
theorem B8B:V1 "Book" "look_new" Y9 A4c:=fun _ _ _ _ _ _ us hl=> match us,hl with | [_,_],_=> rfl
abbrev A9P:List Str:=["self","steps","found","step"]
abbrev A4a:List Str:=["self","steps"]
theorem B2n:FnScope A9P A4a (defScope Z1):=⟨rfl,rfl,rfl,by decide+kernel,rfl,by decide+kernel,by decide+kernel⟩
theorem B73:V1 "Book" "laid_out" Z1 A4a:=fun _ _ _ _ _ _ us hl=> match us,hl with | [_,_],_=> rfl
abbrev A9J:List Str:=["self","at","step","place"]
abbrev A4R:List Str:=["self","at","step"]
theorem B2g:FnScope A9J A4R (defScope Y5):=⟨rfl,rfl,rfl,by decide+kernel,rfl,by decide+kernel,by decide+kernel⟩
theorem B7z:V1 "Book" "look_step" Y5 A4R:=fun _ _ _ _ _ _ us hl=> match us,hl with | [_,_,_],_=> rfl
abbrev A60:List Str:=["self","steps","step"]
abbrev A4l:List Str:=["self","steps"]
theorem B22:FnScope A60 A4l (defScope X1):=⟨rfl,rfl,rfl,by decide+kernel,rfl,by decide+kernel,by decide+kernel⟩
theorem B8t:V1 "Book" "length" X1 A4l:=fun _ _ _ _ _ _ us hl=> match us,hl with | [_,_],_=> rfl
abbrev A9T:List Str:=["self","name","steps","at","step"]
abbrev A4r:List Str:=["self","name","steps"]
theorem B3C:FnScope A9T A4r (defScope Z5):=⟨rfl,rfl,rfl,by decide+kernel,rfl,by decide+kernel,by decide+kernel⟩
abbrev A9U:List Str:=["self"]
abbrev A4v:List Str:=["self"]
theorem B3D:FnScope A9U A4v (defScope Z6):=⟨rfl,rfl,rfl,by decide+kernel,rfl,by decide+kernel,by decide+kernel⟩
theorem B82:V1 "Book" "names" Z6 A4v:=fun _ _ _ _ _ _ us hl=> match us,hl with | [_],_=> rfl
abbrev A9R:List Str:=["self"]
abbrev A4f:List Str:=["self"]
theorem B2x:FnScope A9R A4f (defScope Z3):=⟨rfl,rfl,rfl,by decide+kernel,rfl,by decide+kernel,by decide+kernel⟩
theorem B8H:V1 "Book" "__len__" Z3 A4f:=fun _ _ _ _ _ _ us hl=> match us,hl with | [_],_=> rfl
abbrev A9Q:List Str:=["self"]
abbrev A4b:List Str:=["self"]
theorem B2v:FnScope A9Q A4b (defScope Y8):=⟨rfl,rfl,rfl,by decide+kernel,rfl,by decide+kernel,by decide+kernel⟩
theorem B72:V1 "Book" "__repr__" Y8 A4b:=fun _ _ _ _ _ _ us hl=> match us,hl with | [_],_=> rfl
abbrev A9Z:List Str:=["self","name"]
abbrev A47:List Str:=["self","name"]
theorem B3L:FnScope A9Z A47 (defScope a9):=⟨rfl,rfl,rfl,by decide+kernel,rfl,by decide+kernel,by decide+kernel⟩
theorem B9G:V1 "Book" "flat" a9 A47:=fun _ _ _ _ _ _ us hl=> match us,hl with | [_,_],_=> rfl
abbrev A1O:List Str:=["_law_script","_law_bag","_law_msizes","_law_names","_law_mbook","_law_calls","_law_order","_law_flats","_law_turn","_law_mname","_law_due","_law_near","_law_here","_law_some","_law_mdeeds","_law_msteps","_law_laid","_law_count","_law_there"]
abbrev A8u:List Str:=["_law_script"]
theorem B6x:FnScope A1O A8u (defScope V2):=⟨rfl,rfl,rfl,by decide+kernel,rfl,by decide+kernel,by decide+kernel⟩
theorem C0d:FnScope ["self"] ["self"] (defScope A7Q):=⟨rfl,rfl,rfl,by decide+kernel,rfl,by decide+kernel,by decide+kernel⟩
theorem C09:FnScope ["self","step","place"] ["self","step","place"] (defScope A7W):=⟨rfl,rfl,rfl,by decide+kernel,rfl,by decide+kernel,by decide+kernel⟩
theorem C0K:FnScope ["self","cask"] ["self","cask"] (defScope A7H):=⟨rfl,rfl,rfl,by decide+kernel,rfl,by decide+kernel,by decide+kernel⟩
theorem C2p:FnScope ["self","name"] ["self","name"] (defScope A7d):=⟨rfl,rfl,rfl,by decide+kernel,rfl,by decide+kernel,by decide+kernel⟩
theorem C0v:FnScope ["self","name"] ["self","name"] (defScope A7L):=⟨rfl,rfl,rfl,by decide+kernel,rfl,by decide+kernel,by decide+kernel⟩
theorem B80:FnScope ["self"] ["self"] (defScope A61):=⟨rfl,rfl,rfl,by decide+kernel,rfl,by decide+kernel,by decide+kernel⟩
theorem C2h:FnScope ["self","name"] ["self","name"] (defScope A7n):=⟨rfl,rfl,rfl,by decide+kernel,rfl,by decide+kernel,by decide+kernel⟩
theorem C0x:FnScope ["self","most"] ["self","most"] (defScope A7R):=⟨rfl,rfl,rfl,by decide+kernel,rfl,by decide+kernel,by decide+kernel⟩
theorem C0z:FnScope ["self","most"] ["self","most"] (defScope A7O):=⟨rfl,rfl,rfl,by decide+kernel,rfl,by decide+kernel,by decide+kernel⟩
theorem B7t:MB "write" (("Book":Str)++"."++"write") Z5 [] A4r ["name","steps"] 1 [0,1,2] []:=B6I (fun _ _ _ _ _ _ us ws h1 h2=> match us,ws,h1,h2 with | [u0],[w0,w1],_,_=> rfl)
theorem B7u:MB "callers" (("Book":Str)++"."++"callers") U0 [] A1o ["name"] 1 [0,1] []:=B6I (fun _ _ _ _ _ _ us ws h1 h2=> match us,ws,h1,h2 with | [u0],[w0],_,_=> rfl)
end Ab
namespace Ab
open PySem PySem.Spec PyProof.Rows L2 RZ
structure Blt (K:PySem.W.Frag) (w:World) (mg:Str→Option Value):Prop where
  n_all:mg "all"=none
  n_any:mg "any"=none
  n_bool:mg "bool"=none
  n_enumerate:mg "enumerate"=none
  n_int:mg "int"=none
  n_isinstance:mg "isinstance"=none
  n_len:mg "len"=none
  n_list:mg "list"=none
  n_range:mg "range"=none
  n_repr:mg "repr"=none
  n_str:mg "str"=none
  n_sum:mg "sum"=none
  n_tuple:mg "tuple"=none
  c_GREAT:∃t,mg "GREAT"=some (.int 1000000000000000000000000000000 t)
  c_LETTERS:∃t,mg "LETTERS"=some (.str ("abcdefghijklmnopqrstuvwxyz":Str) t)
  c_LONGEST:∃t,mg "LONGEST"=some (.int 8 t)
  c_MOST_CALLS:∃t,mg "MOST_CALLS"=some (.int 9 t)
  c_MOST_CASKS:∃t,mg "MOST_CASKS"=some (.int 6 t)
  c_MOST_FLAT:∃t,mg "MOST_FLAT"=some (.int 200 t)
  c_MOST_ROUNDS:∃t,mg "MOST_ROUNDS"=some (.int 12 t)
  c_MOST_SIZE:∃t,mg "MOST_SIZE"=some (.int 40 t)
  c_PATHS:∃a vs,mg "PATHS"=some (.ref a)∧(∀H,SqT K H a vs)∧∀H,RepL K H [.str ("over":Str),.str ("down":Str)] vs
  c_PLAIN:∃a vs,mg "PLAIN"=some (.ref a)∧(∀H,SqT K H a vs)∧∀H,RepL K H [.str ("swap":Str),.str ("tap":Str),.str ("drain":Str)] vs
  h_HideError:mg "HideError"=some (.ref (He.ga K "HideError"))
  h_InUse:mg "InUse"=some (.ref (He.ga K "InUse"))
  h_Missing:mg "Missing"=some (.ref (He.ga K "Missing"))
  h_NothingLeft:mg "NothingLeft"=some (.ref (He.ga K "NothingLeft"))
  x_HideError:∀k∈(["BadName","BadRow","BadSizes","InUse","NoRound","NothingLeft","Taken","TooLong","TooMany"]:List Str),PySem.W.exmOne K (.ref (He.ga K k)) (.ref (He.ga K "HideError"))=some (g7 k "HideError")
  x_InUse:∀k∈(["BadName","BadRow","BadSizes","InUse","NoRound","NothingLeft","Taken","TooLong","TooMany"]:List Str),PySem.W.exmOne K (.ref (He.ga K k)) (.ref (He.ga K "InUse"))=some (g7 k "InUse")
  x_Missing:∀k∈(["BadName","BadRow","BadSizes","InUse","NoRound","NothingLeft","Taken","TooLong","TooMany"]:List Str),PySem.W.exmOne K (.ref (He.ga K k)) (.ref (He.ga K "Missing"))=some (g7 k "Missing")
  x_NothingLeft:∀k∈(["BadName","BadRow","BadSizes","InUse","NoRound","NothingLeft","Taken","TooLong","TooMany"]:List Str),PySem.W.exmOne K (.ref (He.ga K k)) (.ref (He.ga K "NothingLeft"))=some (g7 k "NothingLeft")
  f_name:∀c∈(["BadName","BadRow","BadSizes","InUse","NoRound","NothingLeft","Taken","TooLong","TooMany"]:List Str),XfC K (He.ga K c)∧PySem.W.findIn K (.ref (He.ga K c)) "name"=some none
  f_word:∀c∈(["BadName","BadRow","BadSizes","InUse","NoRound","NothingLeft","Taken","TooLong","TooMany"]:List Str),XfC K (He.ga K c)∧PySem.W.findIn K (.ref (He.ga K c)) "word"=some none
  fo_Book_casks:FldOk K "Book" "casks"
  fo_Book_laid:FldOk K "Book" "laid"
  fo_Book_written:FldOk K "Book" "written"
  mk_Book:MkC K mg "Book"
theorem B9k {P:Program} {w:World} {K:PySem.W.Frag} {mg:Str→Option Value} {base:Heap} {f:Addr} {cdv:Value} {A:Around} {outer:List Env} {s:Shared} {H:Hp} {EX:XK} {G:Gx} {E:AExc→A0→AH→Prop} (Z:Blt K w mg) (R_BadSizes:XkOk P w K mg base "BadSizes" "bad sizes" ["cask"]) (hr:Room 2 (A.deeper (envOfC "look_sizes" (defScope Z9) s.heap.objs.size f cdv))) (gk:G.K=K) (tk:Takes (bx P w K mg base A9a "look_sizes" (defScope Z9) f cdv A outer s H EX) (cW G E)):
    ASs (bx P w K mg base A9a "look_sizes" (defScope Z9) f cdv A outer s H EX) G (defBody Z9) (A6v E):=by
  subst gk
  have gk:G.K=G.K:=rfl
  have sc:=B3T
  have hu:=hr.units
  exact (C6 (L9 (A14 (A50 op_le op_le ae_int (L0 call_len O9 rfl Z.n_len O1 (E1 (A1 (pv 0)) F7)) (A08 rfl Z.c_MOST_CASKS))) (C5 (A1x R_BadSizes gk rfl tk hr (by decide) rfl (B7 (A4 (B1G ae_int)) E7))) M9)
    (C5 (A5z (passes_of rfl) rfl (B5D gk rfl Z.n_enumerate (A4 (A1 (pv 0)))) (A5v gk rfl (r9 (G9 (i:=1) sc.nd rfl (by first | exact .inl rfl | exact .inr rfl)) (r9 (G9 (i:=2) sc.nd rfl (by first | exact .inl rfl | exact .inr rfl)) A5W))) (C5 (L9 (A14 (A50 op_le op_le ae_int (A1 (pv 2)) (A08 rfl Z.c_MOST_SIZE))) (C5 (A1x R_BadSizes gk rfl tk hr (by decide) rfl (B7 (A4 (A1 (pv 1))) E7))) M9)))))
theorem C0O {P:Program} {w:World} {K:PySem.W.Frag} {mg:Str→Option Value} {base:Heap} {f:Addr} {cdv:Value} {A:Around} {outer:List Env} {s:Shared} {H:Hp} {EX:XK} {G:Gx} {E:AExc→A0→AH→Prop} (Z:Blt K w mg) (hr:Room 0 (A.deeper (envOfC "has_count" (defScope c5) s.heap.objs.size f cdv))) (gk:G.K=K) (tk:Takes (bx P w K mg base A9d "has_count" (defScope c5) f cdv A outer s H EX) (cW G E)):
    ASs (bx P w K mg base A9d "has_count" (defScope c5) f cdv A outer s H EX) G (defBody c5) (A7F E):=by
  subst gk
  have gk:G.K=G.K:=rfl
  have sc:=B3m
  have hu:=hr.units
  exact (C5 (H7 (A3z (A8t gk hu (A1 (pv 0)) (B0M gk rfl Z.c_PATHS)) (B57 op_le op_le ae_int (A1 (pv 1)) (Q1 gk ae_int (A1 (pv 2)))) (A30 gk hu (A1 (pv 1)) ae_int))))
theorem C0B {P:Program} {w:World} {K:PySem.W.Frag} {mg:Str→Option Value} {base:Heap} {f:Addr} {cdv:Value} {A:Around} {outer:List Env} {s:Shared} {H:Hp} {EX:XK} {G:Gx} {E:AExc→A0→AH→Prop} (Z:Blt K w mg) (hr:Room 0 (A.deeper (envOfC "first_bad" (defScope c8) s.heap.objs.size f cdv))) (gk:G.K=K) (tk:Takes (bx P w K mg base A9e "first_bad" (defScope c8) f cdv A outer s H EX) (cW G E)):
    ASs (bx P w K mg base A9e "first_bad" (defScope c8) f cdv A outer s H EX) G (defBody c8) (A7D E):=by
  subst gk
  have gk:G.K=G.K:=rfl
  have sc:=B3g
  have hu:=hr.units
  exact (C6 (A5z (passes_of rfl) rfl (B5D gk rfl Z.n_enumerate (A4 (A1 (pv 0)))) (A5v gk rfl (r9 (G9 (i:=3) sc.nd rfl (by first | exact .inl rfl | exact .inr rfl)) (r9 (G9 (i:=4) sc.nd rfl (by first | exact .inl rfl | exact .inr rfl)) A5W))) (C5 (L9 (AW.ap (A6H (A14 (A50 op_le op_lt ae_int (A1 (pv 4)) (A1 (pv 2)))) (A51 (A8t gk hu (A1 (pv 4)) (A7e gk (A1 (pv 0)) A74 (A7v (A1 (pv 3)))))))) (C5 (H7 (Q1 gk (A1 (pv 1)) (A1 (pv 3))))) M9)))
    (C5 (H7 A0q)))
theorem C0w {P:Program} {w:World} {K:PySem.W.Frag} {mg:Str→Option Value} {base:Heap} {f:Addr} {cdv:Value} {A:Around} {outer:List Env} {s:Shared} {H:Hp} {EX:XK} {G:Gx} {E:AExc→A0→AH→Prop} (Z:Blt K w mg) (O_has_count:Ok P w K mg base "has_count" c5 1 3 A5A (upc A2h)) (O_first_bad:Ok P w K mg base "first_bad" c8 1 3 A5F (upc A0P)) (hr:Room 1 (A.deeper (envOfC "fault_of" (defScope c9) s.heap.objs.size f cdv))) (gk:G.K=K) (tk:Takes (bx P w K mg base A9l "fault_of" (defScope c9) f cdv A outer s H EX) (cW G E)):
    ASs (bx P w K mg base A9l "fault_of" (defScope c9) f cdv A outer s H EX) G (defBody c9) (A7S E):=by
  subst gk
  have gk:G.K=G.K:=rfl
  have sc:=B37
  have hu:=hr.units
  exact (C6 (L9 (AW.ap (A6H (y9 gk hu (L0 call_len O9 rfl Z.n_len O1 (E1 (A1 (pv 1)) F7)) ae_int) (A51 (C5T gk hu (M0 gk (A1 (pv 1)) ae_int (fun _ _=> rfl)) (Q1 gk (B0M gk rfl Z.c_PATHS) (B0M gk rfl Z.c_PLAIN)))))) (C5 (H7 ae_int)) M9)
    (C6 (L9 (A14 (j3 (K2 gk O_has_count B90 hr (by decide) rfl tk (B7 (A4 (M0 gk (A1 (pv 1)) ae_int (fun _ _=> rfl))) (B7 (A4 (L0 call_len O9 rfl Z.n_len O1 (E1 (A1 (pv 1)) F7))) (B7 (A4 (L0 call_len O9 rfl Z.n_len O1 (E1 (A1 (pv 0)) F7))) E7)))))) (C5 (H7 (B1G ae_int))) M9)
    (C6 (B5k (i:=2) (j:=3) gk rfl sc.nd rfl rfl (by first | exact .inl rfl | exact .inr rfl) (by first | exact .inl rfl | exact .inr rfl) (A4 (A1 (pv 1))))
    (C6 (L9 (y9 gk hu (A1 (pv 2)) Q6) (C6 (A3v 3 (N1 (A4 (K2 gk O_first_bad B3Z hr (by decide) rfl tk (B7 (A4 (A1 (pv 3))) (B7 (A4 ae_int) (B7 (A4 (L0 call_len O9 rfl Z.n_len O1 (E1 (A1 (pv 0)) F7))) E7))))) (G9 (i:=4) sc.nd rfl (by first | exact .inl rfl | exact .inr rfl))))
    (C6 (L9 (B0k (A1 (pv 4)) A0q) (C5 (H7 (A1 (pv 4)))) M9)
    (C5 (H7 (A3z (y9 gk hu (M0 gk (A1 (pv 0)) (M0 gk (A1 (pv 3)) ae_int (fun _ _=> rfl)) (fun _ _=> rfl)) (M0 gk (A1 (pv 0)) (M0 gk (A1 (pv 3)) ae_int (fun _ _=> rfl)) (fun _ _=> rfl))) A0q ae_int))))) M9)
    (C6 (A3v 3 (B5k (i:=5) (j:=6) gk rfl sc.nd rfl rfl (by first | exact .inl rfl | exact .inr rfl) (by first | exact .inl rfl | exact .inr rfl) (A4 (A1 (pv 3)))))
    (C6 (L9 (A14 (A50 op_le op_lt ae_int (A1 (pv 5)) (A08 rfl Z.c_GREAT))) (C5 (H7 ae_int)) M9)
    (C5 (A3v 6 (H7 (K2 gk O_first_bad B3Z hr (by decide) rfl tk (B7 (A4 (A1 (pv 6))) (B7 (A4 ae_int) (B7 (A4 (L0 call_len O9 rfl Z.n_len O1 (E1 (A1 (pv 0)) F7))) E7)))))))))))))
theorem C1M {P:Program} {w:World} {K:PySem.W.Frag} {mg:Str→Option Value} {base:Heap} {f:Addr} {cdv:Value} {A:Around} {outer:List Env} {s:Shared} {H:Hp} {EX:XK} {G:Gx} {E:AExc→A0→AH→Prop} (Z:Blt K w mg) (hr:Room 0 (A.deeper (envOfC "is_name" (defScope X6) s.heap.objs.size f cdv))) (gk:G.K=K) (tk:Takes (bx P w K mg base A7T "is_name" (defScope X6) f cdv A outer s H EX) (cW G E)):
    ASs (bx P w K mg base A7T "is_name" (defScope X6) f cdv A outer s H EX) G (defBody X6) (A7Y E):=by
  subst gk
  have gk:G.K=G.K:=rfl
  have sc:=B4C
  have hu:=hr.units
  exact (C5 (H7 (A20 (B57 op_le op_le ae_int (L0 call_len O9 rfl Z.n_len O1 (E1 (A1 (pv 0)) F7)) (A08 rfl Z.c_LONGEST)) (A3b (L0 (cr_all rfl) B6D rfl Z.n_all B6i (E1 (A1G (own:=[("sign",1)]) rfl sc.nd (C4b (A1 (pv 0))) (blkOk_by (by first | (show blkC A7T (defScope X6) _ _=true;decide+kernel) | rfl)) (by decide) (fun _ _ _ _ _=> (G9 (i:=1) sc.nd rfl (by first | exact .inl rfl | exact .inr rfl))) (fun _ _ _ _ _=> A0j) (fun _ _ _ _ _=> (A4 (C4f (A1 (pv 1)) (C4M rfl Z.c_LETTERS))))) F7))))))
theorem C1X {P:Program} {w:World} {K:PySem.W.Frag} {mg:Str→Option Value} {base:Heap} {f:Addr} {cdv:Value} {A:Around} {outer:List Env} {s:Shared} {H:Hp} {EX:XK} {G:Gx} {E:AExc→A0→AH→Prop} (Z:Blt K w mg) (hr:Room 0 (A.deeper (envOfC "is_call" (defScope R8) s.heap.objs.size f cdv))) (gk:G.K=K) (tk:Takes (bx P w K mg base A9q "is_call" (defScope R8) f cdv A outer s H EX) (cW G E)):
    ASs (bx P w K mg base A9q "is_call" (defScope R8) f cdv A outer s H EX) G (defBody R8) (A7X E):=by
  subst gk
  have gk:G.K=G.K:=rfl
  have sc:=B4D
  have hu:=hr.units
  exact (C5 (H7 (A20 (C6j (L0 call_len O9 rfl Z.n_len O1 (E1 (A1 (pv 0)) F7)) ae_int) (A3b (A30 gk hu (M0 gk (A1 (pv 0)) ae_int (fun _ _=> rfl)) Q6)))))
theorem B9t {P:Program} {w:World} {K:PySem.W.Frag} {mg:Str→Option Value} {base:Heap} {f:Addr} {cdv:Value} {A:Around} {outer:List Env} {s:Shared} {H:Hp} {EX:XK} {G:Gx} {E:AExc→A0→AH→Prop} (Z:Blt K w mg) (hr:Room 0 (A.deeper (envOfC "call_fault" (defScope Z8) s.heap.objs.size f cdv))) (gk:G.K=K) (tk:Takes (bx P w K mg base A9b "call_fault" (defScope Z8) f cdv A outer s H EX) (cW G E)):
    ASs (bx P w K mg base A9b "call_fault" (defScope Z8) f cdv A outer s H EX) G (defBody Z8) (A68 E):=by
  subst gk
  have gk:G.K=G.K:=rfl
  have sc:=B3R
  have hu:=hr.units
  exact (C6 (L9 (A1K gk hu (L0 call_len O9 rfl Z.n_len O1 (E1 (A1 (pv 0)) F7)) ae_int) (C5 (H7 (B1G ae_int))) M9)
    (C5 (H7 (A3z (A50 op_le op_le ae_int (M0 gk (A1 (pv 0)) ae_int (fun _ _=> rfl)) (A08 rfl Z.c_MOST_CALLS)) A0q ae_int))))
theorem B9z {P:Program} {w:World} {K:PySem.W.Frag} {mg:Str→Option Value} {base:Heap} {f:Addr} {cdv:Value} {A:Around} {outer:List Env} {s:Shared} {H:Hp} {EX:XK} {G:Gx} {E:AExc→A0→AH→Prop} (Z:Blt K w mg) (hr:Room 0 (A.deeper (envOfC "_law_open" (defScope c7) s.heap.objs.size f cdv))) (gk:G.K=K) (tk:Takes (bx P w K mg base A9f "_law_open" (defScope c7) f cdv A outer s H EX) (cW G E)):
    ASs (bx P w K mg base A9f "_law_open" (defScope c7) f cdv A outer s H EX) G (defBody c7) (A7I E):=by
  subst gk
  have gk:G.K=G.K:=rfl
  have sc:=B3X
  have hu:=hr.units
  exact (C5 (H7 (V0 (E9 (A4 (A03 call_list_of A79 rfl Z.n_list A2n (E1 (A7e gk (A1 (pv 0)) A74 (A7v ae_int)) F7))) (E9 (A4 ae_int) (E9 (A4 ae_int) (E9 (A4 ae_int) (E9 (A4 ae_int) N4))))))))
theorem C0W {P:Program} {w:World} {K:PySem.W.Frag} {mg:Str→Option Value} {base:Heap} {f:Addr} {cdv:Value} {A:Around} {outer:List Env} {s:Shared} {H:Hp} {EX:XK} {G:Gx} {E:AExc→A0→AH→Prop} (Z:Blt K w mg) (hr:Room 0 (A.deeper (envOfC "_law_take" (defScope O6) s.heap.objs.size f cdv))) (gk:G.K=K) (tk:Takes (bx P w K mg base A9j "_law_take" (defScope O6) f cdv A outer s H EX) (cW G E)):
    ASs (bx P w K mg base A9j "_law_take" (defScope O6) f cdv A outer s H EX) G (defBody O6) (A7C E):=by
  subst gk
  have gk:G.K=G.K:=rfl
  have sc:=B3Y
  have hu:=hr.units
  exact (C6 (L9 (AW.ap (A5k (B1l (M0 gk (A1 (pv 0)) ae_int (fun _ _=> rfl)) (A1 (pv 1))) (A5a (B1l (M0 gk (A1 (pv 0)) ae_int (fun _ _=> rfl)) (L0 call_len O9 rfl Z.n_len O1 (E1 (M0 gk (A1 (pv 0)) ae_int (fun _ _=> rfl)) F7)))))) (C6 (N1 (A4 (M0 gk (M0 gk (A1 (pv 0)) ae_int (fun _ _=> rfl)) (M0 gk (A1 (pv 0)) ae_int (fun _ _=> rfl)) (fun _ _=> rfl))) (G9 (i:=2) sc.nd rfl (by first | exact .inl rfl | exact .inr rfl)))
    (C6 (N1 (A4 (Q1 gk (M0 gk (A1 (pv 0)) ae_int (fun _ _=> rfl)) ae_int)) (A2w (A1 (pv 0)) ae_int (pg_sub (A1 (pv 0)).pe ae_int.pe set_list)))
    (C6 (N1 (A4 ae_int) (A2w (A1 (pv 0)) ae_int (pg_sub (A1 (pv 0)).pe ae_int.pe set_list)))
    (C5 (L9 (B1Y (A1 (pv 2)) (B1L ae_int ae_int)) (C5 (N1 (A4 (A1 (pv 2))) (A2w (A1 (pv 0)) ae_int (pg_sub (A1 (pv 0)).pe ae_int.pe set_list)))) (C5 (N1 (A4 (A2v (Q1 gk (Q1 gk (A12 gk (M0 gk (A1 (pv 0)) ae_int (fun _ _=> rfl)) ae_int) (A12 gk (A2v (A1 (pv 2)) ae_int) ae_int)) ae_int) ae_int)) (A2w (A1 (pv 0)) ae_int (pg_sub (A1 (pv 0)).pe ae_int.pe set_list))))))))) M9)
    (C6 (L9 (B1Y (M0 gk (A1 (pv 0)) ae_int (fun _ _=> rfl)) (A1 (pv 1))) (C6 (N1 (A4 (A2v (M0 gk (A1 (pv 0)) ae_int (fun _ _=> rfl)) (A1 (pv 1)))) (G9 (i:=3) sc.nd rfl (by first | exact .inl rfl | exact .inr rfl)))
    (C6 (N1 (A4 (B0K (M0 gk (A1 (pv 0)) ae_int (fun _ _=> rfl)) (A1 (pv 1)))) (A2w (A1 (pv 0)) ae_int (pg_sub (A1 (pv 0)).pe ae_int.pe set_list)))
    (C5 (H7 (A1 (pv 3)))))) M9)
    (C6 (N1 (A4 (Q1 gk (M0 gk (A1 (pv 0)) ae_int (fun _ _=> rfl)) ae_int)) (A2w (A1 (pv 0)) ae_int (pg_sub (A1 (pv 0)).pe ae_int.pe set_list)))
    (C6 (N1 (A4 (M0 gk (A1 (pv 0)) ae_int (fun _ _=> rfl))) (G9 (i:=4) sc.nd rfl (by first | exact .inl rfl | exact .inr rfl)))
    (C6 (N1 (A4 (A2v (Q1 gk (Q1 gk (Q1 gk (A12 gk (A2v (A12 gk (A1 (pv 4)) (A1 (pv 4))) ae_int) ae_int) (A12 gk (A1 (pv 4)) ae_int)) (A12 gk ae_int (M0 gk (A1 (pv 0)) ae_int (fun _ _=> rfl)))) ae_int) ae_int)) (A2w (A1 (pv 0)) ae_int (pg_sub (A1 (pv 0)).pe ae_int.pe set_list)))
    (C5 (H7 (A2v (Q1 gk (B0K (M0 gk (A1 (pv 0)) ae_int (fun _ _=> rfl)) ae_int) (A12 gk (A2v (M0 gk (A1 (pv 0)) ae_int (fun _ _=> rfl)) ae_int) ae_int)) (A1 (pv 1))))))))))
theorem C0F {P:Program} {w:World} {K:PySem.W.Frag} {mg:Str→Option Value} {base:Heap} {f:Addr} {cdv:Value} {A:Around} {outer:List Env} {s:Shared} {H:Hp} {EX:XK} {G:Gx} {E:AExc→A0→AH→Prop} (Z:Blt K w mg) (O__law_take:Ok P w K mg base "_law_take" O6 1 2 V8 (upc E8)) (hr:Room 1 (A.deeper (envOfC "_law_pick" (defScope R7) s.heap.objs.size f cdv))) (gk:G.K=K) (tk:Takes (bx P w K mg base A9c "_law_pick" (defScope R7) f cdv A outer s H EX) (cW G E)):
    ASs (bx P w K mg base A9c "_law_pick" (defScope R7) f cdv A outer s H EX) G (defBody R7) (A7E E):=by
  subst gk
  have gk:G.K=G.K:=rfl
  have sc:=B3e
  have hu:=hr.units
  exact (C5 (H7 (M0 gk (A1 (pv 1)) (K2 gk O__law_take V9 hr (by decide) rfl tk (B7 (A4 (A1 (pv 0))) (B7 (A4 (L0 call_len O9 rfl Z.n_len O1 (E1 (A1 (pv 1)) F7))) E7))) (fun _ _=> rfl))))
theorem C0G {P:Program} {w:World} {K:PySem.W.Frag} {mg:Str→Option Value} {base:Heap} {f:Addr} {cdv:Value} {A:Around} {outer:List Env} {s:Shared} {H:Hp} {EX:XK} {G:Gx} {E:AExc→A0→AH→Prop} {d j:Nat} (Z:Blt K w mg) (O__law_same:Ok P w K mg base "_law_same" W0 j 2 A2i (upc (m__law_same d))) (hr:Room (max j 0) (A.deeper (envOfC "_law_same" (defScope W0) s.heap.objs.size f cdv))) (gk:G.K=K) (tk:Takes (bx P w K mg base A7J "_law_same" (defScope W0) f cdv A outer s H EX) (cW G E)):
    ASs (bx P w K mg base A7J "_law_same" (defScope W0) f cdv A outer s H EX) G (defBody W0) (A7K d E):=by
  subst gk
  have gk:G.K=G.K:=rfl
  have sc:=B3o
  have hu:=hr.units
  exact (C6 (L9 (C4t (A1 (pv 1)) A0q) (C5 (H7 (C5l (A1 (pv 0)) A0q))) M9)
    (C6 (L9 (j3 (L0 call_isi y8 rfl Z.n_isinstance v9 (E1 (A1 (pv 1)) (E1 (z9 rfl Z.n_bool B0L) F7)))) (C5 (H7 (A20 (L0 call_isi y8 rfl Z.n_isinstance v9 (E1 (A1 (pv 0)) (E1 (z9 rfl Z.n_bool B0L) F7))) (A3b (A30 gk hu (A1 (pv 0)) (A1 (pv 1))))))) M9)
    (C6 (L9 (j3 (L0 call_isi y8 rfl Z.n_isinstance v9 (E1 (A1 (pv 1)) (E1 (z9 rfl Z.n_int B6C) F7)))) (C5 (H7 (A20 (L0 call_isi y8 rfl Z.n_isinstance v9 (E1 (A1 (pv 0)) (E1 (z9 rfl Z.n_int B6C) F7))) (A20 (C5N (L0 call_isi y8 rfl Z.n_isinstance v9 (E1 (A1 (pv 0)) (E1 (z9 rfl Z.n_bool B0L) F7)))) (A3b (A30 gk hu (A1 (pv 0)) (A1 (pv 1)))))))) M9)
    (C6 (L9 (j3 (L0 call_isi y8 rfl Z.n_isinstance v9 (E1 (A1 (pv 1)) (E1 (z9 rfl Z.n_str B1E) F7)))) (C5 (H7 (A20 (L0 call_isi y8 rfl Z.n_isinstance v9 (E1 (A1 (pv 0)) (E1 (z9 rfl Z.n_str B1E) F7))) (A3b (A30 gk hu (A1 (pv 0)) (A1 (pv 1))))))) M9)
    (C6 (L9 (AW.ap (A6H (A1K gk hu (L0 call_isi y8 rfl Z.n_isinstance v9 (E1 (A1 (pv 1)) (E1 (z9 rfl Z.n_tuple A5O) F7))) (L0 call_isi y8 rfl Z.n_isinstance v9 (E1 (A1 (pv 0)) (E1 (z9 rfl Z.n_tuple A5O) F7)))) (A51 (A1K gk hu (L0 call_isi y8 rfl Z.n_isinstance v9 (E1 (A1 (pv 1)) (E1 (z9 rfl Z.n_list A2n) F7))) (L0 call_isi y8 rfl Z.n_isinstance v9 (E1 (A1 (pv 0)) (E1 (z9 rfl Z.n_list A2n) F7))))))) (C5 (H7 A1L)) M9)
    (C6 (L9 (A1K gk hu (L0 call_len O9 rfl Z.n_len O1 (E1 (A1 (pv 0)) F7)) (L0 call_len O9 rfl Z.n_len O1 (E1 (A1 (pv 1)) F7))) (C5 (H7 A1L)) M9)
    (C5 (H7 (L0 (cr_all rfl) B6D rfl Z.n_all B6i (E1 (A1G (own:=[("_law_at",2)]) rfl sc.nd (A3P rfl Z.n_range (E1 (L0 call_len O9 rfl Z.n_len O1 (E1 (A1 (pv 1)) F7)) F7)) (blkOk_by (by first | (show blkC A7J (defScope W0) _ _=true;decide+kernel) | rfl)) (by decide) (fun _ _ _ _ _=> (G9 (i:=2) sc.nd rfl (by first | exact .inl rfl | exact .inr rfl))) (fun _ _ _ _ _=> A0j) (fun _ _ _ _ _=> (A4 (K2 gk O__law_same A9g hr (by omega) rfl A1A (B7 (A4 (M0 gk (A1 (pv 0)) (A1 (pv 2)) (fun _ _=> rfl))) (B7 (A4 (M0 gk (A1 (pv 1)) (A1 (pv 2)) (fun _ _=> rfl))) E7)))))) F7))))))))))
theorem C0L {P:Program} {w:World} {K:PySem.W.Frag} {mg:Str→Option Value} {base:Heap} {f:Addr} {cdv:Value} {A:Around} {outer:List Env} {s:Shared} {H:Hp} {EX:XK} {G:Gx} {E:AExc→A0→AH→Prop} {fl:Addr} {sp:G1} (Z:Blt K w mg) (hr:Room 0 (A.deeper (envOfC "_law_word" (defScope X4) s.heap.objs.size f cdv))) (gk:G.K=K) (tk:Takes (bx P w K mg base A7B "_law_word" (defScope X4) f cdv A outer s H EX) (cW G E)) (hL:LamHas (bx P w K mg base A7B "_law_word" (defScope X4) f cdv A outer s H EX) G fl 0 sp):
    ASs (bx P w K mg base A7B "_law_word" (defScope X4) f cdv A outer s H EX) G (defBody X4) (A4i fl sp E):=by
  subst gk
  have gk:G.K=G.K:=rfl
  have sc:=B3h
  have hu:=hr.units
  exact (C6 (N1 (A4 A0q) (G9 (i:=1) sc.nd rfl (by first | exact .inl rfl | exact .inr rfl)))
    (C6 (N1 (A4 Q6) (G9 (i:=2) sc.nd rfl (by first | exact .inl rfl | exact .inr rfl)))
    (C6 (B6G gk rfl rfl sc.nd tk (fun pn xe G E gk gl tk=> by have hL:=hL.to gl pn xe;exact (C5 (N1 (A4 (C4X hL gk rfl (i:=0) rfl (by first | exact .inl rfl | exact .inr (.inl rfl) | exact .inr (.inr rfl)) tk)) (G9 (i:=1) sc.nd rfl (by first | exact .inl rfl | exact .inr rfl))))) (HdA.cons rfl rfl rfl Z.h_HideError Z.x_HideError rfl (by first | exact .inl rfl | exact .inr rfl) (by first | exact .inl rfl | exact .inr rfl) (by decide) (fun G gk=> (A8O gk Z.f_word rfl (by first | exact .inl rfl | exact .inr (.inl rfl) | exact .inr (.inr rfl)))) rfl rfl rfl rfl (HdA.cons rfl rfl rfl Z.h_Missing Z.x_Missing rfl (by first | exact .inl rfl | exact .inr rfl) (by first | exact .inl rfl | exact .inr rfl) (by decide) (fun G gk=> (A8O gk Z.f_word rfl (by first | exact .inl rfl | exact .inr (.inl rfl) | exact .inr (.inr rfl)))) rfl rfl rfl rfl (HdA.cons rfl rfl rfl Z.h_NothingLeft Z.x_NothingLeft rfl (by first | exact .inl rfl | exact .inr rfl) (by first | exact .inl rfl | exact .inr rfl) (by decide) (fun G gk=> (A8O gk Z.f_word rfl (by first | exact .inl rfl | exact .inr (.inl rfl) | exact .inr (.inr rfl)))) rfl rfl rfl rfl HdA.nil))))
    (C5 (H7 (A0o (E9 (A4 (A1 (pv 1))) (E9 (A4 (A1 (pv 2))) N4))))))))
theorem B9e {P:Program} {w:World} {K:PySem.W.Frag} {mg:Str→Option Value} {base:Heap} {f:Addr} {cdv:Value} {A:Around} {outer:List Env} {s:Shared} {H:Hp} {EX:XK} {G:Gx} {E:AExc→A0→AH→Prop} (Z:Blt K w mg) (O__law_take:Ok P w K mg base "_law_take" O6 1 2 V8 (upc E8)) (hr:Room 1 (A.deeper (envOfC "_law_sizes" (defScope X2) s.heap.objs.size f cdv))) (gk:G.K=K) (tk:Takes (bx P w K mg base A67 "_law_sizes" (defScope X2) f cdv A outer s H EX) (cW G E)):
    ASs (bx P w K mg base A67 "_law_sizes" (defScope X2) f cdv A outer s H EX) G (defBody X2) (A7A E):=by
  subst gk
  have gk:G.K=G.K:=rfl
  have sc:=B3P
  have hu:=hr.units
  exact (C5 (H7 (A03 call_tuple_of B0u rfl Z.n_tuple A5O (E1 (A1G (own:=[("_law_mcask",3)]) rfl sc.nd (A3P rfl Z.n_range (E1 (Q1 gk ae_int (K2 gk O__law_take V9 hr (by decide) rfl tk (B7 (A4 (A1 (pv 0))) (B7 (A4 (A1 (pv 1))) E7)))) F7)) (blkOk_by (by first | (show blkC A67 (defScope X2) _ _=true;decide+kernel) | rfl)) (by decide) (fun _ _ _ _ _=> (G9 (i:=3) sc.nd rfl (by first | exact .inl rfl | exact .inr rfl))) (fun _ _ _ _ _=> A0j) (fun _ _ _ _ _=> (A4 (Q1 gk ae_int (K2 gk O__law_take V9 hr (by decide) rfl A1A (B7 (A4 (A1 (pv 0))) (B7 (A4 (A1 (pv 2))) E7))))))) F7))))
theorem B8d {P:Program} {w:World} {K:PySem.W.Frag} {mg:Str→Option Value} {base:Heap} {f:Addr} {cdv:Value} {A:Around} {outer:List Env} {s:Shared} {H:Hp} {EX:XK} {G:Gx} {E:AExc→A0→AH→Prop} (Z:Blt K w mg) (O__law_sizes:Ok P w K mg base "_law_sizes" X2 2 3 A44 (upc A2d)) (O__law_pick:Ok P w K mg base "_law_pick" R7 2 2 w5 (upc R4)) (hr:Room 2 (A.deeper (envOfC "_law_any_sizes" (defScope Z2) s.heap.objs.size f cdv))) (gk:G.K=K) (tk:Takes (bx P w K mg base A9M "_law_any_sizes" (defScope Z2) f cdv A outer s H EX) (cW G E)):
    ASs (bx P w K mg base A9M "_law_any_sizes" (defScope Z2) f cdv A outer s H EX) G (defBody Z2) (A6k E):=by
  subst gk
  have gk:G.K=G.K:=rfl
  have sc:=B2u
  have hu:=hr.units
  exact (C5 (H7 (K2 gk O__law_sizes B9m hr (by decide) rfl tk (B7 (A4 (A1 (pv 0))) (B7 (A4 ae_int) (B7 (A4 (K2 gk O__law_pick A5E hr (by decide) rfl tk (B7 (A4 (A1 (pv 0))) (B7 (A4 (V0 (E9 (A4 ae_int) (E9 (A4 ae_int) (E9 (A4 ae_int) (E9 (A4 ae_int) N4)))))) E7)))) E7))))))
theorem B9H {P:Program} {w:World} {K:PySem.W.Frag} {mg:Str→Option Value} {base:Heap} {f:Addr} {cdv:Value} {A:Around} {outer:List Env} {s:Shared} {H:Hp} {EX:XK} {G:Gx} {E:AExc→A0→AH→Prop} (Z:Blt K w mg) (O__law_take:Ok P w K mg base "_law_take" O6 1 2 V8 (upc E8)) (O__law_pick:Ok P w K mg base "_law_pick" R7 2 2 w5 (upc R4)) (hr:Room 2 (A.deeper (envOfC "_law_number" (defScope Z4) s.heap.objs.size f cdv))) (gk:G.K=K) (tk:Takes (bx P w K mg base A9X "_law_number" (defScope Z4) f cdv A outer s H EX) (cW G E)):
    ASs (bx P w K mg base A9X "_law_number" (defScope Z4) f cdv A outer s H EX) G (defBody Z4) (A64 E):=by
  subst gk
  have gk:G.K=G.K:=rfl
  have sc:=B27
  have hu:=hr.units
  exact (C6 (N1 (A4 (V0 (E9 (A4 ae_int) (E9 (A4 ae_int) (E9 (A4 ae_int) (E9 (A4 ae_int) (E9 (A4 (Q1 gk ae_int (K2 gk O__law_take V9 hr (by decide) rfl tk (B7 (A4 (A1 (pv 0))) (B7 (A4 ae_int) E7))))) (E9 (A4 (K2 gk O__law_take V9 hr (by decide) rfl tk (B7 (A4 (A1 (pv 0))) (B7 (A4 ae_int) E7)))) (E9 (A4 (B6j (B1L ae_int ae_int) ae_int)) (E9 (A4 (K2 gk O__law_take V9 hr (by decide) rfl tk (B7 (A4 (A1 (pv 0))) (B7 (A4 (B1L ae_int ae_int)) E7)))) N4)))))))))) (G9 (i:=1) sc.nd rfl (by first | exact .inl rfl | exact .inr rfl)))
    (C5 (H7 (K2 gk O__law_pick A5E hr (by decide) rfl tk (B7 (A4 (A1 (pv 0))) (B7 (A4 (A1 (pv 1))) E7))))))
theorem B8q {P:Program} {w:World} {K:PySem.W.Frag} {mg:Str→Option Value} {base:Heap} {f:Addr} {cdv:Value} {A:Around} {outer:List Env} {s:Shared} {H:Hp} {EX:XK} {G:Gx} {E:AExc→A0→AH→Prop} (Z:Blt K w mg) (O__law_take:Ok P w K mg base "_law_take" O6 1 2 V8 (upc E8)) (hr:Room 1 (A.deeper (envOfC "_law_shuffled" (defScope W9) s.heap.objs.size f cdv))) (gk:G.K=K) (tk:Takes (bx P w K mg base A6w "_law_shuffled" (defScope W9) f cdv A outer s H EX) (cW G E)):
    ASs (bx P w K mg base A6w "_law_shuffled" (defScope W9) f cdv A outer s H EX) G (defBody W9) (A6t E):=by
  subst gk
  have gk:G.K=G.K:=rfl
  have sc:=B20
  have hu:=hr.units
  exact (C6 (A53 (i:=2) sc.nd rfl (by first | exact .inl rfl | exact .inr rfl) (A03 call_list_of A79 rfl Z.n_list A2n (E1 (A1 (pv 1)) F7)))
    (C5 (H7 (A1G (own:=[("_law_thing",3)]) rfl sc.nd (A56 gk (A4 (A1 (pv 1)))) (blkOk_by (by first | (show blkC A6w (defScope W9) _ _=true;decide+kernel) | rfl)) (by decide) (fun _ _ _ _ _=> (G9 (i:=3) sc.nd rfl (by first | exact .inl rfl | exact .inr rfl))) (fun _ _ _ _ _=> A0j) (fun _ _ _ _ _=> (A4 (A6A gk C2t PySem.F.plainAttrs_list PySem.F.slot_list_pop PySem.F.type_list_pop mt_popAt (A1 (pv 2)) (E9 (A4 (K2 gk O__law_take V9 hr (by decide) rfl A1A (B7 (A4 (A1 (pv 0))) (B7 (A4 (L0 call_len O9 rfl Z.n_len O1 (E1 (A1 (pv 2)) F7))) E7)))) N4))))))))
theorem B76 {P:Program} {w:World} {K:PySem.W.Frag} {mg:Str→Option Value} {base:Heap} {f:Addr} {cdv:Value} {A:Around} {outer:List Env} {s:Shared} {H:Hp} {EX:XK} {G:Gx} {E:AExc→A0→AH→Prop} (Z:Blt K w mg) (O__law_shuffled:Ok P w K mg base "_law_shuffled" W9 2 2 A4e (upc A2a)) (hr:Room 2 (A.deeper (envOfC "_law_some_casks" (defScope Y7) s.heap.objs.size f cdv))) (gk:G.K=K) (tk:Takes (bx P w K mg base A9K "_law_some_casks" (defScope Y7) f cdv A outer s H EX) (cW G E)):
    ASs (bx P w K mg base A9K "_law_some_casks" (defScope Y7) f cdv A outer s H EX) G (defBody Y7) (A6h E):=by
  subst gk
  have gk:G.K=G.K:=rfl
  have sc:=B2i
  have hu:=hr.units
  exact (C5 (H7 (A03 call_tuple_of B0u rfl Z.n_tuple A5O (E1 (A7e gk (K2 gk O__law_shuffled B8r hr (by decide) rfl tk (B7 (A4 (A1 (pv 0))) (B7 (A4 (C4G rfl rfl Z.n_list rfl Z.n_range (A1 (pv 1)))) E7))) A74 (A7v (A1 (pv 2)))) F7))))
theorem B9a {P:Program} {w:World} {K:PySem.W.Frag} {mg:Str→Option Value} {base:Heap} {f:Addr} {cdv:Value} {A:Around} {outer:List Env} {s:Shared} {H:Hp} {EX:XK} {G:Gx} {E:AExc→A0→AH→Prop} (Z:Blt K w mg) (hr:Room 0 (A.deeper (envOfC "_law_alike" (defScope V7) s.heap.objs.size f cdv))) (gk:G.K=K) (tk:Takes (bx P w K mg base A4x "_law_alike" (defScope V7) f cdv A outer s H EX) (cW G E)):
    ASs (bx P w K mg base A4x "_law_alike" (defScope V7) f cdv A outer s H EX) G (defBody V7) (A66 E):=by
  subst gk
  have gk:G.K=G.K:=rfl
  have sc:=B3M
  have hu:=hr.units
  exact (C6 (A53 (i:=1) sc.nd rfl (by first | exact .inl rfl | exact .inr rfl) (V0 N4))
    (C6 (A5z (passes_of rfl) rfl (A3P rfl Z.n_range (E1 (L0 call_len O9 rfl Z.n_len O1 (E1 (A1 (pv 0)) F7)) F7)) (G9 (i:=2) sc.nd rfl (by first | exact .inl rfl | exact .inr rfl)) (C6 (C2r (i:=3) (own:=[("_law_at",4)]) rfl sc.nd rfl rfl rfl (A3P rfl Z.n_range (E1 (L0 call_len O9 rfl Z.n_len O1 (E1 (A1 (pv 0)) F7)) F7)) (blkOk_by (by first | (show blkC A4x (defScope V7) _ _=true;decide+kernel) | rfl)) (by decide) (fun _ _ _ _ _=> (G9 (i:=4) sc.nd rfl (by first | exact .inl rfl | exact .inr rfl))) (fun _ _ _ _ _=> (A7t (AW.ap (A5k (A1K gk hu (A1 (pv 4)) (A1 (pv 2))) (A5a (y9 gk hu (M0 gk (A1 (pv 0)) (A1 (pv 4)) (fun _ _=> rfl)) (M0 gk (A1 (pv 0)) (A1 (pv 2)) (fun _ _=> rfl)))))))) (fun _ _ _ _ _=> (A4 (A1 (pv 4)))))
    (C5 (A3v 3 (i5 (B6Y (A1 (pv 1)) (A1G (own:=[("_law_at",4)]) rfl sc.nd (A56 gk (A4 (A1 (pv 3)))) (blkOk_by (by first | (show blkC A4x (defScope V7) _ _=true;decide+kernel) | rfl)) (by decide) (fun _ _ _ _ _=> (G9 (i:=4) sc.nd rfl (by first | exact .inl rfl | exact .inr rfl))) (fun _ _ _ _ _=> A0j) (fun _ _ _ _ _=> (A4 (A0o (E9 (A4 (A1 (pv 2))) (E9 (A4 (A1 (pv 4))) N4))))))))))))
    (C5 (H7 (A1 (pv 1))))))
theorem C0a {P:Program} {w:World} {K:PySem.W.Frag} {mg:Str→Option Value} {base:Heap} {f:Addr} {cdv:Value} {A:Around} {outer:List Env} {s:Shared} {H:Hp} {EX:XK} {G:Gx} {E:AExc→A0→AH→Prop} (Z:Blt K w mg) (O__law_take:Ok P w K mg base "_law_take" O6 1 2 V8 (upc E8)) (O__law_alike:Ok P w K mg base "_law_alike" V7 1 1 A41 (upc A2c)) (O__law_pick:Ok P w K mg base "_law_pick" R7 2 2 w5 (upc R4)) (O__law_some_casks:Ok P w K mg base "_law_some_casks" Y7 3 3 A4Q (upc A0H)) (hr:Room 3 (A.deeper (envOfC "_law_deed" (defScope c6) s.heap.objs.size f cdv))) (gk:G.K=K) (tk:Takes (bx P w K mg base A9k "_law_deed" (defScope c6) f cdv A outer s H EX) (cW G E)):
    ASs (bx P w K mg base A9k "_law_deed" (defScope c6) f cdv A outer s H EX) G (defBody c6) (A7G E):=by
  subst gk
  have gk:G.K=G.K:=rfl
  have sc:=B3i
  have hu:=hr.units
  exact (C6 (N1 (A4 (K2 gk O__law_take V9 hr (by decide) rfl tk (B7 (A4 (A1 (pv 0))) (B7 (A4 ae_int) E7)))) (G9 (i:=4) sc.nd rfl (by first | exact .inl rfl | exact .inr rfl)))
    (C6 (N1 (A4 (K2 gk O__law_alike B9w hr (by decide) rfl tk (B7 (A4 (A1 (pv 1))) E7))) (G9 (i:=5) sc.nd rfl (by first | exact .inl rfl | exact .inr rfl)))
    (C6 (L9 (AW.ap (A5k (y9 gk hu (A1 (pv 4)) ae_int) (A5a (A1K gk hu (A1 (pv 5)) (V0 N4))))) (C5 (H7 (Q1 gk (A0o (E9 (A4 Q6) N4)) (K2 gk O__law_pick A5E hr (by decide) rfl tk (B7 (A4 (A1 (pv 0))) (B7 (A4 (A1 (pv 5))) E7)))))) M9)
    (C6 (L9 (AW.ap (A5k (B1l (A1 (pv 4)) ae_int) (A5a (j3 (A1 (pv 3)))))) (C5 (H7 (A0o (E9 (A4 Q6) (E9 (A4 (K2 gk O__law_pick A5E hr (by decide) rfl tk (B7 (A4 (A1 (pv 0))) (B7 (A4 (V0 (E9 (A4 ae_int) (E9 (A4 ae_int) (E9 (A4 ae_int) (E9 (A4 ae_int) (E9 (A4 (A1 (pv 2))) N4))))))) E7)))) (E9 (A4 (K2 gk O__law_take V9 hr (by decide) rfl tk (B7 (A4 (A1 (pv 0))) (B7 (A4 (L0 call_len O9 rfl Z.n_len O1 (E1 (A1 (pv 1)) F7))) E7)))) N4)))))) M9)
    (C6 (L9 (AW.ap (A6H (y9 gk hu (A1 (pv 4)) ae_int) (A51 (y9 gk hu (L0 call_len O9 rfl Z.n_len O1 (E1 (A1 (pv 1)) F7)) ae_int)))) (C5 (H7 (A0o (E9 (A4 Q6) (E9 (A4 (A1 (pv 2))) (E9 (A4 (K2 gk O__law_take V9 hr (by decide) rfl tk (B7 (A4 (A1 (pv 0))) (B7 (A4 (L0 call_len O9 rfl Z.n_len O1 (E1 (A1 (pv 1)) F7))) E7)))) N4)))))) M9)
    (C6 (N1 (A4 (Q1 gk ae_int (K2 gk O__law_take V9 hr (by decide) rfl tk (B7 (A4 (A1 (pv 0))) (B7 (A4 (B6j (L0 call_len O9 rfl Z.n_len O1 (E1 (A1 (pv 1)) F7)) ae_int)) E7))))) (G9 (i:=6) sc.nd rfl (by first | exact .inl rfl | exact .inr rfl)))
    (C6 (N1 (A4 (M0 gk (V0 (E9 (A4 Q6) (E9 (A4 Q6) N4))) (B0K (K2 gk O__law_take V9 hr (by decide) rfl tk (B7 (A4 (A1 (pv 0))) (B7 (A4 ae_int) E7))) ae_int) (fun _ _=> rfl))) (G9 (i:=7) sc.nd rfl (by first | exact .inl rfl | exact .inr rfl)))
    (C5 (H7 (Q1 gk (A0o (E9 (A4 (A1 (pv 7))) (E9 (A4 (A1 (pv 2))) N4))) (K2 gk O__law_some_casks B8D hr (by decide) rfl tk (B7 (A4 (A1 (pv 0))) (B7 (A4 (L0 call_len O9 rfl Z.n_len O1 (E1 (A1 (pv 1)) F7))) (B7 (A4 (A1 (pv 6))) E7))))))))))))))
theorem C0p {P:Program} {w:World} {K:PySem.W.Frag} {mg:Str→Option Value} {base:Heap} {f:Addr} {cdv:Value} {A:Around} {outer:List Env} {s:Shared} {H:Hp} {EX:XK} {G:Gx} {E:AExc→A0→AH→Prop} (Z:Blt K w mg) (O__law_take:Ok P w K mg base "_law_take" O6 1 2 V8 (upc E8)) (O__law_deed:Ok P w K mg base "_law_deed" c6 4 4 A49 (upc A2f)) (O__law_number:Ok P w K mg base "_law_number" Z4 3 1 A4u (upc A2b)) (hr:Room 4 (A.deeper (envOfC "_law_row" (defScope X5) s.heap.objs.size f cdv))) (gk:G.K=K) (tk:Takes (bx P w K mg base A7N "_law_row" (defScope X5) f cdv A outer s H EX) (cW G E)):
    ASs (bx P w K mg base A7N "_law_row" (defScope X5) f cdv A outer s H EX) G (defBody X5) (A7M E):=by
  subst gk
  have gk:G.K=G.K:=rfl
  have sc:=B34
  have hu:=hr.units
  exact (C5 (H7 (A1G (own:=[("_law_k",4)]) rfl sc.nd (A3P rfl Z.n_range (E1 (K2 gk O__law_take V9 hr (by decide) rfl tk (B7 (A4 (A1 (pv 0))) (B7 (A4 (Q1 gk (A1 (pv 2)) ae_int)) E7))) F7)) (blkOk_by (by first | (show blkC A7N (defScope X5) _ _=true;decide+kernel) | rfl)) (by decide) (fun _ _ _ _ _=> (G9 (i:=4) sc.nd rfl (by first | exact .inl rfl | exact .inr rfl))) (fun _ _ _ _ _=> A0j) (fun _ _ _ _ _=> (A4 (K2 gk O__law_deed C0X hr (by decide) rfl A1A (B7 (A4 (A1 (pv 0))) (B7 (A4 (A1 (pv 1))) (B7 (A4 (K2 gk O__law_number B9T hr (by decide) rfl A1A (B7 (A4 (A1 (pv 0))) E7))) (B7 (A4 (A1 (pv 3))) E7))))))))))
theorem B84 {P:Program} {w:World} {K:PySem.W.Frag} {mg:Str→Option Value} {base:Heap} {f:Addr} {cdv:Value} {A:Around} {outer:List Env} {s:Shared} {H:Hp} {EX:XK} {G:Gx} {E:AExc→A0→AH→Prop} (Z:Blt K w mg) (hr:Room 0 (A.deeper (envOfC "_law_word_of" (defScope X0) s.heap.objs.size f cdv))) (gk:G.K=K) (tk:Takes (bx P w K mg base A6z "_law_word_of" (defScope X0) f cdv A outer s H EX) (cW G E)):
    ASs (bx P w K mg base A6z "_law_word_of" (defScope X0) f cdv A outer s H EX) G (defBody X0) (A6x E):=by
  subst gk
  have gk:G.K=G.K:=rfl
  have sc:=B26
  have hu:=hr.units
  exact (C6 (L9 (B5v hu (A4 (A1 (pv 1))) (A1 (pv 0))) (C5 (H7 Q6)) M9)
    (C5 (H7 (A3z (j3 (C14 gk (fun G gk=> (L0 (cr_any rfl) (Eq.mpr (congrArg (fun K=> CallA K _ _) gk) B6g) rfl Z.n_any B6h (E1 (A1G (own:=[("_law_mother",2)]) rfl sc.nd (C2R gk (A4 (A1 (pv 0)))) (blkOk_by (by first | (show blkC A6z (defScope X0) _ _=true;decide+kernel) | rfl)) (by decide) (fun _ _ _ _ _=> (G9 (i:=2) sc.nd rfl (by first | exact .inl rfl | exact .inr rfl))) (fun _ _ _ _ _=> A0j) (fun _ _ _ _ _=> (A4 (C6h gk hu (A1 (pv 1)) (A1z hu (A1 (pv 0)) (A4 (A1 (pv 2))) (fun _ _=> rfl)))))) F7))))) Q6 Q6))))
theorem B8C {P:Program} {w:World} {K:PySem.W.Frag} {mg:Str→Option Value} {base:Heap} {f:Addr} {cdv:Value} {A:Around} {outer:List Env} {s:Shared} {H:Hp} {EX:XK} {G:Gx} {E:AExc→A0→AH→Prop} (Z:Blt K w mg) (hr:Room 0 (A.deeper (envOfC "_law_laid_calls" (defScope Y6) s.heap.objs.size f cdv))) (gk:G.K=K) (tk:Takes (bx P w K mg base A9L "_law_laid_calls" (defScope Y6) f cdv A outer s H EX) (cW G E)):
    ASs (bx P w K mg base A9L "_law_laid_calls" (defScope Y6) f cdv A outer s H EX) G (defBody Y6) (A6i E):=by
  subst gk
  have gk:G.K=G.K:=rfl
  have sc:=B2l
  have hu:=hr.units
  exact (C6 (N1 (A4 (V0 N4)) (G9 (i:=2) sc.nd rfl (by first | exact .inl rfl | exact .inr rfl)))
    (C6 (A5z (passes_of rfl) rfl (A56 gk (A4 (A1 (pv 1)))) (G9 (i:=3) sc.nd rfl (by first | exact .inl rfl | exact .inr rfl)) (C5 (N1 (A4 (Q1 gk (A1 (pv 2)) (B5e (A1z hu (A1 (pv 0)) (A4 (M0 gk (A1 (pv 3)) ae_int (fun _ _=> rfl))) (fun _ _=> rfl)) (M0 gk (A1 (pv 3)) ae_int (fun _ _=> rfl))))) (G9 (i:=2) sc.nd rfl (by first | exact .inl rfl | exact .inr rfl)))))
    (C5 (H7 (A1 (pv 2))))))
theorem B9Q {P:Program} {w:World} {K:PySem.W.Frag} {mg:Str→Option Value} {base:Heap} {f:Addr} {cdv:Value} {A:Around} {outer:List Env} {s:Shared} {H:Hp} {EX:XK} {G:Gx} {E:AExc→A0→AH→Prop} (Z:Blt K w mg) (R_NoRound:XkOk P w K mg base "NoRound" "no round" ["name"]) (hr:Room 2 (A.deeper (envOfC (("Book":Str)++"."++"there") (defScope U2) s.heap.objs.size f cdv))) (gk:G.K=K) (tk:Takes (bx P w K mg base A9V (("Book":Str)++"."++"there") (defScope U2) f cdv A outer s H EX) (cW G E)):
    ASs (bx P w K mg base A9V (("Book":Str)++"."++"there") (defScope U2) f cdv A outer s H EX) G (defBody U2) (A6n E):=by
  subst gk
  have gk:G.K=G.K:=rfl
  have sc:=B3B
  have hu:=hr.units
  exact (C6 (L9 (B5v hu (A4 (A1 (pv 1))) (d8 gk Z.fo_Book_written (A1 (pv 0)))) (C5 (A1x R_NoRound gk rfl tk hr (by decide) rfl (B7 (A4 (A1 (pv 1))) E7))) M9)
    (C5 (H7 (A1z hu (d8 gk Z.fo_Book_written (A1 (pv 0))) (A4 (A1 (pv 1))) (fun _ _=> rfl)))))
theorem B8i {P:Program} {w:World} {K:PySem.W.Frag} {mg:Str→Option Value} {base:Heap} {f:Addr} {cdv:Value} {A:Around} {outer:List Env} {s:Shared} {H:Hp} {EX:XK} {G:Gx} {E:AExc→A0→AH→Prop} (Z:Blt K w mg) (O_Book__there:OkM P w K mg base "Book" "there" U2 3 2 A01 [] (upc T9)) (O_is_call:Ok P w K mg base "is_call" R8 1 1 x7 (upc N6)) (hr:Room 3 (A.deeper (envOfC (("Book":Str)++"."++"callers") (defScope U0) s.heap.objs.size f cdv))) (gk:G.K=K) (tk:Takes (bx P w K mg base A6u (("Book":Str)++"."++"callers") (defScope U0) f cdv A outer s H EX) (cW G E)):
    ASs (bx P w K mg base A6u (("Book":Str)++"."++"callers") (defScope U0) f cdv A outer s H EX) G (defBody U0) (A6r E):=by
  subst gk
  have gk:G.K=G.K:=rfl
  have sc:=B2w
  have hu:=hr.units
  exact (C6 (i5 (x9 gk O_Book__there A9S hr (by decide) tk (A1 (pv 0)) (B7 (A4 (A1 (pv 1))) E7)))
    (C6 (A53 (i:=2) sc.nd rfl (by first | exact .inl rfl | exact .inr rfl) (V0 N4))
    (C6 (C2b gk (passes_of rfl) rfl sc.nd Z.fo_Book_written (pv 0) (pg_name (i:=3) sc.nd rfl (by first | exact .inl rfl | exact .inr rfl)) (pg_name (i:=4) sc.nd rfl (by first | exact .inl rfl | exact .inr rfl)) (fun G' gk'=> by have gk:=gk';exact (C5 (L9 (j3 (L0 (cr_any rfl) (Eq.mpr (congrArg (fun K=> CallA K _ _) gk) B6g) rfl Z.n_any B6h (E1 (A1G (own:=[("step",5)]) rfl sc.nd (A56 gk (A4 (A1 (pv 4)))) (blkOk_by (by first | (show blkC A6u (defScope U0) _ _=true;decide+kernel) | rfl)) (by decide) (fun _ _ _ _ _=> (G9 (i:=5) sc.nd rfl (by first | exact .inl rfl | exact .inr rfl))) (fun _ _ _ _ _=> A0j) (fun _ _ _ _ _=> (A4 (A20 (K2 gk O_is_call A5M hr (by decide) rfl A1A (B7 (A4 (A1 (pv 5))) E7)) (A3b (A30 gk hu (M0 gk (A1 (pv 5)) ae_int (fun _ _=> rfl)) (A1 (pv 1)))))))) F7))) (C5 (i5 (A6A gk A9z PySem.F.plainAttrs_list PySem.F.slot_list_append PySem.F.type_list_append mt_append (A1 (pv 2)) (E9 (A4 (A1 (pv 3))) N4)))) M9))))
    (C5 (H7 (A1 (pv 2)))))))
theorem B9g {P:Program} {w:World} {K:PySem.W.Frag} {mg:Str→Option Value} {base:Heap} {f:Addr} {cdv:Value} {A:Around} {outer:List Env} {s:Shared} {H:Hp} {EX:XK} {G:Gx} {E:AExc→A0→AH→Prop} (Z:Blt K w mg) (O_Book__callers:OkM P w K mg base "Book" "callers" U0 4 2 A1o [] (upc j9)) (R_InUse:XkOk P w K mg base "InUse" "in use" ["name"]) (hr:Room 4 (A.deeper (envOfC (("Book":Str)++"."++"drop") (defScope V6) s.heap.objs.size f cdv))) (gk:G.K=K) (tk:Takes (bx P w K mg base A9Y (("Book":Str)++"."++"drop") (defScope V6) f cdv A outer s H EX) (cW G E)):
    ASs (bx P w K mg base A9Y (("Book":Str)++"."++"drop") (defScope V6) f cdv A outer s H EX) G (defBody V6) (A65 E):=by
  subst gk
  have gk:G.K=G.K:=rfl
  have sc:=B3K
  have hu:=hr.units
  exact (C6 (N1 (A4 (x9 gk O_Book__callers B8c hr (by decide) tk (A1 (pv 0)) (B7 (A4 (A1 (pv 1))) E7))) (G9 (i:=2) sc.nd rfl (by first | exact .inl rfl | exact .inr rfl)))
    (C6 (L9 (A1K gk hu (A1 (pv 2)) (V0 N4)) (C5 (A1x R_InUse gk rfl tk hr (by decide) rfl (B7 (A4 (M0 gk (A1 (pv 2)) ae_int (fun _ _=> rfl))) E7))) M9)
    (C6 (B5K (d8 gk Z.fo_Book_written (A1 (pv 0))) (A4 (A1 (pv 1))))
    (C5 (B5K (d8 gk Z.fo_Book_laid (A1 (pv 0))) (A4 (A1 (pv 1))))))))
theorem B9R {P:Program} {w:World} {K:PySem.W.Frag} {mg:Str→Option Value} {base:Heap} {f:Addr} {cdv:Value} {A:Around} {outer:List Env} {s:Shared} {H:Hp} {EX:XK} {G:Gx} {E:AExc→A0→AH→Prop} (Z:Blt K w mg) (O_Book__drop:OkM P w K mg base "Book" "drop" V6 5 2 A2e [] (upc X3)) (hr:Room 5 (A.deeper (envOfC "_law_caller" (defScope Z7) s.heap.objs.size f cdv))) (gk:G.K=K) (tk:Takes (bx P w K mg base A9W "_law_caller" (defScope Z7) f cdv A outer s H EX) (cW G E)):
    ASs (bx P w K mg base A9W "_law_caller" (defScope Z7) f cdv A outer s H EX) G (defBody Z7) (A6o E):=by
  subst gk
  have gk:G.K=G.K:=rfl
  have sc:=B3H
  have hu:=hr.units
  exact (C6 (N1 (A4 Q6) (G9 (i:=2) sc.nd rfl (by first | exact .inl rfl | exact .inr rfl)))
    (C6 (B6G gk rfl rfl sc.nd tk (fun pn xe G E gk gl tk=> by exact (C5 (i5 (x9 gk O_Book__drop B28 hr (by decide) tk (A1 (pv 0)) (B7 (A4 (A1 (pv 1))) E7))))) (HdA.cons rfl rfl rfl Z.h_InUse Z.x_InUse rfl (by first | exact .inl rfl | exact .inr rfl) (by first | exact .inl rfl | exact .inr rfl) (by decide) (fun G gk=> (A8O gk Z.f_name rfl (by first | exact .inl rfl | exact .inr (.inl rfl) | exact .inr (.inr rfl)))) rfl rfl rfl rfl HdA.nil))
    (C5 (H7 (A1 (pv 2))))))
theorem B8b {P:Program} {w:World} {K:PySem.W.Frag} {mg:Str→Option Value} {base:Heap} {f:Addr} {cdv:Value} {A:Around} {outer:List Env} {s:Shared} {H:Hp} {EX:XK} {G:Gx} {E:AExc→A0→AH→Prop} (Z:Blt K w mg) (O_look_sizes:Ok P w K mg base "look_sizes" Z9 3 1 A43 (upc A2Z)) (hr:Room 3 (A.deeper (envOfC (("Book":Str)++"."++"__init__") (defScope Z0) s.heap.objs.size f cdv))) (gk:G.K=K) (tk:Takes (bx P w K mg base A9O (("Book":Str)++"."++"__init__") (defScope Z0) f cdv A outer s H EX) (cW G E)):
    ASs (bx P w K mg base A9O (("Book":Str)++"."++"__init__") (defScope Z0) f cdv A outer s H EX) G (defBody Z0) (A6l E):=by
  subst gk
  have gk:G.K=G.K:=rfl
  have sc:=B2p
  have hu:=hr.units
  exact (C6 (i5 (K2 gk O_look_sizes B9v hr (by decide) rfl tk (B7 (A4 (A1 (pv 1))) E7)))
    (C6 (N1 (A4 (A1 (pv 1))) (B07 gk Z.fo_Book_casks (A1 (pv 0))))
    (C6 (N1 (A5m A7g) (B07 gk Z.fo_Book_written (A1 (pv 0))))
    (C5 (N1 (A5m A7g) (B07 gk Z.fo_Book_laid (A1 (pv 0))))))))
theorem B8J {P:Program} {w:World} {K:PySem.W.Frag} {mg:Str→Option Value} {base:Heap} {f:Addr} {cdv:Value} {A:Around} {outer:List Env} {s:Shared} {H:Hp} {EX:XK} {G:Gx} {E:AExc→A0→AH→Prop} (Z:Blt K w mg) (O_is_name:Ok P w K mg base "is_name" X6 1 1 A5K (upc A2k)) (R_BadName:XkOk P w K mg base "BadName" "bad name" []) (R_Taken:XkOk P w K mg base "Taken" "taken" ["name"]) (R_TooMany:XkOk P w K mg base "TooMany" "too many" ["most"]) (hr:Room 2 (A.deeper (envOfC (("Book":Str)++"."++"look_new") (defScope Y9) s.heap.objs.size f cdv))) (gk:G.K=K) (tk:Takes (bx P w K mg base A9N (("Book":Str)++"."++"look_new") (defScope Y9) f cdv A outer s H EX) (cW G E)):
    ASs (bx P w K mg base A9N (("Book":Str)++"."++"look_new") (defScope Y9) f cdv A outer s H EX) G (defBody Y9) (A6g E):=by
  subst gk
  have gk:G.K=G.K:=rfl
  have sc:=B2q
  have hu:=hr.units
  exact (C6 (L9 (A14 (j3 (K2 gk O_is_name C1d hr (by decide) rfl tk (B7 (A4 (A1 (pv 1))) E7)))) (C5 (C1j R_BadName gk rfl tk hr (by decide) rfl)) M9)
    (C6 (L9 (B6E hu (A4 (A1 (pv 1))) (d8 gk Z.fo_Book_written (A1 (pv 0)))) (C5 (A1x R_Taken gk rfl tk hr (by decide) rfl (B7 (A4 (A1 (pv 1))) E7))) M9)
    (C5 (L9 (B1Y (L0 call_lenD B0n rfl Z.n_len O1 (E1 (d8 gk Z.fo_Book_written (A1 (pv 0))) F7)) (A08 rfl Z.c_MOST_ROUNDS)) (C5 (A1x R_TooMany gk rfl tk hr (by decide) rfl (B7 (A4 (A08 rfl Z.c_MOST_ROUNDS)) E7))) M9))))
theorem B8e {P:Program} {w:World} {K:PySem.W.Frag} {mg:Str→Option Value} {base:Heap} {f:Addr} {cdv:Value} {A:Around} {outer:List Env} {s:Shared} {H:Hp} {EX:XK} {G:Gx} {E:AExc→A0→AH→Prop} (Z:Blt K w mg) (O_is_call:Ok P w K mg base "is_call" R8 1 1 x7 (upc N6)) (hr:Room 1 (A.deeper (envOfC (("Book":Str)++"."++"laid_out") (defScope Z1) s.heap.objs.size f cdv))) (gk:G.K=K) (tk:Takes (bx P w K mg base A9P (("Book":Str)++"."++"laid_out") (defScope Z1) f cdv A outer s H EX) (cW G E)):
    ASs (bx P w K mg base A9P (("Book":Str)++"."++"laid_out") (defScope Z1) f cdv A outer s H EX) G (defBody Z1) (A6m E):=by
  subst gk
  have gk:G.K=G.K:=rfl
  have sc:=B2n
  have hu:=hr.units
  exact (C6 (A53 (i:=2) sc.nd rfl (by first | exact .inl rfl | exact .inr rfl) (V0 N4))
    (C6 (B0T (passes_of rfl) rfl (A3d gk (A1 (pv 1))) (G9 (i:=3) sc.nd rfl (by first | exact .inl rfl | exact .inr rfl)) (C5 (L9 (j3 (K2 gk O_is_call A5M hr (by decide) rfl tk (B7 (A4 (A1 (pv 3))) E7))) (C5 (i5 (B6Y (A1 (pv 2)) (B5e (A1z hu (d8 gk Z.fo_Book_laid (A1 (pv 0))) (A4 (M0 gk (A1 (pv 3)) ae_int (fun _ _=> rfl))) (fun _ _=> rfl)) (M0 gk (A1 (pv 3)) ae_int (fun _ _=> rfl)))))) (C5 (i5 (A6A gk A9z PySem.F.plainAttrs_list PySem.F.slot_list_append PySem.F.type_list_append mt_append (A1 (pv 2)) (E9 (A4 (A1 (pv 3))) N4)))))))
    (C5 (H7 (A1 (pv 2))))))
theorem B8A {P:Program} {w:World} {K:PySem.W.Frag} {mg:Str→Option Value} {base:Heap} {f:Addr} {cdv:Value} {A:Around} {outer:List Env} {s:Shared} {H:Hp} {EX:XK} {G:Gx} {E:AExc→A0→AH→Prop} (Z:Blt K w mg) (O_is_call:Ok P w K mg base "is_call" R8 1 1 x7 (upc N6)) (O_call_fault:Ok P w K mg base "call_fault" Z8 1 1 A4z (upc A1t)) (O_fault_of:Ok P w K mg base "fault_of" c9 2 2 A5G (upc A1u)) (O_Book__there:OkM P w K mg base "Book" "there" U2 3 2 A01 [] (upc T9)) (R_BadRow:XkOk P w K mg base "BadRow" "bad row" ["step","place"]) (hr:Room 3 (A.deeper (envOfC (("Book":Str)++"."++"look_step") (defScope Y5) s.heap.objs.size f cdv))) (gk:G.K=K) (tk:Takes (bx P w K mg base A9J (("Book":Str)++"."++"look_step") (defScope Y5) f cdv A outer s H EX) (cW G E)):
    ASs (bx P w K mg base A9J (("Book":Str)++"."++"look_step") (defScope Y5) f cdv A outer s H EX) G (defBody Y5) (A6f E):=by
  subst gk
  have gk:G.K=G.K:=rfl
  have sc:=B2g
  have hu:=hr.units
  exact (C6 (N1 (A4 (A3z (j3 (K2 gk O_is_call A5M hr (by decide) rfl tk (B7 (A4 (A1 (pv 2))) E7))) (K2 gk O_call_fault B9W hr (by decide) rfl tk (B7 (A4 (A1 (pv 2))) E7)) (K2 gk O_fault_of C0o hr (by decide) rfl tk (B7 (A4 (d8 gk Z.fo_Book_casks (A1 (pv 0)))) (B7 (A4 (A1 (pv 2))) E7))))) (G9 (i:=3) sc.nd rfl (by first | exact .inl rfl | exact .inr rfl)))
    (C6 (L9 (B0k (A1 (pv 3)) A0q) (C5 (A1x R_BadRow gk rfl tk hr (by decide) rfl (B7 (A4 (A1 (pv 1))) (B7 (A4 (A1 (pv 3))) E7)))) M9)
    (C5 (L9 (j3 (K2 gk O_is_call A5M hr (by decide) rfl tk (B7 (A4 (A1 (pv 2))) E7))) (C5 (i5 (x9 gk O_Book__there A9S hr (by decide) tk (A1 (pv 0)) (B7 (A4 (M0 gk (A1 (pv 2)) ae_int (fun _ _=> rfl))) E7)))) M9))))
theorem B83 {P:Program} {w:World} {K:PySem.W.Frag} {mg:Str→Option Value} {base:Heap} {f:Addr} {cdv:Value} {A:Around} {outer:List Env} {s:Shared} {H:Hp} {EX:XK} {G:Gx} {E:AExc→A0→AH→Prop} (Z:Blt K w mg) (O_is_call:Ok P w K mg base "is_call" R8 1 1 x7 (upc N6)) (hr:Room 1 (A.deeper (envOfC (("Book":Str)++"."++"length") (defScope X1) s.heap.objs.size f cdv))) (gk:G.K=K) (tk:Takes (bx P w K mg base A60 (("Book":Str)++"."++"length") (defScope X1) f cdv A outer s H EX) (cW G E)):
    ASs (bx P w K mg base A60 (("Book":Str)++"."++"length") (defScope X1) f cdv A outer s H EX) G (defBody X1) (A62 E):=by
  subst gk
  have gk:G.K=G.K:=rfl
  have sc:=B22
  have hu:=hr.units
  exact (C5 (H7 (L0 (C2y rfl) C2x rfl Z.n_sum C4c (E1 (C3T (own:=[("step",2)]) rfl sc.nd (A3d gk (A1 (pv 1))) (blkOk_by (by first | (show blkC A60 (defScope X1) _ _=true;decide+kernel) | rfl)) (by decide) (fun _ _ _ _ _=> (G9 (i:=2) sc.nd rfl (by first | exact .inl rfl | exact .inr rfl))) (fun _ _ _ _ _=> A0j) (fun _ _ _ _ _=> (A4 (A3z (j3 (K2 gk O_is_call A5M hr (by decide) rfl A1A (B7 (A4 (A1 (pv 2))) E7))) (A12 gk (M0 gk (A1 (pv 2)) ae_int (fun _ _=> rfl)) (L0 call_len O9 rfl Z.n_len O1 (E1 (A1z hu (d8 gk Z.fo_Book_laid (A1 (pv 0))) (A4 (M0 gk (A1 (pv 2)) ae_int (fun _ _=> rfl))) (fun _ _=> rfl)) F7))) ae_int)))) F7))))
theorem B9I {P:Program} {w:World} {K:PySem.W.Frag} {mg:Str→Option Value} {base:Heap} {f:Addr} {cdv:Value} {A:Around} {outer:List Env} {s:Shared} {H:Hp} {EX:XK} {G:Gx} {E:AExc→A0→AH→Prop} (Z:Blt K w mg) (O_Book__look_new:OkM P w K mg base "Book" "look_new" Y9 3 2 A4c [] (upc A1j)) (O_Book__look_step:OkM P w K mg base "Book" "look_step" Y5 4 3 A4R [] (upc A1i)) (O_Book__length:OkM P w K mg base "Book" "length" X1 2 2 A4l [] (upc A1p)) (O_Book__laid_out:OkM P w K mg base "Book" "laid_out" Z1 2 2 A4a [] (upc A1m)) (R_TooLong:XkOk P w K mg base "TooLong" "too long" ["most"]) (hr:Room 4 (A.deeper (envOfC (("Book":Str)++"."++"write") (defScope Z5) s.heap.objs.size f cdv))) (gk:G.K=K) (tk:Takes (bx P w K mg base A9T (("Book":Str)++"."++"write") (defScope Z5) f cdv A outer s H EX) (cW G E)):
    ASs (bx P w K mg base A9T (("Book":Str)++"."++"write") (defScope Z5) f cdv A outer s H EX) G (defBody Z5) (A6p E):=by
  subst gk
  have gk:G.K=G.K:=rfl
  have sc:=B3C
  have hu:=hr.units
  exact (C6 (i5 (x9 gk O_Book__look_new B8B hr (by decide) tk (A1 (pv 0)) (B7 (A4 (A1 (pv 1))) E7)))
    (C6 (B0T (passes_of rfl) rfl (C5E gk rfl Z.n_enumerate (A1 (pv 2))) (A5v gk rfl (r9 (G9 (i:=3) sc.nd rfl (by first | exact .inl rfl | exact .inr rfl)) (r9 (G9 (i:=4) sc.nd rfl (by first | exact .inl rfl | exact .inr rfl)) A5W))) (C5 (i5 (x9 gk O_Book__look_step B7z hr (by decide) tk (A1 (pv 0)) (B7 (A4 (A1 (pv 3))) (B7 (A4 (A1 (pv 4))) E7))))))
    (C6 (L9 (B7A (x9 gk O_Book__length B8t hr (by decide) tk (A1 (pv 0)) (B7 (A4 (A1 (pv 2))) E7)) (A08 rfl Z.c_MOST_FLAT)) (C5 (A1x R_TooLong gk rfl tk hr (by decide) rfl (B7 (A4 (A08 rfl Z.c_MOST_FLAT)) E7))) M9)
    (C6 (B5N hu (A4 (A03 call_list_of A79 rfl Z.n_list A2n (E1 (A1 (pv 2)) F7))) (d8 gk Z.fo_Book_written (A1 (pv 0))) (A4 (A1 (pv 1))))
    (C5 (B5N hu (A4 (x9 gk O_Book__laid_out B73 hr (by decide) tk (A1 (pv 0)) (B7 (A4 (A1 (pv 2))) E7))) (d8 gk Z.fo_Book_laid (A1 (pv 0))) (A4 (A1 (pv 1)))))))))
theorem B9C {P:Program} {w:World} {K:PySem.W.Frag} {mg:Str→Option Value} {base:Heap} {f:Addr} {cdv:Value} {A:Around} {outer:List Env} {s:Shared} {H:Hp} {EX:XK} {G:Gx} {E:AExc→A0→AH→Prop} (Z:Blt K w mg) (hr:Room 0 (A.deeper (envOfC (("Book":Str)++"."++"names") (defScope Z6) s.heap.objs.size f cdv))) (gk:G.K=K) (tk:Takes (bx P w K mg base A9U (("Book":Str)++"."++"names") (defScope Z6) f cdv A outer s H EX) (cW G E)):
    ASs (bx P w K mg base A9U (("Book":Str)++"."++"names") (defScope Z6) f cdv A outer s H EX) G (defBody Z6) (A63 E):=by
  subst gk
  have gk:G.K=G.K:=rfl
  have sc:=B3D
  have hu:=hr.units
  exact (C5 (H7 (A03 (call_list_dK rfl) C1x rfl Z.n_list A2n (E1 (d8 gk Z.fo_Book_written (A1 (pv 0))) F7))))
theorem B8k {P:Program} {w:World} {K:PySem.W.Frag} {mg:Str→Option Value} {base:Heap} {f:Addr} {cdv:Value} {A:Around} {outer:List Env} {s:Shared} {H:Hp} {EX:XK} {G:Gx} {E:AExc→A0→AH→Prop} (Z:Blt K w mg) (hr:Room 0 (A.deeper (envOfC (("Book":Str)++"."++"__len__") (defScope Z3) s.heap.objs.size f cdv))) (gk:G.K=K) (tk:Takes (bx P w K mg base A9R (("Book":Str)++"."++"__len__") (defScope Z3) f cdv A outer s H EX) (cW G E)):
    ASs (bx P w K mg base A9R (("Book":Str)++"."++"__len__") (defScope Z3) f cdv A outer s H EX) G (defBody Z3) (A6q E):=by
  subst gk
  have gk:G.K=G.K:=rfl
  have sc:=B2x
  have hu:=hr.units
  exact (C5 (H7 (L0 call_lenD B0n rfl Z.n_len O1 (E1 (d8 gk Z.fo_Book_written (A1 (pv 0))) F7))))
theorem B8K {P:Program} {w:World} {K:PySem.W.Frag} {mg:Str→Option Value} {base:Heap} {f:Addr} {cdv:Value} {A:Around} {outer:List Env} {s:Shared} {H:Hp} {EX:XK} {G:Gx} {E:AExc→A0→AH→Prop} (Z:Blt K w mg) (hr:Room 0 (A.deeper (envOfC (("Book":Str)++"."++"__repr__") (defScope Y8) s.heap.objs.size f cdv))) (gk:G.K=K) (tk:Takes (bx P w K mg base A9Q (("Book":Str)++"."++"__repr__") (defScope Y8) f cdv A outer s H EX) (cW G E)):
    ASs (bx P w K mg base A9Q (("Book":Str)++"."++"__repr__") (defScope Y8) f cdv A outer s H EX) G (defBody Y8) (A6j E):=by
  subst gk
  have gk:G.K=G.K:=rfl
  have sc:=B2v
  have hu:=hr.units
  exact (C5 (H7 (C07 (.cons Q6 (.cons (C5H (L0 call_lenD B0n rfl Z.n_len O1 (E1 (d8 gk Z.fo_Book_written (A1 (pv 0))) F7))) (.cons Q6 .nil))))))
theorem B9r {P:Program} {w:World} {K:PySem.W.Frag} {mg:Str→Option Value} {base:Heap} {f:Addr} {cdv:Value} {A:Around} {outer:List Env} {s:Shared} {H:Hp} {EX:XK} {G:Gx} {E:AExc→A0→AH→Prop} (Z:Blt K w mg) (O_Book__there:OkM P w K mg base "Book" "there" U2 3 2 A01 [] (upc T9)) (hr:Room 3 (A.deeper (envOfC (("Book":Str)++"."++"flat") (defScope a9) s.heap.objs.size f cdv))) (gk:G.K=K) (tk:Takes (bx P w K mg base A9Z (("Book":Str)++"."++"flat") (defScope a9) f cdv A outer s H EX) (cW G E)):
    ASs (bx P w K mg base A9Z (("Book":Str)++"."++"flat") (defScope a9) f cdv A outer s H EX) G (defBody a9) (A69 E):=by
  subst gk
  have gk:G.K=G.K:=rfl
  have sc:=B3L
  have hu:=hr.units
  exact (C6 (i5 (x9 gk O_Book__there A9S hr (by decide) tk (A1 (pv 0)) (B7 (A4 (A1 (pv 1))) E7)))
    (C5 (H7 (A03 call_list_of A79 rfl Z.n_list A2n (E1 (A1z hu (d8 gk Z.fo_Book_laid (A1 (pv 0))) (A4 (A1 (pv 1))) (fun _ _=> rfl)) F7)))))
theorem C6m {P:Program} {w:World} {K:PySem.W.Frag} {mg:Str→Option Value} {base:Heap} {f:Addr} {cdv:Value} {A:Around} {outer:List Env} {s:Shared} {H:Hp} {EX:XK} {G:Gx} {E:AExc→A0→AH→Prop} (Z:Blt K w mg) (O__law_open:Ok P w K mg base "_law_open" c7 1 1 A5C (upc A2g)) (O__law_any_sizes:Ok P w K mg base "_law_any_sizes" Z2 3 1 A4Y (upc A2W)) (O_Book____init__:OkM P w K mg base "Book" "__init__" Z0 4 2 A4W [] (upc A2X)) (O__law_take:Ok P w K mg base "_law_take" O6 1 2 V8 (upc E8)) (O__law_pick:Ok P w K mg base "_law_pick" R7 2 2 w5 (upc R4)) (O__law_word_of:Ok P w K mg base "_law_word_of" X0 1 2 A4h (upc A1q)) (O_Book__drop:OkM P w K mg base "Book" "drop" V6 5 2 A2e [] (upc X3)) (O__law_caller:Ok P w K mg base "_law_caller" Z7 6 2 A4s (upc A1n)) (O__law_row:Ok P w K mg base "_law_row" X5 5 4 A5I (upc A2j)) (O__law_laid_calls:Ok P w K mg base "_law_laid_calls" Y6 1 2 A4N (upc A1k)) (O_Book__write:OkM P w K mg base "Book" "write" Z5 5 3 A4r [] (upc A1l)) (O__law_same:Ok P w K mg base "_law_same" W0 9 2 A2i (upc (m__law_same 8))) (O_Book____repr__:OkM P w K mg base "Book" "__repr__" Y8 1 1 A4b [] (upc A2V)) (O_Book____len__:OkM P w K mg base "Book" "__len__" Z3 1 1 A4f [] (upc A2Y)) (O_Book__names:OkM P w K mg base "Book" "names" Z6 1 1 A4v [] (upc A1r)) (O_Book__flat:OkM P w K mg base "Book" "flat" a9 4 2 A47 [] (upc A1s)) (O_Book__callers:OkM P w K mg base "Book" "callers" U0 4 2 A1o [] (upc j9)) {ga__law_word:Addr} {fd__law_word:FuncData} (F__law_word:FunD K "_law_word" "_law_word" (defArgs X4) (defBody X4) (defScope X4) [] [] ga__law_word fd__law_word) (g__law_word:mg "_law_word"=some (.ref ga__law_word)) (lm:MakesL K mg base ("law"++".<locals>."++"<lambda>") cdv) (hr:Room 9 (A.deeper (envOfC "law" (defScope V2) s.heap.objs.size f cdv))) (gk:G.K=K) (tk:Takes (bx P w K mg base A1O "law" (defScope V2) f cdv A outer s H EX) (cW G E)):
    ASs (bx P w K mg base A1O "law" (defScope V2) f cdv A outer s H EX) G (defBody V2) (A8T E):=by
  subst gk
  have gk:G.K=G.K:=rfl
  have sc:=B6x
  have hu:=hr.units
  exact (C6 (A53 (i:=1) sc.nd rfl (by first | exact .inl rfl | exact .inr rfl) (K2 gk O__law_open C0Q hr (by decide) rfl tk (B7 (A4 (A1 (pv 0))) E7)))
    (C6 (C3K 1 (N1 (A4 (K2 gk O__law_any_sizes B8Q hr (by decide) rfl tk (B7 (A4 (A1 (pv 1))) E7))) (G9 (i:=2) sc.nd rfl (by first | exact .inl rfl | exact .inr rfl))))
    (C6 (N1 (A4 (V0 (E9 (A4 Q6) (E9 (A4 Q6) (E9 (A4 Q6) (E9 (A4 Q6) N4)))))) (G9 (i:=3) sc.nd rfl (by first | exact .inl rfl | exact .inr rfl)))
    (C6 (N1 (A4 (A0o (E9 (A4 (C22 gk Z.mk_Book O_Book____init__ B8E hr (by decide) rfl tk (B7 (A4 (A1 (pv 2))) E7))) (E9 (A5m A7g) (E9 (A5m (V0 N4)) (E9 (A5m A7g) N4)))))) (A5v gk rfl (r9 (G9 (i:=4) sc.nd rfl (by first | exact .inl rfl | exact .inr rfl)) (r9 (G9 (i:=5) sc.nd rfl (by first | exact .inl rfl | exact .inr rfl)) (r9 (G9 (i:=6) sc.nd rfl (by first | exact .inl rfl | exact .inr rfl)) (r9 (G9 (i:=7) sc.nd rfl (by first | exact .inl rfl | exact .inr rfl)) A5W))))))
    (C6 (A5z (passes_of rfl) rfl (A3P rfl Z.n_range (E1 (Q1 gk ae_int (K2 gk O__law_take V9 hr (by decide) rfl tk (B7 (A4 (A1 (pv 1))) (B7 (A4 ae_int) E7)))) F7)) (G9 (i:=8) sc.nd rfl (by first | exact .inl rfl | exact .inr rfl)) (C6 (N1 (A4 (K2 gk O__law_pick A5E hr (by decide) rfl tk (B7 (A4 (A1 (pv 1))) (B7 (A4 (A1 (pv 3))) E7)))) (G9 (i:=9) sc.nd rfl (by first | exact .inl rfl | exact .inr rfl)))
    (C6 (L9 (AW.ap (A6H (B6E hu (A4 (A1 (pv 9))) (A1 (pv 5))) (A51 (y9 gk hu (K2 gk O__law_take V9 hr (by decide) rfl tk (B7 (A4 (A1 (pv 1))) (B7 (A4 ae_int) E7))) ae_int)))) (C6 (N1 (A4 (K2 gk O__law_word_of B8x hr (by decide) rfl tk (B7 (A4 (A1 (pv 5))) (B7 (A4 (A1 (pv 9))) E7)))) (G9 (i:=10) sc.nd rfl (by first | exact .inl rfl | exact .inr rfl)))
    (C6 (L9 (A1K gk hu (C0k (ps:=[]) (kg:=6) (kl:=5) gk F__law_word g__law_word B92 B3h rfl rfl tk (hr.mono (by decide)) (C2S gk lm rfl (B5T (by first | (show A8U (defScope V2) _ A1O []=true;decide+kernel) | rfl)) E7) (B5T (by first | (show A8U (defScope V2) _ A1O []=true;decide+kernel) | rfl)) (by decide) (fun _ _ _ _ _ us hl=> match us,hl with | [],_=> rfl) (fun _ _ _ _ _ _ _ _ _ hr gk tk=> by have hu:=hr.units;exact (x9 gk O_Book__drop B28 hr (by decide) tk (A1 (pv 4)) (B7 (A4 (A1 (pv 9))) E7))) (fun cdv s H EX G' E' f sp hr gk tk hL=> C0L Z (hr.mono (by decide)) gk tk hL)) (A0o (E9 (A4 A0q) (E9 (A4 (A1 (pv 10))) N4)))) (C5 (H7 A1L)) M9)
    (C6 (L9 (y9 gk hu (A1 (pv 10)) Q6) (C6 (i5 (C4R (A1 (pv 5)) (A4 (A1 (pv 9)))))
    (C5 (i5 (A6A gk C48 PySem.F.plainAttrs_list PySem.F.slot_list_remove PySem.F.type_list_remove C3A (A1 (pv 6)) (E9 (A4 (A1 (pv 9))) N4))))) M9)
    (C6 (A9u (i:=11) (own:=[("_law_here",12)]) rfl sc.nd rfl rfl rfl (A3d gk (A1 (pv 6))) (blkOk_by (by first | (show blkC A1O (defScope V2) _ _=true;decide+kernel) | rfl)) (by decide) (fun _ _ _ _ _=> (G9 (i:=12) sc.nd rfl (by first | exact .inl rfl | exact .inr rfl))) (fun _ _ _ _ _=> (A7t (A8t gk hu (A1 (pv 9)) (C2d hu (A1 (pv 5)) (A4 (A1 (pv 12))) (A4 (V0 N4)) ⟨rfl,rfl,rfl,rfl⟩)))) (fun _ _ _ _ _=> (A4 (A1 (pv 12)))))
    (C5 (L9 (AW.ap (A5k (y9 gk hu (A1 (pv 10)) Q6) (A5a (A1K gk hu (K2 gk O__law_caller B9B hr (by decide) rfl tk (B7 (A4 (A1 (pv 4))) (B7 (A4 (A1 (pv 9))) E7))) (M0 gk (A1 (pv 11)) ae_int (fun _ _=> rfl)))))) (C5 (H7 A1L)) M9)))))) (C6 (A9u (i:=13) (own:=[("_law_here",12)]) rfl sc.nd rfl rfl rfl (A3d gk (A1 (pv 6))) (blkOk_by (by first | (show blkC A1O (defScope V2) _ _=true;decide+kernel) | rfl)) (by decide) (fun _ _ _ _ _=> (G9 (i:=12) sc.nd rfl (by first | exact .inl rfl | exact .inr rfl))) (fun _ _ _ _ _=> (A7t (y9 gk hu (K2 gk O__law_take V9 hr (by decide) rfl A1A (B7 (A4 (A1 (pv 1))) (B7 (A4 ae_int) E7))) ae_int))) (fun _ _ _ _ _=> (A4 (A1 (pv 12)))))
    (C6 (N1 (A4 (K2 gk O__law_row C0n hr (by decide) rfl tk (B7 (A4 (A1 (pv 1))) (B7 (A4 (A1 (pv 2))) (B7 (A4 ae_int) (B7 (A4 A1L) E7)))))) (G9 (i:=14) sc.nd rfl (by first | exact .inl rfl | exact .inr rfl)))
    (C6 (A3v 13 (N1 (A4 (Q1 gk (A1G (own:=[("_law_here",12)]) rfl sc.nd (A56 gk (A4 (A1 (pv 13)))) (blkOk_by (by first | (show blkC A1O (defScope V2) _ _=true;decide+kernel) | rfl)) (by decide) (fun _ _ _ _ _=> (G9 (i:=12) sc.nd rfl (by first | exact .inl rfl | exact .inr rfl))) (fun _ _ _ _ _=> A0j) (fun _ _ _ _ _=> (A4 (A0o (E9 (A4 Q6) (E9 (A4 (A1 (pv 12))) (E9 (A4 (K2 gk O__law_take V9 hr (by decide) rfl A1A (B7 (A4 (A1 (pv 1))) (B7 (A4 ae_int) E7)))) N4))))))) (A1 (pv 14)))) (G9 (i:=15) sc.nd rfl (by first | exact .inl rfl | exact .inr rfl))))
    (C6 (N1 (A4 (K2 gk O__law_laid_calls B79 hr (by decide) rfl tk (B7 (A4 (A1 (pv 7))) (B7 (A4 (A7e gk (A1 (pv 15)) A74 (A7v (L0 call_len O9 rfl Z.n_len O1 (E1 (A1 (pv 13)) F7))))) E7)))) (G9 (i:=16) sc.nd rfl (by first | exact .inl rfl | exact .inr rfl)))
    (C6 (L9 (B7A (L0 call_len O9 rfl Z.n_len O1 (E1 (A1 (pv 16)) F7)) ae_int) (C5 B94) M9)
    (C6 (L9 (B0k (B39 gk O_Book__write B7t (fun _=> .nil) hr (by decide) tk (A1 (pv 4)) (B0o (A4 (A1 (pv 9))) (B0o (A4 (A03 call_tuple_of B0u rfl Z.n_tuple A5O (E1 (A1 (pv 15)) F7))) B6K))) A0q) (C5 (H7 A1L)) M9)
    (C6 (N1 (A4 (A0o (E9 (A4 (A1 (pv 13))) (E9 (A4 (Q1 gk (A1 (pv 16)) (A1 (pv 14)))) N4)))) (A5v gk rfl (r9 (B5z (A1 (pv 5)) (A4 (A1 (pv 9))) (pg_sub (A1 (pv 5)).pe (A4 (A1 (pv 9))).pe (set_dict (B7Z hu)))) (r9 (B5z (A1 (pv 7)) (A4 (A1 (pv 9))) (pg_sub (A1 (pv 7)).pe (A4 (A1 (pv 9))).pe (set_dict (B7Z hu)))) A5W))))
    (C5 (i5 (A6A gk A9z PySem.F.plainAttrs_list PySem.F.slot_list_append PySem.F.type_list_append mt_append (A1 (pv 6)) (E9 (A4 (A1 (pv 9))) N4))))))))))))
    (C6 (N1 (A4 (L0 call_len O9 rfl Z.n_len O1 (E1 (A1 (pv 6)) F7))) (G9 (i:=17) sc.nd rfl (by first | exact .inl rfl | exact .inr rfl)))
    (C6 (L9 (A14 (j3 (K2 gk O__law_same A9g hr (by decide) rfl tk (B7 (A4 (V0 (E9 (A4 (C2P gk O_Book__names B82 hr (by decide) tk (A1 (pv 4)))) (E9 (A4 (C3u gk O_Book____len__ B8H hr (by decide) rfl Z.n_len (A1 (pv 4)))) (E9 (A4 (C2M gk O_Book____repr__ B72 hr (by decide) rfl Z.n_repr (A1 (pv 4)))) N4))))) (B7 (A4 (V0 (E9 (A4 (A1 (pv 6))) (E9 (A4 (A1 (pv 17))) (E9 (A4 (Q1 gk (Q1 gk Q6 (A03 call_str_int C3C rfl Z.n_str B1E (E1 (A1 (pv 17)) F7))) Q6)) N4))))) E7))))) (C5 (H7 A1L)) M9)
    (C5 (B0T (passes_of rfl) rfl (A3d gk (A1 (pv 6))) (G9 (i:=12) sc.nd rfl (by first | exact .inl rfl | exact .inr rfl)) (C6 (A9u (i:=11) (own:=[("_law_there",18)]) rfl sc.nd rfl rfl rfl (A3d gk (A1 (pv 6))) (blkOk_by (by first | (show blkC A1O (defScope V2) _ _=true;decide+kernel) | rfl)) (by decide) (fun _ _ _ _ _=> (G9 (i:=18) sc.nd rfl (by first | exact .inl rfl | exact .inr rfl))) (fun _ _ _ _ _=> (A7t (A8t gk hu (A1 (pv 12)) (A1z hu (A1 (pv 5)) (A4 (A1 (pv 18))) (fun _ _=> rfl))))) (fun _ _ _ _ _=> (A4 (A1 (pv 18)))))
    (C5 (A3v 11 (L9 (A14 (j3 (K2 gk O__law_same A9g hr (by decide) rfl tk (B7 (A4 (V0 (E9 (A4 (B39 gk O_Book__callers B7u (fun _=> .nil) hr (by decide) tk (A1 (pv 4)) (B0o (A4 (A1 (pv 12))) B6K))) (E9 (A4 (x9 gk O_Book__flat B9G hr (by decide) tk (A1 (pv 4)) (B7 (A4 (A1 (pv 12))) E7))) N4)))) (B7 (A4 (V0 (E9 (A4 (A1 (pv 11))) (E9 (A4 (A1z hu (A1 (pv 7)) (A4 (A1 (pv 12))) (fun _ _=> rfl))) N4)))) E7))))) (C5 (H7 A1L)) M9)))))))))))
    (C5 (H7 A1L)))))))
end Ab
namespace Ab
open PySem PySem.Spec PyProof.Rows L2 RZ
theorem B9q {P:Program} {w:World} {K:PySem.W.Frag} {mg:Str→Option Value} {base:Heap} {f:Addr} {fd:FuncData} (Z:Blt K w mg) (F:FunD K "look_sizes" "look_sizes" (defArgs Z9) (defBody Z9) (defScope Z9) [] [] f fd) (hm:mg "look_sizes"=some (.ref f)) (R_BadSizes:XkOk P w K mg base "BadSizes" "bad sizes" ["cask"]):Ok P w K mg base "look_sizes" Z9 3 1 A43 (upc A2Z):=
  Ok.mk' upc.m hm F B3T rfl (fun cdv A outer s H EX G E hr gk tk=> B9k Z R_BadSizes hr gk tk) B8h
theorem C0Z {P:Program} {w:World} {K:PySem.W.Frag} {mg:Str→Option Value} {base:Heap} {f:Addr} {fd:FuncData} (Z:Blt K w mg) (F:FunD K "has_count" "has_count" (defArgs c5) (defBody c5) (defScope c5) [] [] f fd) (hm:mg "has_count"=some (.ref f)):Ok P w K mg base "has_count" c5 1 3 A5A (upc A2h):=
  Ok.mk' upc.m hm F B3m rfl (fun cdv A outer s H EX G E hr gk tk=> C0O Z hr gk tk) B95
theorem C0N {P:Program} {w:World} {K:PySem.W.Frag} {mg:Str→Option Value} {base:Heap} {f:Addr} {fd:FuncData} (Z:Blt K w mg) (F:FunD K "first_bad" "first_bad" (defArgs c8) (defBody c8) (defScope c8) [] [] f fd) (hm:mg "first_bad"=some (.ref f)):Ok P w K mg base "first_bad" c8 1 3 A5F (upc A0P):=
  Ok.mk' upc.m hm F B3g rfl (fun cdv A outer s H EX G E hr gk tk=> C0B Z hr gk tk) B96
theorem C0y {P:Program} {w:World} {K:PySem.W.Frag} {mg:Str→Option Value} {base:Heap} {f:Addr} {fd:FuncData} (Z:Blt K w mg) (F:FunD K "fault_of" "fault_of" (defArgs c9) (defBody c9) (defScope c9) [] [] f fd) (hm:mg "fault_of"=some (.ref f)) (O_has_count:Ok P w K mg base "has_count" c5 1 3 A5A (upc A2h)) (O_first_bad:Ok P w K mg base "first_bad" c8 1 3 A5F (upc A0P)):Ok P w K mg base "fault_of" c9 2 2 A5G (upc A1u):=
  Ok.mk' upc.m hm F B37 rfl (fun cdv A outer s H EX G E hr gk tk=> C0w Z O_has_count O_first_bad hr gk tk) C02
theorem C1b {P:Program} {w:World} {K:PySem.W.Frag} {mg:Str→Option Value} {base:Heap} {f:Addr} {fd:FuncData} (Z:Blt K w mg) (F:FunD K "is_name" "is_name" (defArgs X6) (defBody X6) (defScope X6) [] [] f fd) (hm:mg "is_name"=some (.ref f)):Ok P w K mg base "is_name" X6 1 1 A5K (upc A2k):=
  Ok.mk' upc.m hm F B4C rfl (fun cdv A outer s H EX G E hr gk tk=> C1M Z hr gk tk) C05
theorem C1m {P:Program} {w:World} {K:PySem.W.Frag} {mg:Str→Option Value} {base:Heap} {f:Addr} {fd:FuncData} (Z:Blt K w mg) (F:FunD K "is_call" "is_call" (defArgs R8) (defBody R8) (defScope R8) [] [] f fd) (hm:mg "is_call"=some (.ref f)):Ok P w K mg base "is_call" R8 1 1 x7 (upc N6):=
  Ok.mk' upc.m hm F B4D rfl (fun cdv A outer s H EX G E hr gk tk=> C1X Z hr gk tk) C1e
theorem B9o {P:Program} {w:World} {K:PySem.W.Frag} {mg:Str→Option Value} {base:Heap} {f:Addr} {fd:FuncData} (Z:Blt K w mg) (F:FunD K "call_fault" "call_fault" (defArgs Z8) (defBody Z8) (defScope Z8) [] [] f fd) (hm:mg "call_fault"=some (.ref f)):Ok P w K mg base "call_fault" Z8 1 1 A4z (upc A1t):=
  Ok.mk' upc.m hm F B3R rfl (fun cdv A outer s H EX G E hr gk tk=> B9t Z hr gk tk) B9X
theorem B97 {P:Program} {w:World} {K:PySem.W.Frag} {mg:Str→Option Value} {base:Heap} {f:Addr} {fd:FuncData} (Z:Blt K w mg) (F:FunD K "_law_open" "_law_open" (defArgs c7) (defBody c7) (defScope c7) [] [] f fd) (hm:mg "_law_open"=some (.ref f)):Ok P w K mg base "_law_open" c7 1 1 A5C (upc A2g):=
  Ok.mk' upc.m hm F B3X rfl (fun cdv A outer s H EX G E hr gk tk=> B9z Z hr gk tk) B9y
theorem B93 {P:Program} {w:World} {K:PySem.W.Frag} {mg:Str→Option Value} {base:Heap} {f:Addr} {fd:FuncData} (Z:Blt K w mg) (F:FunD K "_law_take" "_law_take" (defArgs O6) (defBody O6) (defScope O6) [] [] f fd) (hm:mg "_law_take"=some (.ref f)):Ok P w K mg base "_law_take" O6 1 2 V8 (upc E8):=
  Ok.mk' upc.m hm F B3Y rfl (fun cdv A outer s H EX G E hr gk tk=> C0W Z hr gk tk) C0T
theorem C0b {P:Program} {w:World} {K:PySem.W.Frag} {mg:Str→Option Value} {base:Heap} {f:Addr} {fd:FuncData} (Z:Blt K w mg) (F:FunD K "_law_pick" "_law_pick" (defArgs R7) (defBody R7) (defScope R7) [] [] f fd) (hm:mg "_law_pick"=some (.ref f)) (O__law_take:Ok P w K mg base "_law_take" O6 1 2 V8 (upc E8)):Ok P w K mg base "_law_pick" R7 2 2 w5 (upc R4):=
  Ok.mk' upc.m hm F B3e rfl (fun cdv A outer s H EX G E hr gk tk=> C0F Z O__law_take hr gk tk) C0E
theorem B3l {P:Program} {w:World} {K:PySem.W.Frag} {mg:Str→Option Value} {base:Heap} {f:Addr} {fd:FuncData} (Z:Blt K w mg) (F:FunD K "_law_same" "_law_same" (defArgs W0) (defBody W0) (defScope W0) [] [] f fd) (hm:mg "_law_same"=some (.ref f)):∀d,Ok P w K mg base "_law_same" W0 (1+d) 2 A2i (upc (m__law_same d))
  | 0=> (C26 (n:=2) (ps:=A2i) hm F).up (by omega) upc.m (fun _ _ _ _ ⟨_,_,_,_,z⟩=> z)
  | d+1=> Ok.mk' (k:=1+d) upc.m hm F B3o rfl (fun cdv A outer s H EX G E hr gk tk=> C0G (d:=d) (j:=1+d) Z (B3l Z F hm d) (hr.mono (by omega)) gk tk) (C0V d)
theorem B9x {P:Program} {w:World} {K:PySem.W.Frag} {mg:Str→Option Value} {base:Heap} {f:Addr} {fd:FuncData} (Z:Blt K w mg) (F:FunD K "_law_sizes" "_law_sizes" (defArgs X2) (defBody X2) (defScope X2) [] [] f fd) (hm:mg "_law_sizes"=some (.ref f)) (O__law_take:Ok P w K mg base "_law_take" O6 1 2 V8 (upc E8)):Ok P w K mg base "_law_sizes" X2 2 3 A44 (upc A2d):=
  Ok.mk' upc.m hm F B3P rfl (fun cdv A outer s H EX G E hr gk tk=> B9e Z O__law_take hr gk tk) B9c
theorem B8U {P:Program} {w:World} {K:PySem.W.Frag} {mg:Str→Option Value} {base:Heap} {f:Addr} {fd:FuncData} (Z:Blt K w mg) (F:FunD K "_law_any_sizes" "_law_any_sizes" (defArgs Z2) (defBody Z2) (defScope Z2) [] [] f fd) (hm:mg "_law_any_sizes"=some (.ref f)) (O__law_sizes:Ok P w K mg base "_law_sizes" X2 2 3 A44 (upc A2d)) (O__law_pick:Ok P w K mg base "_law_pick" R7 2 2 w5 (upc R4)):Ok P w K mg base "_law_any_sizes" Z2 3 1 A4Y (upc A2W):=
  Ok.mk' upc.m hm F B2u rfl (fun cdv A outer s H EX G E hr gk tk=> B8d Z O__law_sizes O__law_pick hr gk tk) B8R
theorem B9L {P:Program} {w:World} {K:PySem.W.Frag} {mg:Str→Option Value} {base:Heap} {f:Addr} {fd:FuncData} (Z:Blt K w mg) (F:FunD K "_law_number" "_law_number" (defArgs Z4) (defBody Z4) (defScope Z4) [] [] f fd) (hm:mg "_law_number"=some (.ref f)) (O__law_take:Ok P w K mg base "_law_take" O6 1 2 V8 (upc E8)) (O__law_pick:Ok P w K mg base "_law_pick" R7 2 2 w5 (upc R4)):Ok P w K mg base "_law_number" Z4 3 1 A4u (upc A2b):=
  Ok.mk' upc.m hm F B27 rfl (fun cdv A outer s H EX G E hr gk tk=> B9H Z O__law_take O__law_pick hr gk tk) B9D
theorem B8o {P:Program} {w:World} {K:PySem.W.Frag} {mg:Str→Option Value} {base:Heap} {f:Addr} {fd:FuncData} (Z:Blt K w mg) (F:FunD K "_law_shuffled" "_law_shuffled" (defArgs W9) (defBody W9) (defScope W9) [] [] f fd) (hm:mg "_law_shuffled"=some (.ref f)) (O__law_take:Ok P w K mg base "_law_take" O6 1 2 V8 (upc E8)):Ok P w K mg base "_law_shuffled" W9 2 2 A4e (upc A2a):=
  Ok.mk' upc.m hm F B20 rfl (fun cdv A outer s H EX G E hr gk tk=> B8q Z O__law_take hr gk tk) B8n
theorem B71 {P:Program} {w:World} {K:PySem.W.Frag} {mg:Str→Option Value} {base:Heap} {f:Addr} {fd:FuncData} (Z:Blt K w mg) (F:FunD K "_law_some_casks" "_law_some_casks" (defArgs Y7) (defBody Y7) (defScope Y7) [] [] f fd) (hm:mg "_law_some_casks"=some (.ref f)) (O__law_shuffled:Ok P w K mg base "_law_shuffled" W9 2 2 A4e (upc A2a)):Ok P w K mg base "_law_some_casks" Y7 3 3 A4Q (upc A0H):=
  Ok.mk' upc.m hm F B2i rfl (fun cdv A outer s H EX G E hr gk tk=> B76 Z O__law_shuffled hr gk tk) B75
theorem B9b {P:Program} {w:World} {K:PySem.W.Frag} {mg:Str→Option Value} {base:Heap} {f:Addr} {fd:FuncData} (Z:Blt K w mg) (F:FunD K "_law_alike" "_law_alike" (defArgs V7) (defBody V7) (defScope V7) [] [] f fd) (hm:mg "_law_alike"=some (.ref f)):Ok P w K mg base "_law_alike" V7 1 1 A41 (upc A2c):=
  Ok.mk' upc.m hm F B3M rfl (fun cdv A outer s H EX G E hr gk tk=> B9a Z hr gk tk) B9V
theorem C0I {P:Program} {w:World} {K:PySem.W.Frag} {mg:Str→Option Value} {base:Heap} {f:Addr} {fd:FuncData} (Z:Blt K w mg) (F:FunD K "_law_deed" "_law_deed" (defArgs c6) (defBody c6) (defScope c6) [] [] f fd) (hm:mg "_law_deed"=some (.ref f)) (O__law_take:Ok P w K mg base "_law_take" O6 1 2 V8 (upc E8)) (O__law_alike:Ok P w K mg base "_law_alike" V7 1 1 A41 (upc A2c)) (O__law_pick:Ok P w K mg base "_law_pick" R7 2 2 w5 (upc R4)) (O__law_some_casks:Ok P w K mg base "_law_some_casks" Y7 3 3 A4Q (upc A0H)):Ok P w K mg base "_law_deed" c6 4 4 A49 (upc A2f):=
  Ok.mk' upc.m hm F B3i rfl (fun cdv A outer s H EX G E hr gk tk=> C0a Z O__law_take O__law_alike O__law_pick O__law_some_casks hr gk tk) C0J
theorem C0c {P:Program} {w:World} {K:PySem.W.Frag} {mg:Str→Option Value} {base:Heap} {f:Addr} {fd:FuncData} (Z:Blt K w mg) (F:FunD K "_law_row" "_law_row" (defArgs X5) (defBody X5) (defScope X5) [] [] f fd) (hm:mg "_law_row"=some (.ref f)) (O__law_take:Ok P w K mg base "_law_take" O6 1 2 V8 (upc E8)) (O__law_deed:Ok P w K mg base "_law_deed" c6 4 4 A49 (upc A2f)) (O__law_number:Ok P w K mg base "_law_number" Z4 3 1 A4u (upc A2b)):Ok P w K mg base "_law_row" X5 5 4 A5I (upc A2j):=
  Ok.mk' upc.m hm F B34 rfl (fun cdv A outer s H EX G E hr gk tk=> C0p Z O__law_take O__law_deed O__law_number hr gk tk) C0r
theorem B81 {P:Program} {w:World} {K:PySem.W.Frag} {mg:Str→Option Value} {base:Heap} {f:Addr} {fd:FuncData} (Z:Blt K w mg) (F:FunD K "_law_word_of" "_law_word_of" (defArgs X0) (defBody X0) (defScope X0) [] [] f fd) (hm:mg "_law_word_of"=some (.ref f)):Ok P w K mg base "_law_word_of" X0 1 2 A4h (upc A1q):=
  Ok.mk' upc.m hm F B26 rfl (fun cdv A outer s H EX G E hr gk tk=> B84 Z hr gk tk) B8z
theorem B78 {P:Program} {w:World} {K:PySem.W.Frag} {mg:Str→Option Value} {base:Heap} {f:Addr} {fd:FuncData} (Z:Blt K w mg) (F:FunD K "_law_laid_calls" "_law_laid_calls" (defArgs Y6) (defBody Y6) (defScope Y6) [] [] f fd) (hm:mg "_law_laid_calls"=some (.ref f)):Ok P w K mg base "_law_laid_calls" Y6 1 2 A4N (upc A1k):=
  Ok.mk' upc.m hm F B2l rfl (fun cdv A outer s H EX G E hr gk tk=> B8C Z hr gk tk) B8F
theorem B9F {P:Program} {w:World} {K:PySem.W.Frag} {mg:Str→Option Value} {base:Heap} {f:Addr} {fd:FuncData} (Z:Blt K w mg) (R_NoRound:XkOk P w K mg base "NoRound" "no round" ["name"]) (cl:Cls K (He.ga K "Book")) (M:Meth K (He.ga K "Book") "there" f) (F:FunD K "there" (("Book":Str)++"."++"there") (defArgs U2) (defBody U2) (defScope U2) [] [] f fd):OkM P w K mg base "Book" "there" U2 3 2 A01 [] (upc T9):=
  OkM.mk' upc.m cl M F B3B rfl (fun cdv A outer s H EX G E hr gk tk=> B9Q Z R_NoRound hr gk tk) B8a
theorem B8u {P:Program} {w:World} {K:PySem.W.Frag} {mg:Str→Option Value} {base:Heap} {f:Addr} {fd:FuncData} (Z:Blt K w mg) (O_Book__there:OkM P w K mg base "Book" "there" U2 3 2 A01 [] (upc T9)) (O_is_call:Ok P w K mg base "is_call" R8 1 1 x7 (upc N6)) (cl:Cls K (He.ga K "Book")) (M:Meth K (He.ga K "Book") "callers" f) (F:FunD K "callers" (("Book":Str)++"."++"callers") (defArgs U0) (defBody U0) (defScope U0) [] [] f fd):OkM P w K mg base "Book" "callers" U0 4 2 A1o [] (upc j9):=
  OkM.mk' upc.m cl M F B2w rfl (fun cdv A outer s H EX G E hr gk tk=> B8i Z O_Book__there O_is_call hr gk tk) B8p
theorem B9u {P:Program} {w:World} {K:PySem.W.Frag} {mg:Str→Option Value} {base:Heap} {f:Addr} {fd:FuncData} (Z:Blt K w mg) (O_Book__callers:OkM P w K mg base "Book" "callers" U0 4 2 A1o [] (upc j9)) (R_InUse:XkOk P w K mg base "InUse" "in use" ["name"]) (cl:Cls K (He.ga K "Book")) (M:Meth K (He.ga K "Book") "drop" f) (F:FunD K "drop" (("Book":Str)++"."++"drop") (defArgs V6) (defBody V6) (defScope V6) [] [] f fd):OkM P w K mg base "Book" "drop" V6 5 2 A2e [] (upc X3):=
  OkM.mk' upc.m cl M F B3K rfl (fun cdv A outer s H EX G E hr gk tk=> B9g Z O_Book__callers R_InUse hr gk tk) B9Y
theorem B9K {P:Program} {w:World} {K:PySem.W.Frag} {mg:Str→Option Value} {base:Heap} {f:Addr} {fd:FuncData} (Z:Blt K w mg) (F:FunD K "_law_caller" "_law_caller" (defArgs Z7) (defBody Z7) (defScope Z7) [] [] f fd) (hm:mg "_law_caller"=some (.ref f)) (O_Book__drop:OkM P w K mg base "Book" "drop" V6 5 2 A2e [] (upc X3)):Ok P w K mg base "_law_caller" Z7 6 2 A4s (upc A1n):=
  Ok.mk' upc.m hm F B3H rfl (fun cdv A outer s H EX G E hr gk tk=> B9R Z O_Book__drop hr gk tk) B8X
theorem B8M {P:Program} {w:World} {K:PySem.W.Frag} {mg:Str→Option Value} {base:Heap} {f:Addr} {fd:FuncData} (Z:Blt K w mg) (O_look_sizes:Ok P w K mg base "look_sizes" Z9 3 1 A43 (upc A2Z)) (cl:Cls K (He.ga K "Book")) (M:Meth K (He.ga K "Book") "__init__" f) (F:FunD K "__init__" (("Book":Str)++"."++"__init__") (defArgs Z0) (defBody Z0) (defScope Z0) [] [] f fd):OkM P w K mg base "Book" "__init__" Z0 4 2 A4W [] (upc A2X):=
  OkM.mk' upc.m cl M F B2p rfl (fun cdv A outer s H EX G E hr gk tk=> B8b Z O_look_sizes hr gk tk) B8I
theorem B8O {P:Program} {w:World} {K:PySem.W.Frag} {mg:Str→Option Value} {base:Heap} {f:Addr} {fd:FuncData} (Z:Blt K w mg) (O_is_name:Ok P w K mg base "is_name" X6 1 1 A5K (upc A2k)) (R_BadName:XkOk P w K mg base "BadName" "bad name" []) (R_Taken:XkOk P w K mg base "Taken" "taken" ["name"]) (R_TooMany:XkOk P w K mg base "TooMany" "too many" ["most"]) (cl:Cls K (He.ga K "Book")) (M:Meth K (He.ga K "Book") "look_new" f) (F:FunD K "look_new" (("Book":Str)++"."++"look_new") (defArgs Y9) (defBody Y9) (defScope Y9) [] [] f fd):OkM P w K mg base "Book" "look_new" Y9 3 2 A4c [] (upc A1j):=
  OkM.mk' upc.m cl M F B2q rfl (fun cdv A outer s H EX G E hr gk tk=> B8J Z O_is_name R_BadName R_Taken R_TooMany hr gk tk) B7x
theorem B8T {P:Program} {w:World} {K:PySem.W.Frag} {mg:Str→Option Value} {base:Heap} {f:Addr} {fd:FuncData} (Z:Blt K w mg) (O_is_call:Ok P w K mg base "is_call" R8 1 1 x7 (upc N6)) (cl:Cls K (He.ga K "Book")) (M:Meth K (He.ga K "Book") "laid_out" f) (F:FunD K "laid_out" (("Book":Str)++"."++"laid_out") (defArgs Z1) (defBody Z1) (defScope Z1) [] [] f fd):OkM P w K mg base "Book" "laid_out" Z1 2 2 A4a [] (upc A1m):=
  OkM.mk' upc.m cl M F B2n rfl (fun cdv A outer s H EX G E hr gk tk=> B8e Z O_is_call hr gk tk) B8f
theorem B74 {P:Program} {w:World} {K:PySem.W.Frag} {mg:Str→Option Value} {base:Heap} {f:Addr} {fd:FuncData} (Z:Blt K w mg) (O_is_call:Ok P w K mg base "is_call" R8 1 1 x7 (upc N6)) (O_call_fault:Ok P w K mg base "call_fault" Z8 1 1 A4z (upc A1t)) (O_fault_of:Ok P w K mg base "fault_of" c9 2 2 A5G (upc A1u)) (O_Book__there:OkM P w K mg base "Book" "there" U2 3 2 A01 [] (upc T9)) (R_BadRow:XkOk P w K mg base "BadRow" "bad row" ["step","place"]) (cl:Cls K (He.ga K "Book")) (M:Meth K (He.ga K "Book") "look_step" f) (F:FunD K "look_step" (("Book":Str)++"."++"look_step") (defArgs Y5) (defBody Y5) (defScope Y5) [] [] f fd):OkM P w K mg base "Book" "look_step" Y5 4 3 A4R [] (upc A1i):=
  OkM.mk' upc.m cl M F B2g rfl (fun cdv A outer s H EX G E hr gk tk=> B8A Z O_is_call O_call_fault O_fault_of O_Book__there R_BadRow hr gk tk) B7w
theorem B8y {P:Program} {w:World} {K:PySem.W.Frag} {mg:Str→Option Value} {base:Heap} {f:Addr} {fd:FuncData} (Z:Blt K w mg) (O_is_call:Ok P w K mg base "is_call" R8 1 1 x7 (upc N6)) (cl:Cls K (He.ga K "Book")) (M:Meth K (He.ga K "Book") "length" f) (F:FunD K "length" (("Book":Str)++"."++"length") (defArgs X1) (defBody X1) (defScope X1) [] [] f fd):OkM P w K mg base "Book" "length" X1 2 2 A4l [] (upc A1p):=
  OkM.mk' upc.m cl M F B22 rfl (fun cdv A outer s H EX G E hr gk tk=> B83 Z O_is_call hr gk tk) B87
theorem B9S {P:Program} {w:World} {K:PySem.W.Frag} {mg:Str→Option Value} {base:Heap} {f:Addr} {fd:FuncData} (Z:Blt K w mg) (O_Book__look_new:OkM P w K mg base "Book" "look_new" Y9 3 2 A4c [] (upc A1j)) (O_Book__look_step:OkM P w K mg base "Book" "look_step" Y5 4 3 A4R [] (upc A1i)) (O_Book__length:OkM P w K mg base "Book" "length" X1 2 2 A4l [] (upc A1p)) (O_Book__laid_out:OkM P w K mg base "Book" "laid_out" Z1 2 2 A4a [] (upc A1m)) (R_TooLong:XkOk P w K mg base "TooLong" "too long" ["most"]) (cl:Cls K (He.ga K "Book")) (M:Meth K (He.ga K "Book") "write" f) (F:FunD K "write" (("Book":Str)++"."++"write") (defArgs Z5) (defBody Z5) (defScope Z5) [] [] f fd):OkM P w K mg base "Book" "write" Z5 5 3 A4r [] (upc A1l):=
  OkM.mk' upc.m cl M F B3C rfl (fun cdv A outer s H EX G E hr gk tk=> B9I Z O_Book__look_new O_Book__look_step O_Book__length O_Book__laid_out R_TooLong hr gk tk) B8G
theorem B9N {P:Program} {w:World} {K:PySem.W.Frag} {mg:Str→Option Value} {base:Heap} {f:Addr} {fd:FuncData} (Z:Blt K w mg) (cl:Cls K (He.ga K "Book")) (M:Meth K (He.ga K "Book") "names" f) (F:FunD K "names" (("Book":Str)++"."++"names") (defArgs Z6) (defBody Z6) (defScope Z6) [] [] f fd):OkM P w K mg base "Book" "names" Z6 1 1 A4v [] (upc A1r):=
  OkM.mk' upc.m cl M F B3D rfl (fun cdv A outer s H EX G E hr gk tk=> B9C Z hr gk tk) B9U
theorem B8v {P:Program} {w:World} {K:PySem.W.Frag} {mg:Str→Option Value} {base:Heap} {f:Addr} {fd:FuncData} (Z:Blt K w mg) (cl:Cls K (He.ga K "Book")) (M:Meth K (He.ga K "Book") "__len__" f) (F:FunD K "__len__" (("Book":Str)++"."++"__len__") (defArgs Z3) (defBody Z3) (defScope Z3) [] [] f fd):OkM P w K mg base "Book" "__len__" Z3 1 1 A4f [] (upc A2Y):=
  OkM.mk' upc.m cl M F B2x rfl (fun cdv A outer s H EX G E hr gk tk=> B8k Z hr gk tk) B8s
theorem B8P {P:Program} {w:World} {K:PySem.W.Frag} {mg:Str→Option Value} {base:Heap} {f:Addr} {fd:FuncData} (Z:Blt K w mg) (cl:Cls K (He.ga K "Book")) (M:Meth K (He.ga K "Book") "__repr__" f) (F:FunD K "__repr__" (("Book":Str)++"."++"__repr__") (defArgs Y8) (defBody Y8) (defScope Y8) [] [] f fd):OkM P w K mg base "Book" "__repr__" Y8 1 1 A4b [] (upc A2V):=
  OkM.mk' upc.m cl M F B2v rfl (fun cdv A outer s H EX G E hr gk tk=> B8K Z hr gk tk) B8V
theorem B9j {P:Program} {w:World} {K:PySem.W.Frag} {mg:Str→Option Value} {base:Heap} {f:Addr} {fd:FuncData} (Z:Blt K w mg) (O_Book__there:OkM P w K mg base "Book" "there" U2 3 2 A01 [] (upc T9)) (cl:Cls K (He.ga K "Book")) (M:Meth K (He.ga K "Book") "flat" f) (F:FunD K "flat" (("Book":Str)++"."++"flat") (defArgs a9) (defBody a9) (defScope a9) [] [] f fd):OkM P w K mg base "Book" "flat" a9 4 2 A47 [] (upc A1s):=
  OkM.mk' upc.m cl M F B3L rfl (fun cdv A outer s H EX G E hr gk tk=> B9r Z O_Book__there hr gk tk) B9p
theorem o_law {P:Program} {w:World} {K:PySem.W.Frag} {mg:Str→Option Value} {base:Heap} {f:Addr} {fd:FuncData} (Z:Blt K w mg) (O__law_open:Ok P w K mg base "_law_open" c7 1 1 A5C (upc A2g)) (O__law_any_sizes:Ok P w K mg base "_law_any_sizes" Z2 3 1 A4Y (upc A2W)) (O_Book____init__:OkM P w K mg base "Book" "__init__" Z0 4 2 A4W [] (upc A2X)) (O__law_take:Ok P w K mg base "_law_take" O6 1 2 V8 (upc E8)) (O__law_pick:Ok P w K mg base "_law_pick" R7 2 2 w5 (upc R4)) (O__law_word_of:Ok P w K mg base "_law_word_of" X0 1 2 A4h (upc A1q)) (O_Book__drop:OkM P w K mg base "Book" "drop" V6 5 2 A2e [] (upc X3)) (O__law_caller:Ok P w K mg base "_law_caller" Z7 6 2 A4s (upc A1n)) (O__law_row:Ok P w K mg base "_law_row" X5 5 4 A5I (upc A2j)) (O__law_laid_calls:Ok P w K mg base "_law_laid_calls" Y6 1 2 A4N (upc A1k)) (O_Book__write:OkM P w K mg base "Book" "write" Z5 5 3 A4r [] (upc A1l)) (O__law_same:Ok P w K mg base "_law_same" W0 9 2 A2i (upc (m__law_same 8))) (O_Book____repr__:OkM P w K mg base "Book" "__repr__" Y8 1 1 A4b [] (upc A2V)) (O_Book____len__:OkM P w K mg base "Book" "__len__" Z3 1 1 A4f [] (upc A2Y)) (O_Book__names:OkM P w K mg base "Book" "names" Z6 1 1 A4v [] (upc A1r)) (O_Book__flat:OkM P w K mg base "Book" "flat" a9 4 2 A47 [] (upc A1s)) (O_Book__callers:OkM P w K mg base "Book" "callers" U0 4 2 A1o [] (upc j9)) {ga__law_word:Addr} {fd__law_word:FuncData} (F__law_word:FunD K "_law_word" "_law_word" (defArgs X4) (defBody X4) (defScope X4) [] [] ga__law_word fd__law_word) (g__law_word:mg "_law_word"=some (.ref ga__law_word)) (F:FunD K "law" "law" (defArgs V2) (defBody V2) (defScope V2) [] [] f fd) (hm:mg "law"=some (.ref f)) (lm:∀cdv,A8L K f cdv→MakesL K mg base ("law"++".<locals>."++"<lambda>") cdv):Ok P w K mg base "law" V2 10 1 A8u (upc m_law):=
  Ok.mkL upc.m hm F B6x rfl lm (fun cdv A outer s H EX G E lm hr gk tk=> C6m Z O__law_open O__law_any_sizes O_Book____init__ O__law_take O__law_pick O__law_word_of O_Book__drop O__law_caller O__law_row O__law_laid_calls O_Book__write O__law_same O_Book____repr__ O_Book____len__ O_Book__names O_Book__flat O_Book__callers F__law_word g__law_word lm hr gk tk) C5o
end Ab
namespace Ab
open PySem PySem.Spec PyProof.Rows L2 RZ
theorem hFacts {P:Program} {w:World} {K:PySem.W.Frag} {h:Heap} {mg:Str→Option Value} {f:Addr} (X:K.In h) (G:h.Ns mainGlobals mg) (hfa:mg ("law":Str)=some (.ref f)) (c:He.SaysD hFa hFn K) (x:hEx K=true):
    ∃fd:FuncData,(∀(s:Shared) (v:Value),BindsTo s fd ⟨[v],[]⟩ [("_law_script",v)])∧∀base:Heap,(∀p∈(i9 K).map (·.1),LamX.TabB base mg p.1 p.2)→FnOk P w K mg base (L2.CX P w) 10 f fd A8u (P8 K 1 (upc m_law)):=by
  obtain ⟨fd__wall,F__wall⟩:=c.def_ 0 (d:=B50) rfl
  have g__wall:=He.glo_ok X G (c.fact 0 (f:= .glo "_wall") rfl)
  obtain ⟨fd_look_sizes,F_look_sizes⟩:=c.def_ 1 (d:=B3Q) rfl
  have g_look_sizes:=He.glo_ok X G (c.fact 1 (f:= .glo "look_sizes") rfl)
  obtain ⟨fd_has_count,F_has_count⟩:=c.def_ 2 (d:=B3d) rfl
  have g_has_count:=He.glo_ok X G (c.fact 2 (f:= .glo "has_count") rfl)
  obtain ⟨fd_first_bad,F_first_bad⟩:=c.def_ 3 (d:=B3b) rfl
  have g_first_bad:=He.glo_ok X G (c.fact 3 (f:= .glo "first_bad") rfl)
  obtain ⟨fd_fault_of,F_fault_of⟩:=c.def_ 4 (d:=B3v) rfl
  have g_fault_of:=He.glo_ok X G (c.fact 4 (f:= .glo "fault_of") rfl)
  obtain ⟨fd_is_name,F_is_name⟩:=c.def_ 5 (d:=B4E) rfl
  have g_is_name:=He.glo_ok X G (c.fact 5 (f:= .glo "is_name") rfl)
  obtain ⟨fd_is_call,F_is_call⟩:=c.def_ 6 (d:=B4R) rfl
  have g_is_call:=He.glo_ok X G (c.fact 6 (f:= .glo "is_call") rfl)
  obtain ⟨fd_call_fault,F_call_fault⟩:=c.def_ 7 (d:=B3U) rfl
  have g_call_fault:=He.glo_ok X G (c.fact 7 (f:= .glo "call_fault") rfl)
  obtain ⟨fd__law_open,F__law_open⟩:=c.def_ 8 (d:=B3n) rfl
  have g__law_open:=He.glo_ok X G (c.fact 8 (f:= .glo "_law_open") rfl)
  obtain ⟨fd__law_take,F__law_take⟩:=c.def_ 9 (d:=B3f) rfl
  have g__law_take:=He.glo_ok X G (c.fact 9 (f:= .glo "_law_take") rfl)
  obtain ⟨fd__law_pick,F__law_pick⟩:=c.def_ 10 (d:=B3r) rfl
  have g__law_pick:=He.glo_ok X G (c.fact 10 (f:= .glo "_law_pick") rfl)
  obtain ⟨fd__law_same,F__law_same⟩:=c.def_ 11 (d:=B3V) rfl
  have g__law_same:=He.glo_ok X G (c.fact 11 (f:= .glo "_law_same") rfl)
  obtain ⟨fd__law_word,F__law_word⟩:=c.def_ 12 (d:=B3q) rfl
  have g__law_word:=He.glo_ok X G (c.fact 12 (f:= .glo "_law_word") rfl)
  obtain ⟨fd__law_sizes,F__law_sizes⟩:=c.def_ 13 (d:=B3J) rfl
  have g__law_sizes:=He.glo_ok X G (c.fact 13 (f:= .glo "_law_sizes") rfl)
  obtain ⟨fd__law_any_sizes,F__law_any_sizes⟩:=c.def_ 14 (d:=B2t) rfl
  have g__law_any_sizes:=He.glo_ok X G (c.fact 14 (f:= .glo "_law_any_sizes") rfl)
  obtain ⟨fd__law_number,F__law_number⟩:=c.def_ 15 (d:=B3A) rfl
  have g__law_number:=He.glo_ok X G (c.fact 15 (f:= .glo "_law_number") rfl)
  obtain ⟨fd__law_shuffled,F__law_shuffled⟩:=c.def_ 16 (d:=B21) rfl
  have g__law_shuffled:=He.glo_ok X G (c.fact 16 (f:= .glo "_law_shuffled") rfl)
  obtain ⟨fd__law_some_casks,F__law_some_casks⟩:=c.def_ 17 (d:=B2k) rfl
  have g__law_some_casks:=He.glo_ok X G (c.fact 17 (f:= .glo "_law_some_casks") rfl)
  obtain ⟨fd__law_alike,F__law_alike⟩:=c.def_ 18 (d:=B3N) rfl
  have g__law_alike:=He.glo_ok X G (c.fact 18 (f:= .glo "_law_alike") rfl)
  obtain ⟨fd__law_deed,F__law_deed⟩:=c.def_ 19 (d:=B3W) rfl
  have g__law_deed:=He.glo_ok X G (c.fact 19 (f:= .glo "_law_deed") rfl)
  obtain ⟨fd__law_row,F__law_row⟩:=c.def_ 20 (d:=B32) rfl
  have g__law_row:=He.glo_ok X G (c.fact 20 (f:= .glo "_law_row") rfl)
  obtain ⟨fd__law_word_of,F__law_word_of⟩:=c.def_ 21 (d:=B25) rfl
  have g__law_word_of:=He.glo_ok X G (c.fact 21 (f:= .glo "_law_word_of") rfl)
  obtain ⟨fd__law_laid_calls,F__law_laid_calls⟩:=c.def_ 22 (d:=B2j) rfl
  have g__law_laid_calls:=He.glo_ok X G (c.fact 22 (f:= .glo "_law_laid_calls") rfl)
  obtain ⟨fd__law_caller,F__law_caller⟩:=c.def_ 23 (d:=B29) rfl
  have g__law_caller:=He.glo_ok X G (c.fact 23 (f:= .glo "_law_caller") rfl)
  obtain ⟨fd_law,F_law⟩:=c.def_ 24 (d:=B6p) rfl
  have g_law:=He.glo_ok X G (c.fact 24 (f:= .glo "law") rfl)
  unfold hEx at x
  simp only [Bool.and_eq_true] at x
  have h_BadName:=He.glo_ok X G (c.fact 48 (f:= .glo "BadName") rfl)
  obtain ⟨fdi_BadName,Fi_BadName⟩:=c.def_ 25 (d:=B3z) rfl
  have h_BadRow:=He.glo_ok X G (c.fact 49 (f:= .glo "BadRow") rfl)
  obtain ⟨fdi_BadRow,Fi_BadRow⟩:=c.def_ 26 (d:=B4K) rfl
  have h_BadSizes:=He.glo_ok X G (c.fact 50 (f:= .glo "BadSizes") rfl)
  obtain ⟨fdi_BadSizes,Fi_BadSizes⟩:=c.def_ 27 (d:=B3a) rfl
  have h_InUse:=He.glo_ok X G (c.fact 51 (f:= .glo "InUse") rfl)
  obtain ⟨fdi_InUse,Fi_InUse⟩:=c.def_ 28 (d:=B40) rfl
  have h_NoRound:=He.glo_ok X G (c.fact 52 (f:= .glo "NoRound") rfl)
  obtain ⟨fdi_NoRound,Fi_NoRound⟩:=c.def_ 29 (d:=B35) rfl
  have h_NothingLeft:=He.glo_ok X G (c.fact 53 (f:= .glo "NothingLeft") rfl)
  obtain ⟨fdi_NothingLeft,Fi_NothingLeft⟩:=c.def_ 30 (d:=B24) rfl
  have h_Taken:=He.glo_ok X G (c.fact 54 (f:= .glo "Taken") rfl)
  obtain ⟨fdi_Taken,Fi_Taken⟩:=c.def_ 31 (d:=B4z) rfl
  have h_TooLong:=He.glo_ok X G (c.fact 55 (f:= .glo "TooLong") rfl)
  obtain ⟨fdi_TooLong,Fi_TooLong⟩:=c.def_ 32 (d:=B3x) rfl
  have h_TooMany:=He.glo_ok X G (c.fact 56 (f:= .glo "TooMany") rfl)
  obtain ⟨fdi_TooMany,Fi_TooMany⟩:=c.def_ 33 (d:=B36) rfl
  have h_HideError:=He.glo_ok X G (c.fact 57 (f:= .glo "HideError") rfl)
  have h_Missing:=He.glo_ok X G (c.fact 58 (f:= .glo "Missing") rfl)
  have cl_Book:Cls K (He.ga K "Book"):=He.cls_ok (c.fact 60 (f:= .cls "Book") rfl)
  have go_Book:=He.glo_ok X G (c.fact 59 (f:= .glo "Book") rfl)
  obtain ⟨fd_Book__there,F_Book__there⟩:=c.def_ 34 (d:=B3F) rfl
  have M_Book__there:=He.meth_ok (c.fact 64 (f:= .meth "Book" "there") rfl)
  obtain ⟨fd_Book__callers,F_Book__callers⟩:=c.def_ 35 (d:=B2y) rfl
  have M_Book__callers:=He.meth_ok (c.fact 65 (f:= .meth "Book" "callers") rfl)
  obtain ⟨fd_Book__drop,F_Book__drop⟩:=c.def_ 36 (d:=B3O) rfl
  have M_Book__drop:=He.meth_ok (c.fact 66 (f:= .meth "Book" "drop") rfl)
  obtain ⟨fd_Book____init__,F_Book____init__⟩:=c.def_ 37 (d:=B2s) rfl
  have M_Book____init__:=He.meth_ok (c.fact 67 (f:= .meth "Book" "__init__") rfl)
  obtain ⟨fd_Book__look_new,F_Book__look_new⟩:=c.def_ 38 (d:=B2o) rfl
  have M_Book__look_new:=He.meth_ok (c.fact 68 (f:= .meth "Book" "look_new") rfl)
  obtain ⟨fd_Book__laid_out,F_Book__laid_out⟩:=c.def_ 39 (d:=B2r) rfl
  have M_Book__laid_out:=He.meth_ok (c.fact 69 (f:= .meth "Book" "laid_out") rfl)
  obtain ⟨fd_Book__look_step,F_Book__look_step⟩:=c.def_ 40 (d:=B2h) rfl
  have M_Book__look_step:=He.meth_ok (c.fact 70 (f:= .meth "Book" "look_step") rfl)
  obtain ⟨fd_Book__length,F_Book__length⟩:=c.def_ 41 (d:=B23) rfl
  have M_Book__length:=He.meth_ok (c.fact 71 (f:= .meth "Book" "length") rfl)
  obtain ⟨fd_Book__write,F_Book__write⟩:=c.def_ 42 (d:=B3E) rfl
  have M_Book__write:=He.meth_ok (c.fact 72 (f:= .meth "Book" "write") rfl)
  obtain ⟨fd_Book__names,F_Book__names⟩:=c.def_ 43 (d:=B3G) rfl
  have M_Book__names:=He.meth_ok (c.fact 73 (f:= .meth "Book" "names") rfl)
  obtain ⟨fd_Book____len__,F_Book____len__⟩:=c.def_ 44 (d:=B2z) rfl
  have M_Book____len__:=He.meth_ok (c.fact 74 (f:= .meth "Book" "__len__") rfl)
  obtain ⟨fd_Book____repr__,F_Book____repr__⟩:=c.def_ 45 (d:=B2m) rfl
  have M_Book____repr__:=He.meth_ok (c.fact 75 (f:= .meth "Book" "__repr__") rfl)
  obtain ⟨fd_Book__flat,F_Book__flat⟩:=c.def_ 46 (d:=B3I) rfl
  have M_Book__flat:=He.meth_ok (c.fact 76 (f:= .meth "Book" "flat") rfl)
  have Z:Blt K w mg:=⟨He.free_ok X G (c.fact 25 (f:= .free "all") rfl),
    He.free_ok X G (c.fact 26 (f:= .free "any") rfl),
    He.free_ok X G (c.fact 27 (f:= .free "bool") rfl),
    He.free_ok X G (c.fact 28 (f:= .free "enumerate") rfl),
    He.free_ok X G (c.fact 29 (f:= .free "int") rfl),
    He.free_ok X G (c.fact 30 (f:= .free "isinstance") rfl),
    He.free_ok X G (c.fact 31 (f:= .free "len") rfl),
    He.free_ok X G (c.fact 32 (f:= .free "list") rfl),
    He.free_ok X G (c.fact 33 (f:= .free "range") rfl),
    He.free_ok X G (c.fact 34 (f:= .free "repr") rfl),
    He.free_ok X G (c.fact 35 (f:= .free "str") rfl),
    He.free_ok X G (c.fact 36 (f:= .free "sum") rfl),
    He.free_ok X G (c.fact 37 (f:= .free "tuple") rfl),
    He.int_ok X G (c.fact 38 (f:= .int "GREAT" 1000000000000000000000000000000) rfl),
    He.str_ok X G (c.fact 39 (f:= .str "LETTERS" ("abcdefghijklmnopqrstuvwxyz":Str)) rfl),
    He.int_ok X G (c.fact 40 (f:= .int "LONGEST" 8) rfl),
    He.int_ok X G (c.fact 41 (f:= .int "MOST_CALLS" 9) rfl),
    He.int_ok X G (c.fact 42 (f:= .int "MOST_CASKS" 6) rfl),
    He.int_ok X G (c.fact 43 (f:= .int "MOST_FLAT" 200) rfl),
    He.int_ok X G (c.fact 44 (f:= .int "MOST_ROUNDS" 12) rfl),
    He.int_ok X G (c.fact 45 (f:= .int "MOST_SIZE" 40) rfl),
    ⟨_,_,He.glo_ok X G (c.fact 46 (f:= .glo "PATHS") rfl),fun H=> He.tupB_ok x.1.1.1.1.1.1.1.1.1.1.1.1.1.1.1.1.1.1 H,fun H=> .cons .str (.cons .str (.nil))⟩,
    ⟨_,_,He.glo_ok X G (c.fact 47 (f:= .glo "PLAIN") rfl),fun H=> He.tupB_ok x.1.1.1.1.1.1.1.1.1.1.1.1.1.1.1.1.1.2 H,fun H=> .cons .str (.cons .str (.cons .str (.nil)))⟩,
    h_HideError,
    h_InUse,
    h_Missing,
    h_NothingLeft,
    A8F x.1.1.1.1.1.2,
    A8F x.1.1.1.1.2,
    A8F x.1.1.1.2,
    A8F x.1.1.2,
    B6M x.1.2,
    B6M x.2,
    ⟨cl_Book,He.noat_ok (c.fact 61 (f:= .noat "Book" "casks") rfl)⟩,
    ⟨cl_Book,He.noat_ok (c.fact 62 (f:= .noat "Book" "laid") rfl)⟩,
    ⟨cl_Book,He.noat_ok (c.fact 63 (f:= .noat "Book" "written") rfl)⟩,
    ⟨go_Book,(He.mkr_ok (c.fact 77 (f:= .mkr "Book") rfl)).makes,(He.mkr_ok (c.fact 77 (f:= .mkr "Book") rfl)).kp⟩⟩
  have e:=hfa.symm.trans g_law
  cases e
  have b:=FunD.bindsA (ps:=A8u) F_law fun _ _ _ _ _ _ us hl=> match us,hl with | [_],_=> rfl
  refine ⟨fd_law,fun s v=> b s [v] rfl,fun base TBs=> ?_⟩
  have R_BadName:XkOk P w K mg base "BadName" "bad name" []:=xk0 (A1S x.1.1.1.1.1.1.1.1.1.1.1.1.1.1.2) h_BadName Fi_BadName C0d (fun _ _ _ _ _ _ us hl=> match us,hl with | [_],_=> rfl)
  have R_BadRow:XkOk P w K mg base "BadRow" "bad row" ["step","place"]:=xk2 (A1S x.1.1.1.1.1.1.1.1.1.1.1.1.1.2) h_BadRow Fi_BadRow C09 (fun _ _ _ _ _ _ us hl=> match us,hl with | [_,_,_],_=> rfl)
  have R_BadSizes:XkOk P w K mg base "BadSizes" "bad sizes" ["cask"]:=xk1 (A1S x.1.1.1.1.1.1.1.1.1.1.1.1.2) h_BadSizes Fi_BadSizes C0K (fun _ _ _ _ _ _ us hl=> match us,hl with | [_,_],_=> rfl)
  have R_InUse:XkOk P w K mg base "InUse" "in use" ["name"]:=xk1 (A1S x.1.1.1.1.1.1.1.1.1.1.1.2) h_InUse Fi_InUse C2p (fun _ _ _ _ _ _ us hl=> match us,hl with | [_,_],_=> rfl)
  have R_NoRound:XkOk P w K mg base "NoRound" "no round" ["name"]:=xk1 (A1S x.1.1.1.1.1.1.1.1.1.1.2) h_NoRound Fi_NoRound C0v (fun _ _ _ _ _ _ us hl=> match us,hl with | [_,_],_=> rfl)
  have R_NothingLeft:XkOk P w K mg base "NothingLeft" "nothing left" []:=xk0 (A1S x.1.1.1.1.1.1.1.1.1.2) h_NothingLeft Fi_NothingLeft B80 (fun _ _ _ _ _ _ us hl=> match us,hl with | [_],_=> rfl)
  have R_Taken:XkOk P w K mg base "Taken" "taken" ["name"]:=xk1 (A1S x.1.1.1.1.1.1.1.1.2) h_Taken Fi_Taken C2h (fun _ _ _ _ _ _ us hl=> match us,hl with | [_,_],_=> rfl)
  have R_TooLong:XkOk P w K mg base "TooLong" "too long" ["most"]:=xk1 (A1S x.1.1.1.1.1.1.1.2) h_TooLong Fi_TooLong C0x (fun _ _ _ _ _ _ us hl=> match us,hl with | [_,_],_=> rfl)
  have R_TooMany:XkOk P w K mg base "TooMany" "too many" ["most"]:=xk1 (A1S x.1.1.1.1.1.1.2) h_TooMany Fi_TooMany C0z (fun _ _ _ _ _ _ us hl=> match us,hl with | [_,_],_=> rfl)
  have O__law_open:=B97 (P:=P) (w:=w) (base:=base) Z F__law_open g__law_open
  have O__law_take:=B93 (P:=P) (w:=w) (base:=base) Z F__law_take g__law_take
  have O__law_sizes:=B9x (P:=P) (w:=w) (base:=base) Z F__law_sizes g__law_sizes O__law_take
  have O__law_pick:=C0b (P:=P) (w:=w) (base:=base) Z F__law_pick g__law_pick O__law_take
  have O__law_any_sizes:=B8U (P:=P) (w:=w) (base:=base) Z F__law_any_sizes g__law_any_sizes O__law_sizes O__law_pick
  have O_look_sizes:=B9q (P:=P) (w:=w) (base:=base) Z F_look_sizes g_look_sizes R_BadSizes
  have O_Book____init__:=B8M (P:=P) (w:=w) (base:=base) Z O_look_sizes cl_Book M_Book____init__ F_Book____init__
  have O__law_word_of:=B81 (P:=P) (w:=w) (base:=base) Z F__law_word_of g__law_word_of
  have O_Book__there:=B9F (P:=P) (w:=w) (base:=base) Z R_NoRound cl_Book M_Book__there F_Book__there
  have O_is_call:=C1m (P:=P) (w:=w) (base:=base) Z F_is_call g_is_call
  have O_Book__callers:=B8u (P:=P) (w:=w) (base:=base) Z O_Book__there O_is_call cl_Book M_Book__callers F_Book__callers
  have O_Book__drop:=B9u (P:=P) (w:=w) (base:=base) Z O_Book__callers R_InUse cl_Book M_Book__drop F_Book__drop
  have O__law_caller:=B9K (P:=P) (w:=w) (base:=base) Z F__law_caller g__law_caller O_Book__drop
  have O__law_alike:=B9b (P:=P) (w:=w) (base:=base) Z F__law_alike g__law_alike
  have O__law_shuffled:=B8o (P:=P) (w:=w) (base:=base) Z F__law_shuffled g__law_shuffled O__law_take
  have O__law_some_casks:=B71 (P:=P) (w:=w) (base:=base) Z F__law_some_casks g__law_some_casks O__law_shuffled
  have O__law_deed:=C0I (P:=P) (w:=w) (base:=base) Z F__law_deed g__law_deed O__law_take O__law_alike O__law_pick O__law_some_casks
  have O__law_number:=B9L (P:=P) (w:=w) (base:=base) Z F__law_number g__law_number O__law_take O__law_pick
  have O__law_row:=C0c (P:=P) (w:=w) (base:=base) Z F__law_row g__law_row O__law_take O__law_deed O__law_number
  have O__law_laid_calls:=B78 (P:=P) (w:=w) (base:=base) Z F__law_laid_calls g__law_laid_calls
  have O_is_name:=C1b (P:=P) (w:=w) (base:=base) Z F_is_name g_is_name
  have O_Book__look_new:=B8O (P:=P) (w:=w) (base:=base) Z O_is_name R_BadName R_Taken R_TooMany cl_Book M_Book__look_new F_Book__look_new
  have O_call_fault:=B9o (P:=P) (w:=w) (base:=base) Z F_call_fault g_call_fault
  have O_has_count:=C0Z (P:=P) (w:=w) (base:=base) Z F_has_count g_has_count
  have O_first_bad:=C0N (P:=P) (w:=w) (base:=base) Z F_first_bad g_first_bad
  have O_fault_of:=C0y (P:=P) (w:=w) (base:=base) Z F_fault_of g_fault_of O_has_count O_first_bad
  have O_Book__look_step:=B74 (P:=P) (w:=w) (base:=base) Z O_is_call O_call_fault O_fault_of O_Book__there R_BadRow cl_Book M_Book__look_step F_Book__look_step
  have O_Book__length:=B8y (P:=P) (w:=w) (base:=base) Z O_is_call cl_Book M_Book__length F_Book__length
  have O_Book__laid_out:=B8T (P:=P) (w:=w) (base:=base) Z O_is_call cl_Book M_Book__laid_out F_Book__laid_out
  have O_Book__write:=B9S (P:=P) (w:=w) (base:=base) Z O_Book__look_new O_Book__look_step O_Book__length O_Book__laid_out R_TooLong cl_Book M_Book__write F_Book__write
  have O__law_same:=B3l (P:=P) (w:=w) (base:=base) Z F__law_same g__law_same 8
  have O_Book____repr__:=B8P (P:=P) (w:=w) (base:=base) Z cl_Book M_Book____repr__ F_Book____repr__
  have O_Book____len__:=B8v (P:=P) (w:=w) (base:=base) Z cl_Book M_Book____len__ F_Book____len__
  have O_Book__names:=B9N (P:=P) (w:=w) (base:=base) Z cl_Book M_Book__names F_Book__names
  have O_Book__flat:=B9j (P:=P) (w:=w) (base:=base) Z O_Book__there cl_Book M_Book__flat F_Book__flat
  have lm_law:=C2a (x:=("law",none)) (q:="law") x.1.1.1.1.1.1.1.1.1.1.1.1.1.1.1.1.2 x.1.1.1.1.1.1.1.1.1.1.1.1.1.1.1.2 TBs
  have O_law:=o_law (P:=P) (w:=w) (base:=base) Z O__law_open O__law_any_sizes O_Book____init__ O__law_take O__law_pick O__law_word_of O_Book__drop O__law_caller O__law_row O__law_laid_calls O_Book__write O__law_same O_Book____repr__ O_Book____len__ O_Book__names O_Book__flat O_Book__callers F__law_word g__law_word F_law g_law lm_law
  obtain ⟨f2,fd2,hm2,FD2,F2⟩:=O_law.ex
  have e2:=hm2.symm.trans g_law
  cases e2
  have e3:fd2=fd_law:=FunD.one FD2 F_law
  rw [←e3]
  exact F2
end Ab
open PySem PySem.W PySem.Calls PyProof.Rows
theorem PySem.Challenge.cw_hidelater_k27_rounds_let_go_holds : PySem.Challenge.rw_hidelater_k27_rounds_let_go.Holds := by
  w_on;o_law
  refine HandSHeadRun.head_any (r:=OpenLaw.row PySem.Challenge.rw_hidelater_k27_rounds_let_go) (q:=view (OpenLaw.row PySem.Challenge.rw_hidelater_k27_rounds_let_go).prog [51]) (H:=Ab.hHk) (ob:=Ab.hOb) (M:=5000) (loose:=Ab.hNms) (d:=HandSHeadRun.topDef (OpenLaw.row PySem.Challenge.rw_hidelater_k27_rounds_let_go).prog 51) (kwd:=[]) Ab.hOb_eq
    (by kernel_rfl) (fun s=> by kernel_rfl) Ab.hRun (by kernel_rfl) (by kernel_rfl) (by kernel_rfl) (by rfl) (by first | assumption | decide+kernel) (by decide+kernel) ⟨rfl,rfl,rfl,rfl,rfl,by decide+kernel⟩ ?hw ?hc
  case hw=> w_witness2
  case hc=>
    refine Ab.walk_end (l:=PySem.Challenge.rw_hidelater_k27_rounds_let_go) (j:=10) (y:="_law_script") rfl (by kernel_rfl) ⟨rfl,by decide,by decide⟩ ?F
    intro w mg fa h Y G hmg0
    obtain ⟨K,KX,⟨c,ex⟩,no,te⟩:=Y
    have hmg:mg ("law":PySem.Str)=some (.ref fa):=by
      have e:(HandSHeadRun.topDef (OpenLaw.row PySem.Challenge.rw_hidelater_k27_rounds_let_go).prog 51).name=("law":PySem.Str):=by kernel_rfl
      rw [←e]
      exact hmg0
    obtain ⟨fd,hb,hF⟩:=Ab.hFacts (P:=(PySem.Challenge.rw_hidelater_k27_rounds_let_go).prog) (w:=w) KX G hmg c ex
    exact ⟨K,fd,Ab.upc Ab.m_law,KX,no,te,Ab.law_says,hb,hF⟩
