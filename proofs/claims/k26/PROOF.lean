import PyProof.Rows.All
import Wide.All
import OpenK.AllK
import Wide.FinOn
import HandS.ForExc
import HandS.ForMost
import HandS.Defaults
import HandS.Lambda
import HandS.HeadHook1
import KE.DataEq
import HandS.TupAny
import HandS.IsInst
import HandS.Wide
import HandS.TupMul
import HandS.Codes
import HandS.Zip
import PyProof.CollectIter
import PyProof.WalksMore
import KE.GoesEnum
import KE.GoesZip
import KE.KItemsList
import HandS.Conv
import HandS.TryOnly
import HandS.SortInts
import HandS.Dict
import HandS.Head0
import HandS.Head1
import HandS.Head2
import HandS.HeadEnd
import HandS.HeadHook2
import HandS.HeadHook4
import HandS.HeadWalk
import HandS.EndTab
import HandS.ExcInit
import HandS.ExcField
import KE.KMinKey
import HandS.SortKw
import HandS.NoneIn
import KE.KDictDisplayH
import HandS.Style
import HandS.SetFor
import HandS.CallSlots
import HandS.WordsDict
import HandS.DictComp
import HandS.Iter
import HandS.OwnEq
import KE.KFmtOwn
import PyProof.InstNe
import HandS.MakeKwOnly
import HandS.FStr
import KE.KEqDict
import PyProof.NeKinds
import HandS.Small
import HandS.Finally
import HandS.More
import HandS.Text
import HandS.RaiseMore
import HandS.MapJoin
import HandS.HeadHook3
import KE.KIntText
import KE.IntTextText
import HandS.SetBool
import HandS.TupSets
import KE.DataFind
import PySem.Challenge.RW_hidelater_k26_what_a_book_refuses
set_option Elab.async false
set_option linter.all false
set_option maxRecDepth 100000
set_option maxHeartbeats 0
namespace Ab
open PySem PySem.Spec PyProof.Rows L2
inductive W where
  | non | bl (b:Bool) | int (i:Int) | str (x:Str) | tup (xs:List W) | lst (xs:List W) | dct (ks vs:List W) | ref (a:Addr) | ty (n:String) | emp
instance:Inhabited W:=⟨.non⟩
def A0f:W→Option Key
  | .int i=> some (.inl i)
  | .str x=> some (.inr x)
  | _=> none
def B5H:List W→Option (List Key)
  | []=> some []
  | w::ws=> match A0f w,B5H ws with
    | some k,some ks=> some (k::ks)
    | _,_=> none
def B0W:W→Option (List Key)
  | .tup ws=> B5H ws
  | _=> none
def Imm:HO→Prop
  | .tup _=> True
  | .frz _ _=> True
  | _=> False
def LsF (H:Hp) (a:Addr) (vs:List V):Prop:=∃o,H a=some (.frz o (.lst vs))
theorem LsF.sq {K:PySem.W.Frag} {H:Hp} {a:Addr} {vs:List V} (h:LsF H a vs):SqL K H a vs:=let ⟨o,h⟩:=h;.inl (.inr ⟨o,h⟩)
def TqT (K:PySem.W.Frag) (H:Hp) (a:Addr) (xs:List V):Prop:=
  H a=some (.tup xs)∨xs≠[]∧∃(o:Obj) (its:Array Value) (n:Nat),K.lookup a=some o∧o.cls= .type "tuple"∧o.data= .seq its n∧its.size≤sizeLine∧Vals xs its.toList
theorem TqT.sq {K:PySem.W.Frag} {H:Hp} {a:Addr} {xs:List V} (h:TqT K H a xs):SqT K H a xs:=h.imp .inl (·.2)
theorem C0Q {K:PySem.W.Frag} {a:Addr} {vs:List V} (ne:vs≠[]) (h:∀H,SqT K H a vs) (H:Hp):TqT K H a vs:=by
  rcases h (fun _=> none) with (h | ⟨o,h⟩) | h
  · cases h
  · cases h
  · exact .inr ⟨ne,h⟩
def EmpK (K:PySem.W.Frag) (a:Addr):Prop:=∃(o:Obj) (its:Array Value) (n:Nat),K.lookup a=some o∧o.cls= .type "tuple"∧o.data= .seq its n∧its.size≤sizeLine∧Vals [] its.toList
mutual
def Rep (K:PySem.W.Frag) (H:Hp):W→V→Prop
  | .non,v=> v= .non
  | .bl b,v=> v= .bl b
  | .int i,v=> v= .int i
  | .str x,v=> v= .str x
  | .tup ws,v=> ∃a vs,v= .ref a∧TqT K H a vs∧RepL K H ws vs
  | .lst ws,v=> ∃a vs,v= .ref a∧LsF H a vs∧RepL K H ws vs
  | .dct ks ws,v=> ∃a,v= .ref a∧((∃o kvs,H a=some (.frz o (.dK kvs))∧ks.map A0f=kvs.map (fun p=> some p.1)∧RepL K H ws (kvs.map (·.2)))∨
      ∃o kvs,H a=some (.frz o (.dT kvs))∧(∃r,ks= .lst []::r∧r.map B0W=kvs.map (fun p=> some p.1))∧RepL K H ws (.non::kvs.map (·.2)))
  | .ref a,v=> v= .ref a
  | .ty n,v=> v= .ty n
  | .emp,v=> ∃a,v= .ref a∧EmpK K a
def RepL (K:PySem.W.Frag) (H:Hp):List W→List V→Prop
  | [],vs=> vs=[]
  | w::ws,vs=> ∃v r,vs=v::r∧Rep K H w v∧RepL K H ws r
end
def Keeps (H H':Hp):Prop:=∀a o,H a=some o→Imm o→H' a=some o
theorem Keeps.refl (H:Hp):Keeps H H:=fun _ _ h _=> h
theorem Keeps.trans {H H1 H2:Hp} (a:Keeps H H1) (b:Keeps H1 H2):Keeps H H2:=fun p o h i=> b p o (a p o h i) i
theorem Keeps.tqT {K:PySem.W.Frag} {H H':Hp} (k:Keeps H H') {a:Addr} {vs:List V} (h:TqT K H a vs):TqT K H' a vs:=h.imp (fun e=> k _ _ e trivial) id
theorem Keeps.sqT {K:PySem.W.Frag} {H H':Hp} (k:Keeps H H') {a:Addr} {vs:List V} (h:SqT K H a vs):SqT K H' a vs:=by
  rcases h with (h | ⟨o,h⟩) | h
  · exact .inl (.inl (k _ _ h trivial))
  · exact .inl (.inr ⟨o,k _ _ h trivial⟩)
  · exact .inr h
theorem Keeps.lsF {H H':Hp} (k:Keeps H H') {a:Addr} {vs:List V} (h:LsF H a vs):LsF H' a vs:=let ⟨o,h⟩:=h;⟨o,k _ _ h trivial⟩
mutual
theorem Rep.mono {K:PySem.W.Frag} {H H':Hp} (k:Keeps H H'):∀(w:W) (v:V),Rep K H w v→Rep K H' w v
  | .non,_,h=> by simpa only [Rep] using h
  | .bl _,_,h=> by simpa only [Rep] using h
  | .int _,_,h=> by simpa only [Rep] using h
  | .str _,_,h=> by simpa only [Rep] using h
  | .ref _,_,h=> by simpa only [Rep] using h
  | .ty _,_,h=> by simpa only [Rep] using h
  | .emp,_,h=> by simpa only [Rep] using h
  | .tup ws,v,h=> by
    simp only [Rep] at h ⊢
    obtain ⟨a,vs,e,s,r⟩:=h
    exact ⟨a,vs,e,k.tqT s,RepL.mono k ws vs r⟩
  | .lst ws,v,h=> by
    simp only [Rep] at h ⊢
    obtain ⟨a,vs,e,s,r⟩:=h
    exact ⟨a,vs,e,k.lsF s,RepL.mono k ws vs r⟩
  | .dct ks ws,v,h=> by
    simp only [Rep] at h ⊢
    obtain ⟨a,e,⟨o,kvs,s,t,r⟩ | ⟨o,kvs,s,t,r⟩⟩:=h
    · exact ⟨a,e,.inl ⟨o,kvs,k _ _ s trivial,t,RepL.mono k ws _ r⟩⟩
    · exact ⟨a,e,.inr ⟨o,kvs,k _ _ s trivial,t,RepL.mono k ws _ r⟩⟩
theorem RepL.mono {K:PySem.W.Frag} {H H':Hp} (k:Keeps H H'):∀(ws:List W) (vs:List V),RepL K H ws vs→RepL K H' ws vs
  | [],vs,h=> by simpa only [RepL] using h
  | w::ws,vs,h=> by
    simp only [RepL] at h ⊢
    obtain ⟨v,r,e,a,b⟩:=h
    exact ⟨v,r,e,Rep.mono k w v a,RepL.mono k ws r b⟩
end
section
variable {K:PySem.W.Frag} {H:Hp}
theorem Rep.of_int {i:Int} {v:V} (h:Rep K H (.int i) v):v= .int i:=by simpa only [Rep] using h
theorem Rep.of_str {i:Str} {v:V} (h:Rep K H (.str i) v):v= .str i:=by simpa only [Rep] using h
theorem Rep.of_bl {i:Bool} {v:V} (h:Rep K H (.bl i) v):v= .bl i:=by simpa only [Rep] using h
theorem Rep.of_non {v:V} (h:Rep K H .non v):v= .non:=by simpa only [Rep] using h
theorem Rep.of_ref {a:Addr} {v:V} (h:Rep K H (.ref a) v):v= .ref a:=by simpa only [Rep] using h
theorem Rep.of_ty {n:String} {v:V} (h:Rep K H (.ty n) v):v= .ty n:=by simpa only [Rep] using h
theorem Rep.of_tupT {ws:List W} {v:V} (h:Rep K H (.tup ws) v):∃a vs,v= .ref a∧TqT K H a vs∧RepL K H ws vs:=by simpa only [Rep] using h
theorem Rep.of_tup {ws:List W} {v:V} (h:Rep K H (.tup ws) v):∃a vs,v= .ref a∧SqT K H a vs∧RepL K H ws vs:=let ⟨a,vs,e,s,r⟩:=h.of_tupT;⟨a,vs,e,s.sq,r⟩
theorem Rep.of_lst {ws:List W} {v:V} (h:Rep K H (.lst ws) v):∃a vs,v= .ref a∧LsF H a vs∧RepL K H ws vs:=by simpa only [Rep] using h
theorem Rep.int {i:Int}:Rep K H (.int i) (.int i):=by simp only [Rep]
theorem Rep.str {i:Str}:Rep K H (.str i) (.str i):=by simp only [Rep]
theorem Rep.bl {i:Bool}:Rep K H (.bl i) (.bl i):=by simp only [Rep]
theorem Rep.non:Rep K H .non .non:=by simp only [Rep]
theorem Rep.ref {a:Addr}:Rep K H (.ref a) (.ref a):=by simp only [Rep]
theorem Rep.emp {a:Addr} (e:EmpK K a):Rep K H .emp (.ref a):=by simp only [Rep];exact ⟨a,rfl,e⟩
theorem Rep.of_emp {v:V} (h:Rep K H .emp v):∃a,v= .ref a∧EmpK K a:=by simpa only [Rep] using h
theorem EmpK.sq {a:Addr} (e:EmpK K a):SqT K H a []:=by
  obtain ⟨o,its,n,h1,h2,h3,h4,h5⟩:=e
  exact .inr ⟨o,its,n,h1,h2,h3,h4,h5⟩
theorem Rep.ty {n:String}:Rep K H (.ty n) (.ty n):=by simp only [Rep]
theorem Rep.tup {ws:List W} {a:Addr} {vs:List V} (s:TqT K H a vs) (r:RepL K H ws vs):Rep K H (.tup ws) (.ref a):=by
  simp only [Rep];exact ⟨a,vs,rfl,s,r⟩
theorem Rep.lst {ws:List W} {a:Addr} {vs:List V} (s:LsF H a vs) (r:RepL K H ws vs):Rep K H (.lst ws) (.ref a):=by
  simp only [Rep];exact ⟨a,vs,rfl,s,r⟩
theorem RepL.nil:RepL K H [] []:=by simp only [RepL]
theorem RepL.cons {w:W} {ws:List W} {v:V} {vs:List V} (a:Rep K H w v) (b:RepL K H ws vs):RepL K H (w::ws) (v::vs):=by
  simp only [RepL];exact ⟨v,vs,rfl,a,b⟩
theorem RepL.of_nil {vs:List V} (h:RepL K H [] vs):vs=[]:=by simpa only [RepL] using h
theorem RepL.of_cons {w:W} {ws:List W} {vs:List V} (h:RepL K H (w::ws) vs):∃v r,vs=v::r∧Rep K H w v∧RepL K H ws r:=by simpa only [RepL] using h
theorem RepL.length:∀{ws:List W} {vs:List V},RepL K H ws vs→ws.length=vs.length
  | [],vs,h=> by rw [h.of_nil];rfl
  | w::ws,vs,h=> by
    obtain ⟨v,r,e,_,t⟩:=h.of_cons
    rw [e,List.length_cons,List.length_cons,t.length]
theorem RepL.get:∀{ws:List W} {vs:List V} {i:Nat} {w:W},RepL K H ws vs→ws[i]? =some w→∃v,vs[i]? =some v∧Rep K H w v
  | [],_,_,_,_,e=> by simp at e
  | w::ws,vs,0,x,h,e=> by
    obtain ⟨v,r,rfl,a,_⟩:=h.of_cons
    simp at e;subst e;exact ⟨v,rfl,a⟩
  | w::ws,vs,i+1,x,h,e=> by
    obtain ⟨v,r,rfl,_,t⟩:=h.of_cons
    obtain ⟨u,h1,h2⟩:=t.get (i:=i) (by simpa using e)
    exact ⟨u,by simpa using h1,h2⟩
theorem RepL.append:∀{ws xs:List W} {vs us:List V},RepL K H ws vs→RepL K H xs us→RepL K H (ws++xs) (vs++us)
  | [],xs,vs,us,h,g=> by rw [h.of_nil];exact g
  | w::ws,xs,vs,us,h,g=> by
    obtain ⟨v,r,rfl,a,t⟩:=h.of_cons
    exact .cons a (t.append g)
theorem RepL.set:∀{ws:List W} {vs:List V} (i:Nat) {w:W} {v:V},RepL K H ws vs→Rep K H w v→RepL K H (ws.set i w) (vs.set i v)
  | [],vs,i,w,v,h,g=> by rw [h.of_nil];exact .nil
  | x::ws,vs,0,w,v,h,g=> by
    obtain ⟨u,r,rfl,a,t⟩:=h.of_cons
    exact .cons g t
  | x::ws,vs,i+1,w,v,h,g=> by
    obtain ⟨u,r,rfl,a,t⟩:=h.of_cons
    exact .cons a (t.set i g)
theorem RepL.take:∀{ws:List W} {vs:List V} (n:Nat),RepL K H ws vs→RepL K H (ws.take n) (vs.take n)
  | _,_,0,_=> .nil
  | [],vs,n+1,h=> by rw [h.of_nil];exact .nil
  | w::ws,vs,n+1,h=> by
    obtain ⟨v,r,rfl,a,t⟩:=h.of_cons
    exact .cons a (t.take n)
theorem RepL.drop:∀{ws:List W} {vs:List V} (n:Nat),RepL K H ws vs→RepL K H (ws.drop n) (vs.drop n)
  | _,_,0,h=> h
  | [],vs,n+1,h=> by rw [h.of_nil];exact .nil
  | w::ws,vs,n+1,h=> by
    obtain ⟨v,r,rfl,a,t⟩:=h.of_cons
    exact t.drop n
theorem RepL.rep {ws:List W} {vs:List V} (h:RepL K H ws vs):∀k:Nat,RepL K H (List.replicate k ws).flatten (List.replicate k vs).flatten
  | 0=> .nil
  | k+1=> by
    rw [List.replicate_succ,List.replicate_succ,List.flatten_cons,List.flatten_cons]
    exact h.append (h.rep k)
theorem RepL.ints {ns:List Int}:RepL K H (ns.map W.int) (ns.map V.int):=by
  induction ns with
  | nil=> exact .nil
  | cons n r ih=> exact .cons .int ih
theorem RepL.of_ints {ns:List Int} {vs:List V} (h:RepL K H (ns.map W.int) vs):vs=ns.map V.int:=by
  induction ns generalizing vs with
  | nil=> exact h.of_nil
  | cons n r ih=>
    obtain ⟨v,t,rfl,a,b⟩:=h.of_cons
    rw [a.of_int,ih b];rfl
theorem RepL.of_bls {ns:List Bool} {vs:List V} (h:RepL K H (ns.map W.bl) vs):vs=ns.map V.bl:=by
  induction ns generalizing vs with
  | nil=> exact h.of_nil
  | cons n r ih=>
    obtain ⟨v,t,rfl,a,b⟩:=h.of_cons
    rw [a.of_bl,ih b];rfl
end
inductive Cont where
  | seq (ws:List W) | map (kvs:List (W×W))
def Cont.fz:Cont→W
  | .seq ws=> .lst ws
  | .map kvs=> .dct (kvs.map (·.1)) (kvs.map (·.2))
inductive AO where
  | cont (c:Cont) | ins (C:Str) (fs:List (Str×W))
abbrev AH:=Addr→Option AO
inductive SV where
  | val (w:W) | own (c:Cont)
abbrev A0:=List (Option SV)
def CRep (K:PySem.W.Frag) (H:Hp) (p:Addr):Cont→Prop
  | .seq ws=> ∃vs,H p=some (.lst vs)∧RepL K H ws vs
  | .map kvs=> (∃ks,H p=some (.dK ks)∧(kvs.map (·.1)).map A0f=ks.map (fun q=> some q.1)∧RepL K H (kvs.map (·.2)) (ks.map (·.2)))∨
      ∃ks,H p=some (.dT ks)∧(∃r,kvs.map (·.1)= .lst []::r∧r.map B0W=ks.map (fun q=> some q.1))∧RepL K H (kvs.map (·.2)) (.non::ks.map (·.2))
def FRep (K:PySem.W.Frag) (H:Hp) (fs:List (Str×W)) (vs:List (Str×V)):Prop:=fs.map (·.1)=vs.map (·.1)∧RepL K H (fs.map (·.2)) (vs.map (·.2))
def ORep (K:PySem.W.Frag) (H:Hp) (a:Addr):AO→Prop
  | .cont c=> CRep K H a c
  | .ins C fs=> ∃dx vs,H a=some (.ins (He.ga K C) dx vs)∧FRep K H fs vs
def Mu:HO→Prop
  | .lst _=> True
  | .dK _=> True
  | .dT _=> True
  | .ins _ _ _=> True
  | _=> False
theorem Mu.mut {o:HO} (h:Mu o):Mut (some o):=by cases o <;> first | trivial | exact h.elim
def NT (o:HO):Prop:=∀ps,o≠ .tbl ps
theorem Mu.nt {o:HO} (h:Mu o):NT o:=fun _ e=> by subst e;exact h
theorem Imm.nt {o:HO} (h:Imm o):NT o:=fun _ e=> by subst e;exact h
def B5E:Addr:=builtinsNs
def cs1 (K:PySem.W.Frag) (p:Addr×Obj):Option ((Addr×Addr)×Str):=match p.2.data with
  | .fields vs=> (match vs.getD 11 .none,vs.getD 1 .none with
    | .ref P,.str q _=> some ((p.1,P),q++".<locals>."++"<lambda>")
    | _,_=> none)
  | _=> none
def g9 (K:PySem.W.Frag):List ((Addr×Addr)×Str):=((K.dropWhile fun p=> decide (p.1≠B5E)).tail).filterMap (cs1 K)
def A1Z (K:PySem.W.Frag):List (Addr×Str):=(g9 K).map fun p=> (p.1.2,p.2)
abbrev TabsK (K:PySem.W.Frag) (H:Hp):Prop:=LamX.Tabs (A1Z K) H
theorem TabsK.keep {K:PySem.W.Frag} {H H':Hp} (t:TabsK K H) (k:∀a o,H a=some o→(¬Mu o)→H' a=some o):TabsK K H':=fun p hp=> by
  obtain ⟨ps,h1,h2,h3⟩:=t p hp
  refine ⟨ps,k _ _ h1 (fun z=> z),h2,fun pos cv hc=> ?_⟩
  obtain ⟨c,e1,e2⟩:=h3 pos cv hc
  exact ⟨c,e1,k _ _ e2 (fun z=> z)⟩
theorem TabsK.upd {K:PySem.W.Frag} {H:Hp} {p:Addr} {u:HO} (t:TabsK K H) (n:∀o,H p=some o→Mu o):TabsK K (upd H p u):=t.keep fun a o e m=> by
  have ne:a≠p:=fun z=> m (n o (z▸e))
  rw [upd_ne ne];exact e
theorem Mu.imm {o:HO} (h:Mu o):¬Imm o:=by cases o <;> first | exact h.elim | (intro z;exact z)
theorem CRep.there {K:PySem.W.Frag} {H:Hp} {p:Addr} {c:Cont} (h:CRep K H p c):∃o,H p=some o∧Mu o:=by
  cases c with
  | seq ws=> obtain ⟨vs,e,_⟩:=h;exact ⟨_,e,trivial⟩
  | map kvs=>
    rcases h with ⟨ks,e,_⟩ | ⟨ks,e,_⟩
    · exact ⟨_,e,trivial⟩
    · exact ⟨_,e,trivial⟩
theorem CRep.mu_at {K:PySem.W.Frag} {H:Hp} {p:Addr} {c:Cont} {o:HO} (h:CRep K H p c) (e:H p=some o):Mu o:=by
  obtain ⟨u,e',m⟩:=h.there
  rw [e] at e';cases e';exact m
theorem ORep.there {K:PySem.W.Frag} {H:Hp} {p:Addr} {o:AO} (h:ORep K H p o):∃u,H p=some u∧Mu u:=by
  cases o with
  | cont c=> exact CRep.there h
  | ins C fs=> obtain ⟨dx,vs,e,_⟩:=h;exact ⟨_,e,trivial⟩
theorem CRep.mono {K:PySem.W.Frag} {H H':Hp} (k:Keeps H H') {p:Addr} (s:H' p=H p) {c:Cont} (h:CRep K H p c):CRep K H' p c:=by
  cases c with
  | seq ws=> obtain ⟨vs,e,r⟩:=h;exact ⟨vs,s.trans e,RepL.mono k _ _ r⟩
  | map kvs=>
    rcases h with ⟨ks,e,t,r⟩ | ⟨ks,e,t,r⟩
    · exact .inl ⟨ks,s.trans e,t,RepL.mono k _ _ r⟩
    · exact .inr ⟨ks,s.trans e,t,RepL.mono k _ _ r⟩
theorem ORep.mono {K:PySem.W.Frag} {H H':Hp} (k:Keeps H H') {p:Addr} (s:H' p=H p) {o:AO} (h:ORep K H p o):ORep K H' p o:=by
  cases o with
  | cont c=> exact CRep.mono k s h
  | ins C fs=> obtain ⟨dx,vs,e,t,r⟩:=h;exact ⟨dx,vs,s.trans e,t,RepL.mono k _ _ r⟩
structure AExc where
  n:Str
  fs:List (Str×W)
structure Gx where
  K:PySem.W.Frag
  h0:AH
  H0:Hp
def OwnAt (env:A0) (σ:L2.St) (p:Addr):Prop:=∃(i:Nat) (c:Cont),env[i]? =some (some (SV.own c))∧σ[i]? =some (some (V.ref p))
structure BS (G:Gx) (env:A0) (h:AH) (σ:L2.St) (H:Hp):Prop where
  len:env.length=σ.length
  val:∀(i:Nat) (w:W),env[i]? =some (some (SV.val w))→∃v,σ[i]? =some (some v)∧Rep G.K H w v
  own:∀(i:Nat) (c:Cont),env[i]? =some (some (SV.own c))→∃p,σ[i]? =some (some (V.ref p))∧CRep G.K H p c∧h p=none∧G.H0 p=none
  uni:∀(i j:Nat) (c c':Cont) (p:Addr),env[i]? =some (some (SV.own c))→env[j]? =some (some (SV.own c'))→σ[i]? =some (some (V.ref p))→σ[j]? =some (some (V.ref p))→i=j
  hp:∀a o,h a=some o→ORep G.K H a o
  fr:∀p o,G.H0 p=some o→G.h0 p=none→NT o→H p=some o
  ext:∀a o,h a=some o→G.h0 a=none→G.H0 a=none
  tr:∀p o,G.H0 p=some o→∃u,H p=some u
  tabs:TabsK G.K H
structure Xt (env:A0) (h:AH) (σ:L2.St) (H:Hp) (env':A0) (h':AH) (H':Hp):Prop where
  fr:∀p o,H p=some o→h p=none→¬OwnAt env σ p→NT o→H' p=some o
  hn:∀p o,h' p=some o→h p=none→H p=none
  th:∀p o,H p=some o→∃o',H' p=some o'
  sl:∀(i:Nat) (c':Cont),env'[i]? =some (some (SV.own c'))→∃c,env[i]? =some (some (SV.own c))
section
variable {G:Gx} {env env' env2:A0} {h h' h2:AH} {σ:L2.St} {H H' H2:Hp}
theorem BS.imm (S:BS G env h σ H) {p:Addr} {o:HO} (e:H p=some o) (i:Imm o):h p=none∧¬OwnAt env σ p:=by
  refine ⟨?_,fun ⟨j,c,a,b⟩=> ?_⟩
  · cases q:h p with
    | none=> rfl
    | some u=>
      obtain ⟨o',e',m⟩:=(S.hp p u q).there
      rw [e] at e';cases e'
      exact absurd i m.imm
  · obtain ⟨p',b',cr,_⟩:=S.own j c a
    rw [b] at b';cases b'
    obtain ⟨o',e',m⟩:=cr.there
    rw [e] at e';cases e'
    exact absurd i m.imm
theorem Xt.keeps (x:Xt env h σ H env' h' H') (S:BS G env h σ H):Keeps H H':=fun p o e i=> x.fr p o e (S.imm e i).1 (S.imm e i).2 i.nt
theorem Xt.refl:Xt env h σ H env h H:=⟨fun _ _ e _ _ _=> e,fun p o e n=> (by rw [n] at e;cases e),fun _ o e=> ⟨o,e⟩,fun i c e=> ⟨c,e⟩⟩
theorem Xt.own (x:Xt env h σ H env' h' H') {p:Addr} (o:OwnAt env' σ p):OwnAt env σ p:=by
  obtain ⟨i,c,e1,e2⟩:=o
  obtain ⟨c0,z⟩:=x.sl i c e1
  exact ⟨i,c0,z,e2⟩
theorem Xt.trans (a:Xt env h σ H env' h' H') (b:Xt env' h' σ H' env2 h2 H2):Xt env h σ H env2 h2 H2:=by
  refine ⟨fun p o e n w nt=> ?_,fun p o e n=> ?_,fun p o e=> ?_,fun i c e=> ?_⟩
  · refine b.fr p o (a.fr p o e n w nt) ?_ (fun q=> w (a.own q)) nt
    cases q:h' p with
    | none=> rfl
    | some u=> rw [a.hn p u q n] at e;cases e
  · cases q:h' p with
    | none=>
      have z:=b.hn p o e q
      cases q2:H p with
      | none=> rfl
      | some u=>
        obtain ⟨o',e'⟩:=a.th p u q2
        rw [z] at e';cases e'
    | some u=> exact a.hn p u q n
  · obtain ⟨o',e'⟩:=a.th p o e
    exact b.th p o' e'
  · obtain ⟨c1,z⟩:=b.sl i c e
    exact a.sl i c1 z
end
end Ab
namespace Ab
open PySem PySem.Spec PyProof.Rows L2
inductive RV where
  | val (w:W) | own (c:Cont) | slot (i:Nat)
inductive Vw where
  | wv (x:W) | cv (x:Cont) | bad
def A9v:Option (Option SV)→Vw
  | some (some (.val w))=> .wv w
  | some (some (.own c))=> .cv c
  | _=> .bad
def viewW (h:AH):W→Vw
  | .ref a=> match h a with
    | some (.cont c)=> .cv c
    | _=> .wv (.ref a)
  | w=> .wv w
def view (env:A0) (h:AH):RV→Vw
  | .val w=> viewW h w
  | .own c=> .cv c
  | .slot i=> A9v env[i]?
def Vw.toW:Vw→W
  | .wv w=> w
  | .cv c=> c.fz
  | .bad=> .non
def RvRep (G:Gx) (env:A0) (h:AH) (σ:L2.St) (H:Hp):RV→V→Prop
  | .val w,v=> Rep G.K H w v
  | .own c,v=> ∃p,v= .ref p∧CRep G.K H p c∧h p=none∧G.H0 p=none∧¬OwnAt env σ p
  | .slot i,v=> σ[i]? =some (some v)
def VR (K:PySem.W.Frag) (H:Hp):Vw→V→Prop
  | .wv w,v=> Rep K H w v
  | .cv c,v=> ∃p,v= .ref p∧CRep K H p c
  | .bad,_=> True
section
variable {G:Gx} {env env':A0} {h h':AH} {σ:L2.St} {H H':Hp}
theorem VR.viewW (S:BS G env h σ H) {w:W} {v:V} (x:Rep G.K H w v):VR G.K H (viewW h w) v:=by
  cases w with
  | ref a=>
    have e:v= .ref a:=Rep.of_ref x
    subst e
    show VR G.K H (match h a with
      | some (.cont c)=> .cv c
      | _=> .wv (.ref a)) _
    cases q:h a with
    | none=> exact x
    | some o=>
      cases o with
      | cont c=> exact ⟨a,rfl,S.hp a _ q⟩
      | ins C fs=> exact x
  | _=> exact x
theorem RvRep.vr (S:BS G env h σ H) {r:RV} {v:V} (x:RvRep G env h σ H r v):VR G.K H (view env h r) v:=by
  cases r with
  | val w=> exact VR.viewW S x
  | own c=> obtain ⟨p,e,c,_⟩:=x;exact ⟨p,e,c⟩
  | slot i=>
    have e1:σ[i]? =some (some v):=x
    show VR G.K H (A9v env[i]?) v
    cases e2:env[i]? with
    | none=> trivial
    | some o=>
      cases o with
      | none=> trivial
      | some sv=>
        cases sv with
        | val w=>
          obtain ⟨u,e3,r⟩:=S.val i w e2
          rw [e1] at e3;cases e3
          exact r
        | own c=>
          obtain ⟨p,e3,r,_⟩:=S.own i c e2
          rw [e1] at e3;cases e3
          exact ⟨p,rfl,r⟩
theorem RvRep.xt (S:BS G env h σ H) (x:Xt env h σ H env' h' H') {r:RV} {v:V} (a:RvRep G env h σ H r v):RvRep G env' h' σ H' r v:=by
  cases r with
  | val w=> exact Rep.mono (x.keeps S) w v a
  | own c=>
    obtain ⟨p,e,c,n,n0,no⟩:=a
    obtain ⟨o,eo,_⟩:=c.there
    refine ⟨p,e,c.mono (x.keeps S) ((x.fr p o eo n no (c.mu_at eo).nt).trans eo.symm),?_,n0,fun q=> no (x.own q)⟩
    cases q:h' p with
    | none=> rfl
    | some u=> rw [x.hn p u q n] at eo;cases eo
  | slot i=> exact a
def New (H H':Hp):Prop:=∀p o,H p=some o→H' p=some o
theorem New.refl (H:Hp):New H H:=fun _ _ e=> e
theorem New.upd {p:Addr} {o:HO} (n:H p=none):New H (upd H p o):=fun q u e=> by rw [upd_ne (ne_of_none e n)];exact e
theorem New.keeps (n:New H H'):Keeps H H':=fun p o e _=> n p o e
theorem New.xt (n:New H H'):Xt env h σ H env h H':=⟨fun p o e _ _ _=> n p o e,fun p o e q=> (by rw [q] at e;cases e),fun p o e=> ⟨o,n p o e⟩,fun i c e=> ⟨c,e⟩⟩
theorem New.bs (n:New H H') (S:BS G env h σ H):BS G env h σ H' where
  len:=S.len
  val:=fun i w e=> let ⟨v,a,b⟩:=S.val i w e;⟨v,a,Rep.mono n.keeps w v b⟩
  own:=fun i c e=> by
    obtain ⟨p,a,b,d,f⟩:=S.own i c e
    obtain ⟨o,eo,_⟩:=b.there
    exact ⟨p,a,b.mono n.keeps ((n p o eo).trans eo.symm),d,f⟩
  uni:=S.uni
  hp:=fun a o e=> by
    obtain ⟨u,eu,_⟩:=(S.hp a o e).there
    exact (S.hp a o e).mono n.keeps ((n a u eu).trans eu.symm)
  fr:=fun p o e q t=> n p o (S.fr p o e q t)
  ext:=S.ext
  tr:=fun p o e=> let ⟨u,q⟩:=S.tr p o e;⟨u,n p u q⟩
  tabs:=S.tabs.keep fun a o e _=> n a o e
end
abbrev AT:=A0→AH→(RV→A0→AH→Prop)→Prop
abbrev C3:=A0→AH→(W→A0→AH→Prop)→Prop
abbrev E5:=A0→AH→(List W→A0→AH→Prop)→Prop
abbrev G7:=A0→AH→(Bool→A0→AH→Prop)→Prop
def A9 {α:Type} (t:A0→AH→(α→A0→AH→Prop)→Prop):Prop:=∀env h Q Q',(∀r e k,Q r e k→Q' r e k)→t env h Q→t env h Q'
def Q9 (H:Hp):RV→V→Prop
  | .own _,v=> ∀p,v= .ref p→H p=none
  | _,_=> True
def cE (G:Gx) (t:AT):TE:=fun σ H Q=> ∃env h,BS G env h σ H∧t env h fun r env' h'=> ∀v H',BS G env' h' σ H'→Xt env h σ H env' h' H'→RvRep G env' h' σ H' r v→Q9 H r v→Q v H'
def cV (G:Gx) (t:C3):TE:=fun σ H Q=> ∃env h,BS G env h σ H∧t env h fun w env' h'=> ∀v H',BS G env' h' σ H'→Xt env h σ H env' h' H'→Rep G.K H' w v→Q v H'
def cA (G:Gx) (t:E5):TA:=fun σ H Q=> ∃env h,BS G env h σ H∧t env h fun ws env' h'=> ∀vs H',BS G env' h' σ H'→Xt env h σ H env' h' H'→RepL G.K H' ws vs→Q vs H'
def cT (G:Gx) (t:G7):TT:=fun σ H Q=> ∃env h,BS G env h σ H∧t env h fun b env' h'=> ∀H',BS G env' h' σ H'→Xt env h σ H env' h' H'→Q b H'
structure AE (X:Cx) (G:Gx) (e:Expr) (t:AT):Prop where
  mono:A9 t
  pe:PE X e (cE G t)
structure AV (X:Cx) (G:Gx) (e:Expr) (t:C3):Prop where
  mono:A9 t
  pe:PE X e (cV G t)
structure AA (X:Cx) (G:Gx) (es:List Expr) (t:E5):Prop where
  mono:A9 t
  pa:PA X es (cA G t)
structure AP (X:Cx) (G:Gx) (e:Expr) (t:G7):Prop where
  mono:A9 t
  pt:PT X e (cT G t)
theorem PE.imp {X:Cx} {e:Expr} {t t':TE} (h:PE X e t) (i:∀σ H Q,t' σ H Q→t σ H Q):PE X e t':=⟨fun pins s σ H Q I q=> h.run pins s σ H Q I (i σ H Q q)⟩
theorem PA.imp {X:Cx} {e:List Expr} {t t':TA} (h:PA X e t) (i:∀σ H Q,t' σ H Q→t σ H Q):PA X e t':=⟨fun pos pins s σ H Q I q=> h.run pos pins s σ H Q I (i σ H Q q)⟩
theorem PT.imp {X:Cx} {e:Expr} {t t':TT} (h:PT X e t) (i:∀σ H Q,t' σ H Q→t σ H Q):PT X e t':=⟨fun pins s σ H Q I q=> h.run pins s σ H Q I (i σ H Q q)⟩
theorem PS.imp {X:Cx} {e:Stmt} {t t':TS} (h:PS X e t) (i:∀D σ H,t' D σ H→t D σ H):PS X e t':=⟨fun pins s σ H Q I q=> h.run pins s σ H Q I (i Q σ H q)⟩
theorem PSs.imp {X:Cx} {e:List Stmt} {t t':TS} (h:PSs X e t) (i:∀D σ H,t' D σ H→t D σ H):PSs X e t':=⟨fun pins s σ H Q I q=> h.run pins s σ H Q I (i Q σ H q)⟩
section
variable {X:Cx} {G:Gx}
def aVar (i:Nat):AT:=fun env h Q=> match env[i]? with
  | some (some (.val w))=> Q (.val w) env h
  | some (some (.own _))=> Q (.slot i) env h
  | _=> False
def aC (w:W):AT:=fun env h Q=> Q (.val w) env h
theorem aVar.mono {i:Nat}:A9 (aVar i):=fun env h Q Q' k q=> by
  unfold aVar at q ⊢
  split at q
  · exact k _ _ _ q
  · exact k _ _ _ q
  · exact q
theorem aC.mono {w:W}:A9 (aC w):=fun env h Q Q' k q=> k _ _ _ q
theorem A5 {e:Expr} {i:Nat} (h:PE X e (tVar i)):AE X G e (aVar i):=by
  refine ⟨aVar.mono,PE.imp h fun σ H Q ⟨env,k,S,q⟩=> ?_⟩
  unfold aVar at q
  split at q
  · rename_i w e
    obtain ⟨v,e1,r⟩:=S.val i w e
    exact ⟨v,e1,q v H S .refl r trivial⟩
  · rename_i c e
    obtain ⟨p,e1,r⟩:=S.own i c e
    exact ⟨_,e1,q _ H S .refl e1 trivial⟩
  · exact q.elim
theorem A1l {e:Expr} {w:W} {v:V} (h:PE X e (tC v)) (r:∀H,Rep G.K H w v):AE X G e (aC w):=
  ⟨aC.mono,PE.imp h fun σ H Q ⟨env,k,S,q⟩=> q v H S .refl (r H) trivial⟩
theorem ae_int {i j pos}:AE X G (.Constant (.int i) j pos) (aC (.int i)):=A1l pe_int fun _=> .int
theorem A3Q {i j pos}:AE X G (.Constant (.bool i) j pos) (aC (.bl i)):=A1l pe_bl fun _=> .bl
theorem A00 {j pos}:AE X G (.Constant .none j pos) (aC .non):=A1l pe_non fun _=> .non
theorem D8 {i j pos}:AE X G (.Constant (.str i) j pos) (aC (.str i)):=A1l pe_str fun _=> .str
def aFz (t:AT):C3:=fun env h Q=> t env h fun r env' h'=> match r with
  | .val w=> Q w env' h'
  | .own c=> Q c.fz env' h'
  | .slot i=> match env'[i]? with
    | some (some (.val w))=> Q w env' h'
    | some (some (.own c))=> Q c.fz (env'.set i (some (.val c.fz))) h'
    | _=> False
theorem aFz.mono {t:AT} (m:A9 t):A9 (aFz t):=fun env h Q Q' k q=> by
  refine m env h _ _ (fun r e g z=> ?_) q
  cases r with
  | val w=> exact k _ _ _ z
  | own c=> exact k _ _ _ z
  | slot i=>
    show match e[i]? with
      | some (some (.val w))=> Q' w e g
      | some (some (.own c))=> Q' c.fz (e.set i (some (.val c.fz))) g
      | _=> False
    have z:match e[i]? with
      | some (some (.val w))=> Q w e g
      | some (some (.own c))=> Q c.fz (e.set i (some (.val c.fz))) g
      | _=> False:=z
    split at z
    · exact k _ _ _ z
    · exact k _ _ _ z
    · exact z
theorem B4C {K:PySem.W.Frag} {H:Hp} {p:Addr} {c:Cont} (r:CRep K H p c) (hp:∃u,H p=some u∧Mu u):∃u,H p=some u∧Mu u∧∀od,Rep K (upd H p (.frz od u)) c.fz (.ref p):=by
  have keep:∀(u:HO) (od:Obj),H p=some u→Mu u→Keeps H (upd H p (.frz od u)):=fun u od e m q o e' i=> by
    have n:q≠p:=fun z=> by rw [z,e] at e';cases e';exact m.imm i
    rw [upd_ne n];exact e'
  cases c with
  | seq ws=>
    obtain ⟨vs,e,r⟩:=r
    refine ⟨_,e,trivial,fun od=> ?_⟩
    exact .lst ⟨od,upd_same⟩ (RepL.mono (keep _ od e trivial) _ _ r)
  | map kvs=>
    rcases r with ⟨ks,e,t,r⟩ | ⟨ks,e,t,r⟩
    · refine ⟨_,e,trivial,fun od=> ?_⟩
      show Rep K _ (.dct _ _) _
      simp only [Rep]
      exact ⟨p,rfl,.inl ⟨od,ks,upd_same,t,RepL.mono (keep _ od e trivial) _ _ r⟩⟩
    · refine ⟨_,e,trivial,fun od=> ?_⟩
      show Rep K _ (.dct _ _) _
      simp only [Rep]
      exact ⟨p,rfl,.inr ⟨od,ks,upd_same,t,RepL.mono (keep _ od e trivial) _ _ r⟩⟩
theorem BS.freeze {env env':A0} {h:AH} {σ:L2.St} {H:Hp} (S:BS G env h σ H) {p:Addr} {u:HO} (od:Obj) (e:H p=some u) (m:Mu u) (n:h p=none) (n0:G.H0 p=none)
    (len:env'.length=env.length)
    (v':∀(i:Nat) (w:W),env'[i]? =some (some (SV.val w))→env[i]? =some (some (SV.val w))∨∃v,σ[i]? =some (some v)∧Rep G.K (upd H p (.frz od u)) w v)
    (o':∀(i:Nat) (c:Cont),env'[i]? =some (some (SV.own c))→env[i]? =some (some (SV.own c))∧σ[i]? ≠some (some (V.ref p))):BS G env' h σ (upd H p (.frz od u)):=by
  have keep:Keeps H (upd H p (.frz od u)):=fun q o e' i=> by
    have n:q≠p:=fun z=> by rw [z,e] at e';cases e';exact m.imm i
    rw [upd_ne n];exact e'
  refine ⟨len.trans S.len,fun i w z=> ?_,fun i c z=> ?_,fun i j c c' q a b=> ?_,fun a o z=> ?_,fun q o z y t=> ?_,S.ext,fun q o z=> ?_,S.tabs.upd fun o z=> (by rw [e] at z;cases z;exact m)⟩
  · rcases v' i w z with z | z
    · obtain ⟨v,a,b⟩:=S.val i w z
      exact ⟨v,a,Rep.mono keep w v b⟩
    · exact z
  · obtain ⟨z,ne⟩:=o' i c z
    obtain ⟨q,a,b,d,f⟩:=S.own i c z
    have nq:q≠p:=fun y=> ne (by rw [a,y])
    exact ⟨q,a,b.mono keep (upd_ne nq),d,f⟩
  · exact S.uni i j c c' q (o' i c a).1 (o' j c' b).1
  · have na:a≠p:=fun y=> by rw [y,n] at z;cases z
    exact (S.hp a o z).mono keep (upd_ne na)
  · have nq:q≠p:=fun x=> by rw [x,n0] at z;cases z
    rw [upd_ne nq];exact S.fr q o z y t
  · by_cases hq:q=p
    · subst hq;exact ⟨_,upd_same⟩
    · obtain ⟨u',e'⟩:=S.tr q o z
      exact ⟨u',by rw [upd_ne hq];exact e'⟩
theorem Xt.freeze {env env' env2:A0} {h h':AH} {σ:L2.St} {H H1:Hp} {p:Addr} {u:HO} {od:Obj} (x:Xt env h σ H env' h' H1) (e:H1 p=some u) (f:H p=none∨OwnAt env σ p)
    (sl:∀(i:Nat) (c:Cont),env2[i]? =some (some (SV.own c))→env'[i]? =some (some (SV.own c))):Xt env h σ H env2 h' (upd H1 p (.frz od u)):=by
  refine ⟨fun q o e n w t=> ?_,x.hn,fun q o e=> ?_,fun i c e=> x.sl i c (sl i c e)⟩
  · have nq:q≠p:=fun y=> by
      rcases f with f | f
      · rw [y,f] at e;cases e
      · exact w (y▸f)
    rw [upd_ne nq];exact x.fr q o e n w t
  · by_cases hq:q=p
    · subst hq;exact ⟨_,upd_same⟩
    · rw [upd_ne hq];exact x.th q o e
theorem A4U {env:A0} {i j:Nat} {sv sv':SV} (e:env[i]? =some (some sv)):(env.set i (some sv'))[j]? =if j=i then some (some sv') else env[j]? :=by
  have hi:i < env.length:=(List.getElem?_eq_some_iff.mp e).1
  by_cases hj:j=i
  · subst hj;rw [if_pos rfl,List.getElem?_set_self hi]
  · rw [if_neg hj,List.getElem?_set_ne (Ne.symm hj)]
theorem A8M {env env':A0} {h h':AH} {σ:L2.St} {H H1:Hp} {i:Nat} {c:Cont} {pins:List (Addr×Obj)} {s:Shared} (S:BS G env' h' σ H1) (x:Xt env h σ H env' h' H1) (I:Inv X pins σ H1 s) (e:env'[i]? =some (some (.own c))):
    ∃p H2,σ[i]? =some (some (V.ref p))∧Inv X pins σ H2 s∧BS G (env'.set i (some (.val c.fz))) h' σ H2∧Xt env h σ H (env'.set i (some (.val c.fz))) h' H2∧Rep G.K H2 c.fz (.ref p):=by
  obtain ⟨p,es,cr,n,n0⟩:=S.own i c e
  obtain ⟨u,eu,mu,fr⟩:=B4C cr cr.there
  obtain ⟨od,I2⟩:=I.lock eu mu.mut
  refine ⟨p,_,es,I2,S.freeze od eu mu n n0 (by simp) (fun j w z=> ?_) (fun j d z=> ?_),x.freeze eu (.inr ?_) (fun j d z=> ?_),fr od⟩
  · rw [A4U e] at z
    by_cases hj:j=i
    · rw [if_pos hj] at z
      cases z
      exact .inr ⟨_,hj▸es,fr od⟩
    · rw [if_neg hj] at z;exact .inl z
  · rw [A4U e] at z
    by_cases hj:j=i
    · rw [if_pos hj] at z;cases z
    · rw [if_neg hj] at z
      exact ⟨z,fun y=> hj (S.uni j i d c p z e y es)⟩
  · exact x.own ⟨i,c,e,es⟩
  · rw [A4U e] at z
    by_cases hj:j=i
    · rw [if_pos hj] at z;cases z
    · rw [if_neg hj] at z;exact z
theorem B8J {env env':A0} {h h':AH} {σ:L2.St} {H H1:Hp} {c:Cont} {v:V} {pins:List (Addr×Obj)} {s:Shared} (S:BS G env' h' σ H1) (x:Xt env h σ H env' h' H1) (I:Inv X pins σ H1 s) (r:RvRep G env' h' σ H1 (.own c) v) (f:Q9 H (.own c) v):
    ∃H2,Inv X pins σ H2 s∧BS G env' h' σ H2∧Xt env h σ H env' h' H2∧Rep G.K H2 c.fz v:=by
  obtain ⟨p,ex,cr,n,n0,no⟩:=r
  obtain ⟨u,eu,mu,fr⟩:=B4C cr cr.there
  obtain ⟨od,I2⟩:=I.lock eu mu.mut
  subst ex
  exact ⟨_,I2,S.freeze od eu mu n n0 rfl (fun i w e=> .inl e) fun i c e=> ⟨e,fun y=> no ⟨i,c,e,y⟩⟩,x.freeze eu (.inl (f p rfl)) fun i c e=> e,fr od⟩
theorem A3 {e:Expr} {t:AT} (a:AE X G e t):AV X G e (aFz t):=by
  refine ⟨aFz.mono a.mono,⟨fun pins s σ H Q I ⟨env,h,S,q⟩=> ?_⟩⟩
  refine thn (a.pe.run pins s σ H (fun v H1=> ∃r env' h',BS G env' h' σ H1∧Xt env h σ H env' h' H1∧RvRep G env' h' σ H1 r v∧Q9 H r v∧match r with
    | .val w=> ∀v H',BS G env' h' σ H'→Xt env h σ H env' h' H'→Rep G.K H' w v→Q v H'
    | .own c=> ∀v H',BS G env' h' σ H'→Xt env h σ H env' h' H'→Rep G.K H' c.fz v→Q v H'
    | .slot i=> match env'[i]? with
      | some (some (.val w))=> ∀v H',BS G env' h' σ H'→Xt env h σ H env' h' H'→Rep G.K H' w v→Q v H'
      | some (some (.own c))=> ∀v H',BS G (env'.set i (some (.val c.fz))) h' σ H'→Xt env h σ H (env'.set i (some (.val c.fz))) h' H'→Rep G.K H' c.fz v→Q v H'
      | _=> False) I ⟨env,h,S,a.mono env h _ _ (fun r env' h' z v H1 S1 x1 r1 f1=> ⟨r,env',h',S1,x1,r1,f1,z⟩) q⟩) fun v s1 ⟨x,H1,I1,r1,r,env',h',S1,x1,rr,f1,z⟩=> ?_
  cases r with
  | val w=> exact ⟨x,H1,I1,r1,z x H1 S1 x1 rr⟩
  | own c=>
    obtain ⟨H2,I2,S2,x2,r2⟩:=B8J S1 x1 I1 rr f1
    exact ⟨x,H2,I2,r1,z x H2 S2 x2 r2⟩
  | slot i=>
    have es:σ[i]? =some (some x):=rr
    have z:match env'[i]? with
      | some (some (.val w))=> ∀v H',BS G env' h' σ H'→Xt env h σ H env' h' H'→Rep G.K H' w v→Q v H'
      | some (some (.own c))=> ∀v H',BS G (env'.set i (some (.val c.fz))) h' σ H'→Xt env h σ H (env'.set i (some (.val c.fz))) h' H'→Rep G.K H' c.fz v→Q v H'
      | _=> False:=z
    split at z
    · rename_i w e
      obtain ⟨u,e3,r⟩:=S1.val i w e
      rw [es] at e3;cases e3
      exact ⟨x,H1,I1,r1,z x H1 S1 x1 r⟩
    · rename_i c e
      obtain ⟨p,H2,ep,I2,S2,x2,r2⟩:=A8M S1 x1 I1 e
      rw [es] at ep;cases ep
      exact ⟨_,H2,I2,r1,z _ H2 S2 x2 r2⟩
    · exact z.elim
def aNil:E5:=fun env h Q=> Q [] env h
def aCons (t:C3) (u:E5):E5:=fun env h Q=> t env h fun w env' h'=> u env' h' fun ws env2 h2=> Q (w::ws) env2 h2
theorem aNil.mono:A9 aNil:=fun env h Q Q' k q=> k _ _ _ q
theorem aCons.mono {t:C3} {u:E5} (m:A9 t) (n:A9 u):A9 (aCons t u):=fun env h Q Q' k q=> m env h _ _ (fun w e g z=> n e g _ _ (fun ws e2 g2 z2=> k _ _ _ z2) z) q
theorem D7:AA X G [] aNil:=⟨aNil.mono,PA.imp pa_nil fun σ H Q ⟨env,h,S,q⟩=> q [] H S .refl .nil⟩
theorem B7 {e:Expr} {es:List Expr} {t:C3} {u:E5} (a:AV X G e t) (b:AA X G es u) (hs:starEach (e::es) X.env=(false,eval e X.env)::starEach es X.env:=by rfl):AA X G (e::es) (aCons t u):=by
  refine ⟨aCons.mono a.mono b.mono,PA.imp (pa_cons a.pe b.pa hs) fun σ H Q ⟨env,h,S,q⟩=> ?_⟩
  refine ⟨env,h,S,a.mono env h _ _ (fun w env1 h1 z v H1 S1 x1 r1=> ?_) q⟩
  refine ⟨env1,h1,S1,b.mono env1 h1 _ _ (fun ws env2 h2 z vs H2 S2 x2 r2=> ?_) z⟩
  exact z (v::vs) H2 S2 (x1.trans x2) (.cons (Rep.mono (x2.keeps S1) w v r1) r2)
def aTup (t:E5):AT:=fun env h Q=> t env h fun ws env' h'=> ws.length≤sizeLine∧Q (.val (.tup ws)) env' h'
def aLst (t:E5):AT:=fun env h Q=> t env h fun ws env' h'=> ws.length≤sizeLine∧Q (.own (.seq ws)) env' h'
theorem aTup.mono {t:E5} (m:A9 t):A9 (aTup t):=fun env h Q Q' k q=> m env h _ _ (fun ws e g z=> ⟨z.1,k _ _ _ z.2⟩) q
theorem aLst.mono {t:E5} (m:A9 t):A9 (aLst t):=fun env h Q Q' k q=> m env h _ _ (fun ws e g z=> ⟨z.1,k _ _ _ z.2⟩) q
section
variable {env:A0} {h:AH} {σ:L2.St} {H:Hp}
theorem BS.noAt (S:BS G env h σ H) {p:Addr} (n:H p=none):h p=none∧G.H0 p=none∧¬OwnAt env σ p:=by
  refine ⟨?_,?_,fun ⟨i,c,e1,e2⟩=> ?_⟩
  · cases q:h p with
    | none=> rfl
    | some u=> obtain ⟨o,e,_⟩:=(S.hp p u q).there;rw [n] at e;cases e
  · cases q:G.H0 p with
    | none=> rfl
    | some o=> obtain ⟨u,e⟩:=S.tr p o q;rw [n] at e;cases e
  · obtain ⟨q,e3,cr,_⟩:=S.own i c e1
    rw [e2] at e3;cases e3
    obtain ⟨o,e,_⟩:=cr.there;rw [n] at e;cases e
theorem M7 {es:List Expr} {t:E5} {x1 pos} (a:AA X G es t):AE X G (.Tuple es x1 pos) (aTup t):=by
  refine ⟨aTup.mono a.mono,PE.imp (pe_tup a.pa) fun σ H Q ⟨env,h,S,q⟩=> ?_⟩
  refine ⟨env,h,S,a.mono env h _ _ (fun ws env1 h1 z vs H1 S1 x1 r1=> ⟨by rw [←r1.length];exact z.1,fun p n=> ?_⟩) q⟩
  have nw:New H1 (upd H1 p (.tup vs)):=New.upd n
  exact z.2 (.ref p) _ (nw.bs S1) (x1.trans nw.xt) (.tup (.inl upd_same) (RepL.mono nw.keeps _ _ r1)) trivial
theorem Xt.fresh {env env':A0} {h':AH} {H':Hp} (x:Xt env h σ H env' h' H') {p:Addr} (n:H' p=none):H p=none:=by
  cases q:H p with
  | none=> rfl
  | some o=> obtain ⟨u,e⟩:=x.th p o q;rw [n] at e;cases e
theorem A8s {env env1:A0} {h h1:AH} {σ:L2.St} {H H1:Hp} {p:Addr} {o:HO} {c:Cont} (S:BS G env1 h1 σ H1) (x:Xt env h σ H env1 h1 H1) (n:H1 p=none) (r:New H1 (upd H1 p o)→CRep G.K (upd H1 p o) p c):
    BS G env1 h1 σ (upd H1 p o)∧Xt env h σ H env1 h1 (upd H1 p o)∧RvRep G env1 h1 σ (upd H1 p o) (.own c) (.ref p)∧Q9 H (.own c) (.ref p):=by
  have nw:New H1 (upd H1 p o):=New.upd n
  obtain ⟨a,b,d⟩:=S.noAt n
  exact ⟨nw.bs S,x.trans nw.xt,⟨p,rfl,r nw,a,b,d⟩,fun q e=> by cases e;exact x.fresh n⟩
theorem P4 {es:List Expr} {t:E5} {pos} (a:AA X G es t):AE X G (.List es pos) (aLst t):=by
  refine ⟨aLst.mono a.mono,PE.imp (pe_lst a.pa) fun σ H Q ⟨env,h,S,q⟩=> ?_⟩
  refine ⟨env,h,S,a.mono env h _ _ (fun ws env1 h1 z vs H1 S1 x1 r1=> ⟨by rw [←r1.length];exact z.1,fun p n=> ?_⟩) q⟩
  obtain ⟨S2,x2,r2,f2⟩:=A8s S1 x1 n (o:= .lst vs) (c:= .seq ws) fun nw=> ⟨vs,upd_same,RepL.mono nw.keeps _ _ r1⟩
  exact z.2 _ _ S2 x2 r2 f2
end
end
end Ab
namespace Ab
open PySem PySem.Spec PyProof.Rows L2
def Vw.seq:Vw→Option (List W)
  | .wv (.lst xs)=> some xs
  | .cv (.seq xs)=> some xs
  | _=> none
def Vw.tpl:Vw→Option (List W)
  | .wv (.tup xs)=> some xs
  | _=> none
section
variable {K:PySem.W.Frag} {H:Hp} {a:Vw} {v:V} {xs:List W}
theorem VR.seq (r:VR K H a v) (e:a.seq=some xs):∃p vs,v= .ref p∧Rd H p (.lst vs)∧RepL K H xs vs:=by
  cases a with
  | wv w=>
    cases w with
    | lst ys=>
      cases e
      obtain ⟨p,vs,e1,⟨o,l⟩,r⟩:=Rep.of_lst r
      exact ⟨p,vs,e1,.inr ⟨o,l⟩,r⟩
    | _=> cases e
  | cv c=>
    cases c with
    | seq ys=>
      cases e
      obtain ⟨p,e1,vs,l,r⟩:=r
      exact ⟨p,vs,e1,.inl l,r⟩
    | map _=> cases e
  | bad=> cases e
theorem VR.tplT (r:VR K H a v) (e:a.tpl=some xs):∃p vs,v= .ref p∧TqT K H p vs∧RepL K H xs vs:=by
  cases a with
  | wv w=>
    cases w with
    | tup ys=> cases e;exact Rep.of_tupT r
    | _=> cases e
  | _=> cases e
theorem VR.tpl (r:VR K H a v) (e:a.tpl=some xs):∃p vs,v= .ref p∧SqT K H p vs∧RepL K H xs vs:=let ⟨p,vs,e,s,r⟩:=r.tplT e;⟨p,vs,e,s.sq,r⟩
theorem VR.int {i:Int} (r:VR K H (.wv (.int i)) v):v= .int i:=Rep.of_int (K:=K) (H:=H) r
theorem VR.str {i:Str} (r:VR K H (.wv (.str i)) v):v= .str i:=Rep.of_str (K:=K) (H:=H) r
theorem VR.bl {i:Bool} (r:VR K H (.wv (.bl i)) v):v= .bl i:=Rep.of_bl (K:=K) (H:=H) r
theorem VR.non (r:VR K H (.wv .non) v):v= .non:=Rep.of_non (K:=K) (H:=H) r
end
def OutR (K:PySem.W.Frag) (H:Hp) (Q:RV→Prop) (v:V) (H':Hp):Prop:=
  (H'=H∧∃w,Q (.val w)∧Rep K H w v)∨∃p o,H p=none∧H'=upd H p o∧v= .ref p∧((∃w,Q (.val w)∧Rep K H' w v)∨∃c,Q (.own c)∧CRep K H' p c)
theorem OutR.val {K:PySem.W.Frag} {H:Hp} {Q:RV→Prop} {w:W} {v:V} (q:Q (.val w)) (r:Rep K H w v):OutR K H Q v H:= .inl ⟨rfl,w,q,r⟩
theorem OutR.tup {K:PySem.W.Frag} {H:Hp} {Q:RV→Prop} {ws:List W} {vs:List V} {p:Addr} (n:H p=none) (q:Q (.val (.tup ws))) (r:RepL K H ws vs):OutR K H Q (.ref p) (upd H p (.tup vs)):=
  .inr ⟨p,_,n,rfl,rfl,.inl ⟨_,q,.tup (.inl upd_same) (RepL.mono (New.upd n).keeps _ _ r)⟩⟩
theorem OutR.lst {K:PySem.W.Frag} {H:Hp} {Q:RV→Prop} {ws:List W} {vs:List V} {p:Addr} (n:H p=none) (q:Q (.own (.seq ws))) (r:RepL K H ws vs):OutR K H Q (.ref p) (upd H p (.lst vs)):=
  .inr ⟨p,_,n,rfl,rfl,.inr ⟨_,q,vs,upd_same,RepL.mono (New.upd n).keeps _ _ r⟩⟩
section
variable {G:Gx} {env env1:A0} {h h1:AH} {σ:L2.St} {H H1 H2:Hp}
theorem OutR.end {Q0:RV→Prop} {v:V} (S:BS G env1 h1 σ H1) (x:Xt env h σ H env1 h1 H1) (o:OutR G.K H1 Q0 v H2):
    ∃r,Q0 r∧BS G env1 h1 σ H2∧Xt env h σ H env1 h1 H2∧RvRep G env1 h1 σ H2 r v∧Q9 H r v:=by
  rcases o with ⟨rfl,w,q,r⟩ | ⟨p,o,n,rfl,rfl,⟨w,q,r⟩ | ⟨c,q,r⟩⟩
  · exact ⟨_,q,S,x,r,trivial⟩
  · have nw:New H1 (upd H1 p o):=New.upd n
    exact ⟨_,q,nw.bs S,x.trans nw.xt,r,trivial⟩
  · obtain ⟨a,b,c,d⟩:=A8s S x n fun _=> r
    exact ⟨_,q,a,b,c,d⟩
end
abbrev L7:=Vw→Vw→(RV→Prop)→Prop
structure OpA (K:PySem.W.Frag) (r:R2) (o:L7):Prop where
  mono:∀a b Q Q',(∀r,Q r→Q' r)→o a b Q→o a b Q'
  ok:∀a b x y H Q0 Q,VR K H a x→VR K H b y→o a b Q0→(∀v H',OutR K H Q0 v H'→Q v H')→r x y H Q
def aOp2 (o:L7) (ta tb:AT):AT:=fun env h Q=> ta env h fun rx env1 h1=> tb env1 h1 fun ry env2 h2=> o (view env2 h2 rx) (view env2 h2 ry) fun r=> Q r env2 h2
theorem aOp2.mono {K:PySem.W.Frag} {r:R2} {o:L7} (oa:OpA K r o) {ta tb:AT} (a:A9 ta) (b:A9 tb):A9 (aOp2 o ta tb):=fun env h Q Q' k q=>
  a env h _ _ (fun rx e g z=> b e g _ _ (fun ry e2 g2 z2=> oa.mono _ _ _ _ (fun r z3=> k _ _ _ z3) z2) z) q
section
variable {X:Cx} {G:Gx}
theorem A6K {ta tb:AT} {o:L7} {r:R2} (ma:A9 ta) (mb:A9 tb) (oa:OpA G.K r o) {σ:L2.St} {H:Hp} {Q:VK} (q:cE G (aOp2 o ta tb) σ H Q):tOp r (cE G ta) (cE G tb) σ H Q:=by
  obtain ⟨env,h,S,q⟩:=q
  refine ⟨env,h,S,ma env h _ _ (fun rx env1 h1 z x H1 S1 x1 r1 f1=> ?_) q⟩
  refine ⟨env1,h1,S1,mb env1 h1 _ _ (fun ry env2 h2 z2 y H2 S2 x2 r2 f2=> ?_) z⟩
  refine oa.ok _ _ _ _ _ _ _ ((r1.xt S1 x2).vr S2) (r2.vr S2) z2 fun v H3 out=> ?_
  obtain ⟨res,q0,S3,x3,r3,f3⟩:=out.end S2 (x1.trans x2)
  exact q0 v H3 S3 x3 r3 f3
theorem A3O {op:Operator} {r:R2} {o:L7} {a b:Expr} {ta tb:AT} {pos:Pos} (ho:OpR X (binaryOp op) r) (oa:OpA G.K r o) (ha:AE X G a ta) (hb:AE X G b tb):AE X G (.BinOp a op b pos) (aOp2 o ta tb):=
  ⟨aOp2.mono oa ha.mono hb.mono,PE.imp (pe_op ho ha.pe hb.pe) fun _ _ _ q=> A6K ha.mono hb.mono oa q⟩
theorem A6k {op:CmpOp} {r:R2} {o:L7} {a b:Expr} {ta tb:AT} {pos:Pos} (ho:OpR X (compareOp op) r) (oa:OpA G.K r o) (ha:AE X G a ta) (hb:AE X G b tb) (hm:behindInMarks op b=false):AE X G (.Compare a [op] [b] pos) (aOp2 o ta tb):=
  ⟨aOp2.mono oa ha.mono hb.mono,PE.imp (pe_cmpR ho ha.pe hb.pe hm) fun _ _ _ q=> A6K ha.mono hb.mono oa q⟩
end
theorem OpA.or {K:PySem.W.Frag} {r r':R2} {o o':L7} (a:OpA K r o) (b:OpA K r' o'):OpA K (fun x y H Q=> r x y H Q∨r' x y H Q) (fun x y Q=> o x y Q∨o' x y Q):=
  ⟨fun x y Q Q' k q=> q.elim (fun z=> .inl (a.mono x y Q Q' k z)) fun z=> .inr (b.mono x y Q Q' k z),fun x y u v H Q0 Q r1 r2 q k=> q.elim (fun z=> .inl (a.ok x y u v H Q0 Q r1 r2 z k)) fun z=> .inr (b.ok x y u v H Q0 Q r1 r2 z k)⟩
theorem OpA.as {K:PySem.W.Frag} {r:R2} {o o':L7} (a:OpA K r o) (i:∀x y Q,o' x y Q→o x y Q) (m:∀a b Q Q',(∀r,Q r→Q' r)→o' a b Q→o' a b Q'):OpA K r o':=⟨m,fun x y u v H Q0 Q r1 r2 q k=> a.ok x y u v H Q0 Q r1 r2 (i _ _ _ q) k⟩
def oII (C:Int→Int→Prop) (g:Int→Int→W):L7:=fun a b Q=> match a,b with
  | .wv (.int i),.wv (.int j)=> C i j∧Q (.val (g i j))
  | _,_=> False
theorem oII.mono {C:Int→Int→Prop} {g:Int→Int→W} (a b:Vw) (Q Q':RV→Prop) (k:∀r,Q r→Q' r) (q:oII C g a b Q):oII C g a b Q':=by
  unfold oII at q ⊢
  split at q
  · exact ⟨q.1,k _ q.2⟩
  · exact q.elim
theorem oII.get {C:Int→Int→Prop} {g:Int→Int→W} {a b:Vw} {Q:RV→Prop} (q:oII C g a b Q):∃i j,a= .wv (.int i)∧b= .wv (.int j)∧C i j∧Q (.val (g i j)):=by
  unfold oII at q
  split at q
  · exact ⟨_,_,rfl,rfl,q⟩
  · exact q.elim
theorem A8t {K:PySem.W.Frag} {C:Int→Int→Prop} {g:Int→Int→V} {g':Int→Int→W} (hg:∀H i j,Rep K H (g' i j) (g i j)):OpA K (rI C g) (oII C g'):=
  ⟨fun a b Q Q' k q=> oII.mono a b Q Q' k q,fun a b x y H Q0 Q ra rb q k=> by
    obtain ⟨i,j,rfl,rfl,c,q⟩:=q.get
    exact ⟨i,j,ra.int,rb.int,c,k _ _ (.val q (hg H i j))⟩⟩
theorem A4Y {K:PySem.W.Frag} {g:Int→Int→V} {g':Int→Int→W} (hg:∀H i j,Rep K H (g' i j) (g i j)):OpA K (rI0 g) (oII (fun _ _=> True) g'):=
  ⟨fun a b Q Q' k q=> oII.mono a b Q Q' k q,fun a b x y H Q0 Q ra rb q k=> by
    obtain ⟨i,j,rfl,rfl,c,q⟩:=q.get
    exact ⟨i,j,ra.int,rb.int,k _ _ (.val q (hg H i j))⟩⟩
def B5P (_ j:Int):Prop:=0 < j
section
variable {X:Cx} {G:Gx} {a b:Expr} {ta tb:AT} {pos:Pos}
theorem A2X (ha:AE X G a ta) (hb:AE X G b tb):AE X G (.BinOp a .Mod b pos) (aOp2 (oII B5P fun i j=> .int (i % j)) ta tb):=A3O op_mod (A8t (C:=fun _ j=> 0 < j) fun _ _ _=> .int) ha hb
theorem B3v (ha:AE X G a ta) (hb:AE X G b tb):AE X G (.BinOp a .FloorDiv b pos) (aOp2 (oII CDivW fun i j=> .int (i / j)) ta tb):=A3O op_fdivW (A8t fun _ _ _=> .int) ha hb
theorem C3s (ha:AE X G a ta) (hb:AE X G b tb):AE X G (.Compare a [.Gt] [b] pos) (aOp2 (oII (fun _ _=> True) fun i j=> .bl (decide (j < i))) ta tb):=A6k op_gt (A4Y fun _ _ _=> .bl) ha hb (nomark _)
end
end Ab
namespace Ab
open PySem PySem.Spec PyProof.Rows L2
section
variable {X:Cx}
theorem A9d {pins:List (Addr×Obj)} {σ:L2.St} {H:Hp} {s:Shared} {l:Addr} {xs:List V} (I:Inv X pins σ H s) (r:Rd H l (.lst xs)):
    xs.length≤sizeLine∧∃(us:List Value) (n:Nat),Vals xs us∧s.heap.get? l=some { cls:= .type "list",data:= .seq us.toArray n }:=r.ok I.hok
def B49:R2:=fun x y H Q=> ∃l b xs zs,x= .ref l∧y= .ref b∧Rd H l (.lst xs)∧Rd H b (.lst zs)∧xs.length+zs.length≤sizeLine∧∀p,H p=none→Q (.ref p) (upd H p (.lst (xs++zs)))
theorem C0q:OpR X (binaryOp .Add) B49:=fun pins s σ H x y v u Q I rx ry h=> by
  obtain ⟨l,b,xs,zs,rfl,rfl,h1,h2,hz,q⟩:=h
  obtain rfl:v= .ref l:=rx
  obtain rfl:u= .ref b:=ry
  obtain ⟨_,us,n,r1,e1⟩:=A9d I h1
  obtain ⟨_,ws,m,r2,e2⟩:=A9d I h2
  have z:us.toArray.size+ws.toArray.size≤sizeLine:=by
    rw [List.size_toArray,List.size_toArray,←r1.length,←r2.length];exact hz
  have w:=r1.append r2
  refine PySem.P.add_list e1 e2 ?_ z
  rw [show us.toArray++ws.toArray=(us++ws).toArray from by simp]
  refine ⟨.ref _,_,I.lnew (t':=s.toks) w ?_,rfl,q _ I.fresh⟩
  rw [List.length_append];exact hz
end
def B5c:L7:=fun a b Q=> ∃xs ys,a.seq=some xs∧b.seq=some ys∧xs.length+ys.length≤sizeLine∧Q (.own (.seq (xs++ys)))
theorem C0Y {K:PySem.W.Frag}:OpA K B49 B5c:=
  ⟨fun a b Q Q' k ⟨xs,ys,e,f,z,q⟩=> ⟨xs,ys,e,f,z,k _ q⟩,fun a b x y H Q0 Q ra rb q k=> by
    obtain ⟨xs,ys,e,f,z,q⟩:=q
    obtain ⟨p,vs,rfl,d1,r1⟩:=ra.seq e
    obtain ⟨p',us,rfl,d2,r2⟩:=rb.seq f
    exact ⟨p,p',vs,us,rfl,rfl,d1,d2,by rw [←r1.length,←r2.length];exact z,fun l n=> k _ _ (.lst n q (r1.append r2))⟩⟩
def B4u:L7:=fun a b Q=> ∃xs ys,a.tpl=some xs∧b.tpl=some ys∧xs.length+ys.length≤sizeLine∧Q (.val (.tup (xs++ys)))
theorem B9T {K:PySem.W.Frag}:OpA K (rCatA K) B4u:=
  ⟨fun a b Q Q' k ⟨xs,ys,e,f,z,q⟩=> ⟨xs,ys,e,f,z,k _ q⟩,fun a b x y H Q0 Q ra rb q k=> by
    obtain ⟨xs,ys,e,f,z,q⟩:=q
    obtain ⟨p,vs,rfl,d1,r1⟩:=ra.tplT e
    obtain ⟨p',us,rfl,d2,r2⟩:=rb.tplT f
    refine ⟨p,p',vs,us,rfl,rfl,d1.sq,d2.sq,by rw [←r1.length,←r2.length];exact z,fun h0=> ?_,fun _ h0=> ?_,fun _ _ l n=> k _ _ (.tup n q (r1.append r2))⟩
    · have e0:xs=[]:=List.eq_nil_of_length_eq_zero (by rw [r1.length,h0];rfl)
      subst e0
      exact k _ _ (.val q (.tup d2 r2))
    · have e0:ys=[]:=List.eq_nil_of_length_eq_zero (by rw [r2.length,h0];rfl)
      subst e0
      rw [List.append_nil] at q
      exact k _ _ (.val q (.tup d1 r1))⟩
def A7J:L7:=fun a b Q=> match a,b with
  | .wv (.str x),.wv (.str y)=> x.length+y.length≤sizeLine∧Q (.val (.str (x++y)))
  | _,_=> False
theorem B93 {K:PySem.W.Frag}:OpA K (fun x y H Q=> ∃i j,x= .str i∧y= .str j∧i.length+j.length≤sizeLine∧Q (.str (i++j)) H) A7J:=
  ⟨fun a b Q Q' k q=> by
    unfold A7J at q ⊢
    split at q
    · exact ⟨q.1,k _ q.2⟩
    · exact q.elim,fun a b x y H Q0 Q ra rb q k=> by
    unfold A7J at q
    split at q
    · exact ⟨_,_,ra.str,rb.str,q.1,k _ _ (.val q.2 .str)⟩
    · exact q.elim⟩
def oAdd:L7:=fun a b Q=> match a,b with
  | .wv (.int i),.wv (.int j)=> Q (.val (.int (i+j)))
  | .wv (.str x),.wv (.str y)=> x.length+y.length≤sizeLine∧Q (.val (.str (x++y)))
  | .wv (.tup xs),.wv (.tup ys)=> xs.length+ys.length≤sizeLine∧Q (.val (.tup (xs++ys)))
  | .wv (.lst xs),.wv (.lst ys)=> xs.length+ys.length≤sizeLine∧Q (.own (.seq (xs++ys)))
  | .wv (.lst xs),.cv (.seq ys)=> xs.length+ys.length≤sizeLine∧Q (.own (.seq (xs++ys)))
  | .cv (.seq xs),.wv (.lst ys)=> xs.length+ys.length≤sizeLine∧Q (.own (.seq (xs++ys)))
  | .cv (.seq xs),.cv (.seq ys)=> xs.length+ys.length≤sizeLine∧Q (.own (.seq (xs++ys)))
  | _,_=> False
theorem oAdd.as (a b:Vw) (Q:RV→Prop) (q:oAdd a b Q):((oII (fun _ _=> True) (fun i j=> .int (i+j)) a b Q∨A7J a b Q)∨B4u a b Q)∨B5c a b Q:=by
  unfold oAdd at q
  split at q
  · exact .inl (.inl (.inl ⟨trivial,q⟩))
  · exact .inl (.inl (.inr q))
  · exact .inl (.inr ⟨_,_,rfl,rfl,q⟩)
  · exact .inr ⟨_,_,rfl,rfl,q⟩
  · exact .inr ⟨_,_,rfl,rfl,q⟩
  · exact .inr ⟨_,_,rfl,rfl,q⟩
  · exact .inr ⟨_,_,rfl,rfl,q⟩
  · exact q.elim
theorem oAdd.mono (a b:Vw) (Q Q':RV→Prop) (k:∀r,Q r→Q' r) (q:oAdd a b Q):oAdd a b Q':=by
  unfold oAdd at q ⊢
  split at q <;> first | exact ⟨q.1,k _ q.2⟩ | exact k _ q | exact q.elim
section
variable {X:Cx} {G:Gx} {a b c:Expr} {ta tb tc:AT} {pos:Pos}
theorem T4 (gk:G.K=X.K) (ha:AE X G a ta) (hb:AE X G b tb):AE X G (.BinOp a .Add b pos) (aOp2 oAdd ta tb):=
  A3O (((op_add.or op_add_str).or op_catA).or C0q) ((((A4Y fun _ _ _=> .int).or B93).or (gk▸B9T)).or C0Y |>.as (o':=oAdd) oAdd.as oAdd.mono) ha hb
end
mutual
def W.pd:W→PyData
  | .non=> .none
  | .bl b=> .bool b
  | .int i=> .int i
  | .str x=> .str x
  | .tup xs=> .tuple (W.pds xs)
  | .lst xs=> .list (W.pds xs)
  | .dct _ _=> .none
  | .ref _=> .none
  | .ty _=> .none
  | .emp=> .tuple []
def W.pds:List W→List PyData
  | []=> []
  | x::xs=> x.pd::W.pds xs
end
def W.dat:Nat→W→Bool
  | _,.non=> true
  | _,.bl _=> true
  | _,.int _=> true
  | _,.str _=> true
  | n+1,.tup xs=> xs.all (W.dat n)
  | n+1,.lst xs=> xs.all (W.dat n)
  | n+1,.emp=> true
  | _,_=> false
theorem W.depth_all {n:Nat}:∀xs:List W,(∀x∈xs,x.pd.depth≤n)→PyData.depthAll (W.pds xs)≤n
  | [],_=> Nat.zero_le _
  | x::xs,h=> by
    simp only [W.pds,PyData.depthAll]
    exact Nat.max_le.mpr ⟨h x List.mem_cons_self,W.depth_all xs fun y hy=> h y (List.mem_cons_of_mem _ hy)⟩
theorem W.dat_depth:∀(n:Nat) (w:W),w.dat n=true→w.pd.depth≤n
  | _,.non,_=> by simp only [W.pd,PyData.depth];omega
  | _,.bl _,_=> by simp only [W.pd,PyData.depth];omega
  | _,.int _,_=> by simp only [W.pd,PyData.depth];omega
  | _,.str _,_=> by simp only [W.pd,PyData.depth];omega
  | 0,.tup _,h=> by simp [W.dat] at h
  | 0,.lst _,h=> by simp [W.dat] at h
  | n+1,.tup xs,h=> by
    simp only [W.pd,PyData.depth]
    have z:=W.depth_all xs fun x hx=> W.dat_depth n x (List.all_eq_true.mp (by simpa only [W.dat] using h) x hx)
    omega
  | n+1,.lst xs,h=> by
    simp only [W.pd,PyData.depth]
    have z:=W.depth_all xs fun x hx=> W.dat_depth n x (List.all_eq_true.mp (by simpa only [W.dat] using h) x hx)
    omega
  | n,.dct _ _,h=> by simp [W.dat] at h
  | n,.ref _,h=> by simp [W.dat] at h
  | n,.ty _,h=> by simp [W.dat] at h
  | 0,.emp,h=> by simp [W.dat] at h
  | n+1,.emp,_=> by simp only [W.pd,PyData.depth,PyData.depthAll];omega
mutual
theorem W.pd_plain:∀w:W,w.pd.plain=true
  | .non=> rfl
  | .bl _=> rfl
  | .int _=> rfl
  | .str _=> rfl
  | .tup xs=> by simp only [W.pd,PyData.plain];exact W.pds_plain xs
  | .lst xs=> by simp only [W.pd,PyData.plain];exact W.pds_plain xs
  | .dct _ _=> rfl
  | .ref _=> rfl
  | .ty _=> rfl
  | .emp=> by simp only [W.pd,PyData.plain,PyData.plainAll]
theorem W.pds_plain:∀ws:List W,PyData.plainAll (W.pds ws)=true
  | []=> rfl
  | w::ws=> by simp only [W.pds,PyData.plainAll,Bool.and_eq_true];exact ⟨W.pd_plain w,W.pds_plain ws⟩
end
section
variable {K:PySem.W.Frag} {H:Hp}
theorem n4 {a:Addr} {vs:List V} (h:Rd H a (.lst vs)):SqL K H a vs:= .inl h
theorem RepL.dp {n:Nat} (ih:∀(w:W) (v:V),Rep K H w v→w.dat n=true→Dp K H v w.pd):∀(ws:List W) (vs:List V),RepL K H ws vs→ws.all (W.dat n)=true→DpAll K H vs (W.pds ws)
  | [],vs,r,_=> by rw [r.of_nil];exact .nil
  | w::ws,vs,r,d=> by
    obtain ⟨v,t,rfl,a,b⟩:=r.of_cons
    rw [List.all_cons,Bool.and_eq_true] at d
    exact .cons (ih w v a d.1) (RepL.dp ih ws t b d.2)
theorem Rep.dp:∀(n:Nat) (w:W) (v:V),Rep K H w v→w.dat n=true→Dp K H v w.pd
  | _,.non,_,r,_=> by rw [Rep.of_non (K:=K) (H:=H) r];exact .non
  | _,.bl _,_,r,_=> by rw [Rep.of_bl (K:=K) (H:=H) r];exact .bl _
  | _,.int _,_,r,_=> by rw [Rep.of_int (K:=K) (H:=H) r];exact .int _
  | _,.str _,_,r,_=> by rw [Rep.of_str (K:=K) (H:=H) r];exact .str _
  | n+1,.tup xs,v,r,d=> by
    obtain ⟨a,vs,rfl,s,r⟩:=Rep.of_tup r
    simp only [W.pd]
    exact .tup s (RepL.dp (Rep.dp n) xs vs r (by simpa only [W.dat] using d))
  | n+1,.lst xs,v,r,d=> by
    obtain ⟨a,vs,rfl,⟨o,s⟩,r⟩:=Rep.of_lst r
    simp only [W.pd]
    exact .lst (n4 (.inr ⟨o,s⟩)) (RepL.dp (Rep.dp n) xs vs r (by simpa only [W.dat] using d))
  | 0,.tup _,_,_,d=> by simp [W.dat] at d
  | 0,.lst _,_,_,d=> by simp [W.dat] at d
  | _,.dct _ _,_,_,d=> by simp [W.dat] at d
  | _,.ref _,_,_,d=> by simp [W.dat] at d
  | _,.ty _,_,_,d=> by simp [W.dat] at d
  | 0,.emp,_,_,d=> by simp [W.dat] at d
  | n+1,.emp,v,r,d=> by
    obtain ⟨a,rfl,e⟩:=Rep.of_emp (K:=K) (H:=H) r
    simp only [W.pd]
    exact .tup e.sq .nil
end
theorem VR.dp {K:PySem.W.Frag} {H:Hp} {a:Vw} {v:V} {n:Nat} (r:VR K H a v) (d:a.toW.dat n=true) (nb:a≠ .bad):Dp K H v a.toW.pd:=by
  cases a with
  | wv w=> exact Rep.dp n w v r d
  | bad=> exact absurd rfl nb
  | cv c=>
    cases c with
    | map kvs=> simp [Vw.toW,Cont.fz,W.dat] at d
    | seq ws=>
      obtain ⟨p,rfl,vs,e,r⟩:=r
      have d:(W.lst ws).dat n=true:=d
      cases n with
      | zero=> simp [W.dat] at d
      | succ n=>
        simp only [W.dat] at d
        show Dp K H _ (W.lst ws).pd
        simp only [W.pd]
        exact .lst (n4 (.inl e)) (RepL.dp (Rep.dp n) ws vs r d)
def M1 (a b:W):Bool:=PyData.eqv a.pd b.pd
def Vw.ok:Vw→Bool
  | .bad=> false
  | v=> v.toW.dat 60
theorem Vw.of_ok {a:Vw} (h:a.ok=true):a.toW.dat 60=true∧a≠ .bad:=by
  cases a with
  | bad=> cases h
  | wv w=> exact ⟨h,fun z=> nomatch z⟩
  | cv c=> exact ⟨h,fun z=> nomatch z⟩
def F0 (neg:Bool):L7:=fun a b Q=> a.ok=true∧b.ok=true∧Q (.val (.bl (if neg then !M1 a.toW b.toW else M1 a.toW b.toW)))
def B0U (K:PySem.W.Frag) (neg:Bool):R2:=fun x y H Q=> ∃d e,Dp K H x d∧Dp K H y e∧d.plain=true∧e.plain=true∧d.depth≤60∧Q (.bl (if neg then !PyData.eqv d e else PyData.eqv d e)) H
theorem A9P {K:PySem.W.Frag} {neg:Bool}:OpA K (B0U K neg) (F0 neg):=
  ⟨fun a b Q Q' k ⟨x,y,q⟩=> ⟨x,y,k _ q⟩,fun a b x y H Q0 Q ra rb ⟨da,db,q⟩ k=>
    ⟨_,_,ra.dp (Vw.of_ok da).1 (Vw.of_ok da).2,rb.dp (Vw.of_ok db).1 (Vw.of_ok db).2,W.pd_plain _,W.pd_plain _,W.dat_depth _ _ (Vw.of_ok da).1,k _ _ (.val q .bl)⟩⟩
section
variable {X:Cx} {G:Gx} {a b c:Expr} {ta tb tc:AT} {pos:Pos}
theorem B4V (hu:X.A.units+64 < cLine):OpR X (compareOp .Eq) (B0U X.K false):=fun pins s σ H x y v u Q I rx ry ⟨d,e,hd,he,pd,pe,dp,q⟩=> by
  obtain ⟨as,r1⟩:=Dp.reads I d x v hd rx
  obtain ⟨bs,r2⟩:=Dp.reads I e y u he ry
  have z:=Nat.min_le_left d.depth e.depth
  exact SeqAt.eq_plain r1 r2 pd pe (by omega) ⟨.bl _,H,I,rfl,q⟩
theorem C2E (hu:X.A.units+64 < cLine):OpR X (compareOp .NotEq) (B0U X.K true):=fun pins s σ H x y v u Q I rx ry ⟨d,e,hd,he,pd,pe,dp,q⟩=> by
  obtain ⟨as,r1⟩:=Dp.reads I d x v hd rx
  obtain ⟨bs,r2⟩:=Dp.reads I e y u he ry
  have z:=Nat.min_le_left d.depth e.depth
  exact SeqAt.ne_plain r1 r2 pd pe (by omega) ⟨.bl _,H,I,rfl,q⟩
theorem A3P (gk:G.K=X.K) (hu:X.A.units+64 < cLine) (ha:AE X G a ta) (hb:AE X G b tb):AE X G (.Compare a [.Eq] [b] pos) (aOp2 (F0 false) ta tb):=A6k (B4V hu) (gk▸A9P) ha hb (nomark _)
end
end Ab
namespace Ab
open PySem PySem.Spec PyProof.Rows L2
def Vw.isNon:Vw→Bool
  | .wv .non=> true
  | _=> false
def O3 (neg:Bool):L7:=fun a b Q=> b= .wv .non∧a≠ .bad∧Q (.val (.bl (if neg then !a.isNon else a.isNon)))
theorem VR.isN {K:PySem.W.Frag} {H:Hp}:∀{a:Vw} {v:V},VR K H a v→a≠ .bad→decide (v= .non)=a.isNon
  | .bad,_,_,nb=> absurd rfl nb
  | .cv c,v,r,_=> by obtain ⟨p,e,_⟩:=r;subst e;rfl
  | .wv .non,v,r,_=> by have e:=r.non;subst e;rfl
  | .wv (.bl b),v,r,_=> by have e:=r.bl;subst e;rfl
  | .wv (.int b),v,r,_=> by have e:=r.int;subst e;rfl
  | .wv (.str b),v,r,_=> by have e:=r.str;subst e;rfl
  | .wv (.tup b),v,r,_=> by obtain ⟨p,vs,e,_⟩:=Rep.of_tup (K:=K) (H:=H) r;subst e;rfl
  | .wv (.lst b),v,r,_=> by obtain ⟨p,vs,e,_⟩:=Rep.of_lst (K:=K) (H:=H) r;subst e;rfl
  | .wv (.ref a),v,r,_=> by have e:=Rep.of_ref (K:=K) (H:=H) r;subst e;rfl
  | .wv (.ty a),v,r,_=> by have e:=Rep.of_ty (K:=K) (H:=H) r;subst e;rfl
  | .wv .emp,v,r,_=> by obtain ⟨a,e,_⟩:=Rep.of_emp (K:=K) (H:=H) r;subst e;rfl
  | .wv (.dct ks vs),v,r,_=> by
    have z:Rep K H (.dct ks vs) v:=r
    simp only [Rep] at z
    obtain ⟨p,e,_⟩:=z;subst e;rfl
theorem B37 {K:PySem.W.Frag}:OpA K (fun x y H Q=> y= .non∧Q (.bl (decide (x= .non))) H) (O3 false):=
  ⟨fun a b Q Q' k ⟨x,y,q⟩=> ⟨x,y,k _ q⟩,fun a b x y H Q0 Q ra rb ⟨e,nb,q⟩ k=> by
    subst e
    refine ⟨rb.non,k _ _ (.val q ?_)⟩
    rw [ra.isN nb]
    exact .bl⟩
theorem B83 {K:PySem.W.Frag}:OpA K (fun x y H Q=> y= .non∧Q (.bl (!decide (x= .non))) H) (O3 true):=
  ⟨fun a b Q Q' k ⟨x,y,q⟩=> ⟨x,y,k _ q⟩,fun a b x y H Q0 Q ra rb ⟨e,nb,q⟩ k=> by
    subst e
    refine ⟨rb.non,k _ _ (.val q ?_)⟩
    rw [ra.isN nb]
    exact .bl⟩
def Vw.items:Vw→Option (List W)
  | .wv (.lst xs)=> some xs
  | .wv (.tup xs)=> some xs
  | .cv (.seq xs)=> some xs
  | _=> none
theorem VR.itemsT {K:PySem.W.Frag} {H:Hp} {a:Vw} {v:V} {xs:List W} (r:VR K H a v) (e:a.items=some xs):∃p vs,v= .ref p∧(Rd H p (.lst vs)∨TqT K H p vs)∧RepL K H xs vs:=by
  cases a with
  | bad=> cases e
  | cv c=>
    cases c with
    | map _=> cases e
    | seq ws=> obtain ⟨p,vs,a,b,c⟩:=r.seq e;exact ⟨p,vs,a,.inl b,c⟩
  | wv w=>
    cases w with
    | lst ws=> obtain ⟨p,vs,a,b,c⟩:=r.seq e;exact ⟨p,vs,a,.inl b,c⟩
    | tup ws=> obtain ⟨p,vs,a,b,c⟩:=r.tplT e;exact ⟨p,vs,a,.inr b,c⟩
    | _=> cases e
theorem VR.items {K:PySem.W.Frag} {H:Hp} {a:Vw} {v:V} {xs:List W} (r:VR K H a v) (e:a.items=some xs):∃p vs,v= .ref p∧(Rd H p (.lst vs)∨SqT K H p vs)∧RepL K H xs vs:=let ⟨p,vs,q,s,r⟩:=r.itemsT e;⟨p,vs,q,s.imp id TqT.sq,r⟩
def o4 (x:W) (xs:List W):Bool:=xs.any fun y=> M1 y x
def V9 (neg:Bool):L7:=fun a b Q=> ∃xs,b.items=some xs∧a.ok=true∧xs.all (W.dat 60)=true∧Q (.val (.bl (if neg then !o4 a.toW xs else o4 a.toW xs)))
def B0a (K:PySem.W.Frag) (neg:Bool):R2:=fun x y H Q=> ∃p vs d ds,y= .ref p∧(SqL K H p vs∨SqT K H p vs)∧Dp K H x d∧DpAll K H vs ds∧d.plain=true∧PyData.plainAll ds=true∧d.depth≤60∧Q (.bl (if neg then !(ds.any fun y=> PyData.eqv y d) else ds.any fun y=> PyData.eqv y d)) H
theorem B3M (x:W):∀xs:List W,((W.pds xs).any fun y=> PyData.eqv y x.pd)=o4 x xs
  | []=> rfl
  | y::ys=> by
    simp only [W.pds,List.any_cons,o4]
    rw [B3M x ys];rfl
theorem B33 {K:PySem.W.Frag} {neg:Bool}:OpA K (B0a K neg) (V9 neg):=
  ⟨fun a b Q Q' k ⟨xs,x,y,z,q⟩=> ⟨xs,x,y,z,k _ q⟩,fun a b x y H Q0 Q ra rb ⟨xs,e,da,db,q⟩ k=> by
    obtain ⟨p,vs,rfl,hs,rv⟩:=rb.items e
    refine ⟨p,vs,_,_,rfl,hs.imp_left n4,ra.dp (Vw.of_ok da).1 (Vw.of_ok da).2,RepL.dp (Rep.dp 60) xs vs rv db,W.pd_plain _,W.pds_plain _,W.dat_depth _ _ (Vw.of_ok da).1,k _ _ (.val q ?_)⟩
    rw [B3M]
    exact .bl⟩
section
variable {X:Cx}
theorem B4P {pins:List (Addr×Obj)} {σ:L2.St} {H:Hp} {s:Shared} {p:Addr} {vs:List V} {ds:List PyData} (I:Inv X pins σ H s) (hq:SqL X.K H p vs∨SqT X.K H p vs) (hd:DpAll X.K H vs ds):(∃as,Reads s.heap (.ref p) (.list ds) as)∨∃as,Reads s.heap (.ref p) (.tuple ds) as:=by
  rcases hq with hq | hq
  · exact .inl (Dp.reads I (.list ds) (.ref p) (.ref p) (.lst hq hd) rfl)
  · exact .inr (Dp.reads I (.tuple ds) (.ref p) (.ref p) (.tup hq hd) rfl)
theorem C1f (hu:X.A.units+64 < cLine):OpR X (compareOp .In) (B0a X.K false):=fun pins s σ H x y v u Q I rx ry ⟨p,vs,d,ds,e,hq,hx,hd,pd,pe,dp,q⟩=> by
  subst e
  obtain rfl:u= .ref p:=ry
  obtain ⟨as,r1⟩:=Dp.reads I d x v hx rx
  have z:=Nat.min_le_right (PyData.depthAll ds) d.depth
  rcases B4P I hq hd with ⟨bs,r2⟩ | ⟨bs,r2⟩
  · exact SeqAt.in_list_data r2 r1 pe pd (by omega) ⟨.bl _,H,I,rfl,q⟩
  · exact SeqAt.in_tuple_data r2 r1 pe pd (by omega) ⟨.bl _,H,I,rfl,q⟩
theorem B8r (hu:X.A.units+64 < cLine):OpR X (compareOp .NotIn) (B0a X.K true):=fun pins s σ H x y v u Q I rx ry ⟨p,vs,d,ds,e,hq,hx,hd,pd,pe,dp,q⟩=> by
  subst e
  obtain rfl:u= .ref p:=ry
  obtain ⟨as,r1⟩:=Dp.reads I d x v hx rx
  have z:=Nat.min_le_right (PyData.depthAll ds) d.depth
  rcases B4P I hq hd with ⟨bs,r2⟩ | ⟨bs,r2⟩
  · exact SeqAt.notIn_list_data r2 r1 pe pd (by omega) ⟨.bl _,H,I,rfl,q⟩
  · exact SeqAt.notIn_tuple_data r2 r1 pe pd (by omega) ⟨.bl _,H,I,rfl,q⟩
end
def aTst (t:AT):G7:=fun env h Q=> t env h fun r env' h'=> match view env' h' r with
  | .wv (.bl b)=> Q b env' h'
  | _=> False
theorem aTst.mono {t:AT} (m:A9 t):A9 (aTst t):=fun env h Q Q' k q=> m env h _ _ (fun r e g z=> by
  show match view e g r with
    | .wv (.bl b)=> Q' b e g
    | _=> False
  have z:match view e g r with
    | .wv (.bl b)=> Q b e g
    | _=> False:=z
  split at z
  · exact k _ _ _ z
  · exact z) q
def aAndT (t u:G7):G7:=fun env h Q=> t env h fun b env' h'=> if b=true then u env' h' Q else Q false env' h'
def aOrT (t u:G7):G7:=fun env h Q=> t env h fun b env' h'=> if b=true then Q true env' h' else u env' h' Q
def aNotT (t:G7):G7:=fun env h Q=> t env h fun b env' h'=> Q (!b) env' h'
def aIfE (t:G7) (a b:AT):AT:=fun env h Q=> t env h fun c env' h'=> if c=true then a env' h' Q else b env' h' Q
theorem aAndT.mono {t u:G7} (m:A9 t) (n:A9 u):A9 (aAndT t u):=fun env h Q Q' k q=> m env h _ _ (fun b e g z=> by
  cases b with
  | true=> exact iteT (n e g _ _ k (by simpa using z))
  | false=> exact iteF (k _ _ _ (by simpa using z))) q
theorem aOrT.mono {t u:G7} (m:A9 t) (n:A9 u):A9 (aOrT t u):=fun env h Q Q' k q=> m env h _ _ (fun b e g z=> by
  cases b with
  | true=> exact iteT (k _ _ _ (by simpa using z))
  | false=> exact iteF (n e g _ _ k (by simpa using z))) q
theorem aNotT.mono {t:G7} (m:A9 t):A9 (aNotT t):=fun env h Q Q' k q=> m env h _ _ (fun b e g z=> k _ _ _ z) q
theorem aIfE.mono {t:G7} {a b:AT} (m:A9 t) (n:A9 a) (o:A9 b):A9 (aIfE t a b):=fun env h Q Q' k q=> m env h _ _ (fun c e g z=> by
  cases c with
  | true=> exact iteT (n e g _ _ k (by simpa using z))
  | false=> exact iteF (o e g _ _ k (by simpa using z))) q
section
variable {X:Cx} {G:Gx} {a b c:Expr} {ta tb tc:AT} {t u:G7} {pos:Pos} {rest:List Expr}
theorem C2T (h:AE X G a ta) (hv:∀t:TE,PE X a t→PT X a (tTest t)):AP X G a (aTst ta):=by
  refine ⟨aTst.mono h.mono,PT.imp (hv _ h.pe) fun σ H Q ⟨env,k,S,q⟩=> ?_⟩
  refine ⟨env,k,S,h.mono env k _ _ (fun r env1 h1 z v H1 S1 x1 r1 f1=> ?_) q⟩
  have r2:=r1.vr S1
  split at z
  · rename_i b e
    rw [e] at r2
    exact ⟨b,r2.bl,z H1 S1 x1⟩
  · exact z.elim
theorem A0y {op:CmpOp} {r:R2} {o:L7} (ho:OpR X (compareOp op) r) (oa:OpA G.K r o) (ha:AE X G a ta) (hb:AE X G b tb) (hm:behindInMarks op b=false):AP X G (.Compare a [op] [b] pos) (aTst (aOp2 o ta tb)):=by
  refine ⟨aTst.mono (aOp2.mono oa ha.mono hb.mono),PT.imp (pt_cmpR ho ha.pe hb.pe hm) fun σ H Q ⟨env,k,S,q⟩=> ?_⟩
  refine A6K ha.mono hb.mono oa ⟨env,k,S,aOp2.mono oa ha.mono hb.mono env k _ _ (fun r env1 h1 z v H1 S1 x1 r1 f1=> ?_) q⟩
  have r2:=r1.vr S1
  split at z
  · rename_i b e
    rw [e] at r2
    exact ⟨b,r2.bl,z H1 S1 x1⟩
  · exact z.elim
theorem A2V (h:AP X G a t):AP X G (.UnaryOp .Not a pos) (aNotT t):=
  ⟨aNotT.mono h.mono,PT.imp (pt_not h.pt) fun σ H Q ⟨env,k,S,q⟩=> ⟨env,k,S,q⟩⟩
structure AW (X:Cx) (G:Gx) (e:Expr) (t:G7):Prop where
  mono:A9 t
  pw:PW X e (cT G t)
theorem PW.imp {e:Expr} {t t':TT} (h:PW X e t) (i:∀σ H Q,t' σ H Q→t σ H Q):PW X e t':=⟨fun w pins s σ H Q I q=> h.run w pins s σ H Q I (i σ H Q q)⟩
theorem AW.ap (h:AW X G a t):AP X G a t:=⟨h.mono,h.pw.pt⟩
theorem C0e (h:AP X G a t):AW X G (.BoolOp .And [a] pos) t:=⟨h.mono,pw_and1 h.pt⟩
theorem A4n (h:AP X G a t):AW X G (.BoolOp .Or [a] pos) t:=⟨h.mono,pw_or1 h.pt⟩
theorem B9F {σ:L2.St} {H:Hp} {Q:Bool→Hp→Prop} (mt:A9 t) (mu:A9 u) (q:cT G (aAndT t u) σ H Q):tAnd (cT G t) (cT G u) σ H Q:=by
  obtain ⟨env,k,S,q⟩:=q
  refine ⟨env,k,S,mt env k _ _ (fun b env1 h1 z H1 S1 x1=> ?_) q⟩
  cases b with
  | true=>
    rw [if_pos rfl] at z
    exact iteT ⟨env1,h1,S1,mu env1 h1 _ _ (fun c env2 h2 z2 H2 S2 x2=> z2 H2 S2 (x1.trans x2)) z⟩
  | false=>
    rw [if_neg Bool.false_ne_true] at z ⊢
    exact z H1 S1 x1
theorem C03 {σ:L2.St} {H:Hp} {Q:Bool→Hp→Prop} (mt:A9 t) (mu:A9 u) (q:cT G (aOrT t u) σ H Q):tOr (cT G t) (cT G u) σ H Q:=by
  obtain ⟨env,k,S,q⟩:=q
  refine ⟨env,k,S,mt env k _ _ (fun b env1 h1 z H1 S1 x1=> ?_) q⟩
  cases b with
  | false=>
    rw [if_neg Bool.false_ne_true] at z
    exact iteF ⟨env1,h1,S1,mu env1 h1 _ _ (fun c env2 h2 z2 H2 S2 x2=> z2 H2 S2 (x1.trans x2)) z⟩
  | true=>
    rw [if_pos rfl] at z ⊢
    exact z H1 S1 x1
theorem C1p (ha:AP X G a t) (hb:AW X G (.BoolOp .And (b::rest) pos) u):AW X G (.BoolOp .And (a::b::rest) pos) (aAndT t u):=
  ⟨aAndT.mono ha.mono hb.mono,PW.imp (pw_and ha.pt hb.pw) fun _ _ _ q=> B9F ha.mono hb.mono q⟩
theorem A4x (ha:AP X G a t) (hb:AW X G (.BoolOp .Or (b::rest) pos) u):AW X G (.BoolOp .Or (a::b::rest) pos) (aOrT t u):=
  ⟨aOrT.mono ha.mono hb.mono,PW.imp (pw_or ha.pt hb.pw) fun _ _ _ q=> C03 ha.mono hb.mono q⟩
theorem A4y (hc:AP X G c t) (ha:AE X G a ta) (hb:AE X G b tb):AE X G (.IfExp c a b pos) (aIfE t ta tb):=by
  refine ⟨aIfE.mono hc.mono ha.mono hb.mono,PE.imp (pe_ifExp hc.pt ha.pe hb.pe) fun σ H Q ⟨env,k,S,q⟩=> ?_⟩
  refine ⟨env,k,S,hc.mono env k _ _ (fun d env1 h1 z H1 S1 x1=> ?_) q⟩
  have fin:∀{t:AT},A9 t→t env1 h1 (fun r env2 h2=> ∀v H',BS G env2 h2 σ H'→Xt env k σ H env2 h2 H'→RvRep G env2 h2 σ H' r v→Q9 H r v→Q v H')→cE G t σ H1 Q:=fun m y=>
    ⟨env1,h1,S1,m env1 h1 _ _ (fun r env2 h2 z2 v H2 S2 x2 r2 f2=> z2 v H2 S2 (x1.trans x2) r2 (by
      cases r with
      | own c=> exact fun p e=> x1.fresh (f2 p e)
      | _=> trivial)) y⟩
  cases d with
  | true=> exact iteT (fin ha.mono (by simpa using z))
  | false=> exact iteF (fin hb.mono (by simpa using z))
end
end Ab
namespace Ab
open PySem PySem.Spec PyProof.Rows L2
theorem RepL.atI {K:PySem.W.Frag} {H:Hp} {ws:List W} {vs:List V} {i:Int} {w:W} (r:RepL K H ws vs) (e:L2.atI ws i=some w):∃v,L2.atI vs i=some v∧Rep K H w v:=by
  unfold L2.atI at e ⊢
  rw [←r.length]
  cases q:ixN ws.length i with
  | none=> rw [q] at e;cases e
  | some j=>
    rw [q] at e
    exact r.get (i:=j) e
def oIx:L7:=fun a b Q=> match b with
  | .wv (.int i)=> match a with
    | .wv (.str x)=> x.length≤sizeLine∧∃c,L2.atI x.cps.toList i=some c∧Q (.val (.str ⟨#[c]⟩))
    | a=> ∃xs w,a.items=some xs∧L2.atI xs i=some w∧Q (.val w)
  | _=> False
theorem oIx.mono (a b:Vw) (Q Q':RV→Prop) (k:∀r,Q r→Q' r) (q:oIx a b Q):oIx a b Q':=by
  unfold oIx at q ⊢
  split at q
  · split at q
    · obtain ⟨z,c,e,q⟩:=q;exact ⟨z,c,e,k _ q⟩
    · obtain ⟨xs,w,e,f,q⟩:=q;exact ⟨xs,w,e,f,k _ q⟩
  · exact q
theorem B4F {K:PySem.W.Frag}:OpA K (rIx K) oIx:=
  ⟨oIx.mono,fun a b x y H Q0 Q ra rb q k=> by
    unfold oIx at q
    split at q
    · rename_i i
      split at q
      · obtain ⟨z,c,e,q⟩:=q
        exact .inr (.inr ⟨_,i,c,ra.str,rb.int,z,e,k _ _ (.val q .str)⟩)
      · obtain ⟨xs,w,e,f,q⟩:=q
        obtain ⟨p,vs,rfl,hs,rv⟩:=ra.items e
        obtain ⟨v,g,r⟩:=rv.atI f
        rcases hs with hs | hs
        · exact .inl ⟨p,vs,i,v,rfl,rb.int,n4 hs,g,k _ _ (.val q r)⟩
        · exact .inr (.inl ⟨p,vs,i,v,rfl,rb.int,hs,g,k _ _ (.val q r)⟩)
    · exact q.elim⟩
section
variable {X:Cx} {G:Gx} {a b c:Expr} {ta tb tc:AT} {pos:Pos}
theorem L9 (gk:G.K=X.K) (ha:AE X G a ta) (hb:AE X G b tb) (hs:PlainIx b):AE X G (.Subscript a b pos) (aOp2 oIx ta tb):=
  ⟨aOp2.mono (B4F (K:=G.K)) ha.mono hb.mono,PE.imp (pe_ix ix_seq ha.pe hb.pe hs) fun _ _ _ q=> A6K ha.mono hb.mono (gk▸B4F) q⟩
end
abbrev AOT:=A0→AH→(Option Int→A0→AH→Prop)→Prop
def cO (G:Gx) (t:AOT):TO:=fun σ H Q=> ∃env h,BS G env h σ H∧t env h fun o env' h'=> ∀H',BS G env' h' σ H'→Xt env h σ H env' h' H'→Q o H'
structure AOp (X:Cx) (G:Gx) (e:Option Expr) (t:AOT):Prop where
  mono:A9 t
  po:PO X e (cO G t)
def A6a:AOT:=fun env h Q=> Q none env h
def A61 (t:AT):AOT:=fun env h Q=> t env h fun r env' h'=> match view env' h' r with
  | .wv (.int i)=> Q (some i) env' h'
  | _=> False
theorem PO.imp {X:Cx} {e:Option Expr} {t t':TO} (h:PO X e t) (i:∀σ H Q,t' σ H Q→t σ H Q):PO X e t':=⟨fun pins s σ H Q I q=> h.run pins s σ H Q I (i σ H Q q)⟩
section
variable {X:Cx} {G:Gx} {a b c:Expr} {ta tb tc:AT} {pos p2:Pos} {lo hi:Option Expr} {tl th:AOT}
theorem B3J:AOp X G none A6a:=⟨fun env h Q Q' k q=> k _ _ _ q,PO.imp po_none fun σ H Q ⟨env,h,S,q⟩=> q H S .refl⟩
theorem B3L (ha:AE X G a ta):AOp X G (some a) (A61 ta):=by
  refine ⟨fun env h Q Q' k q=> ha.mono env h _ _ (fun r e g z=> ?_) q,PO.imp (po_some ha.pe) fun σ H Q ⟨env,h,S,q⟩=> ?_⟩
  · split at z
    · exact k _ _ _ z
    · exact z
  · refine ⟨env,h,S,ha.mono env h _ _ (fun r env1 h1 z v H1 S1 x1 r1 f1=> ?_) q⟩
    have r2:=r1.vr S1
    split at z
    · rename_i i e
      rw [e] at r2
      exact ⟨i,r2.int,z H1 S1 x1⟩
    · exact z.elim
def j7 (xs:List W) (lo hi:Option Int):List W:=(xs.drop (HT.sIx xs.length 0 lo)).take (HT.sIx xs.length xs.length hi - HT.sIx xs.length 0 lo)
def oSl (a:Vw) (lo hi:Option Int) (Q:RV→Prop):Prop:=match a with
  | .wv (.str x)=> x.length≤sizeLine∧Q (.val (.str (Txt.slice x lo hi)))
  | .wv (.tup xs)=> Q (.val (.tup (j7 xs lo hi)))
  | .wv (.lst xs)=> Q (.own (.seq (j7 xs lo hi)))
  | .cv (.seq xs)=> Q (.own (.seq (j7 xs lo hi)))
  | _=> False
theorem oSl.mono {a:Vw} {lo hi:Option Int} {Q Q':RV→Prop} (k:∀r,Q r→Q' r) (q:oSl a lo hi Q):oSl a lo hi Q':=by
  unfold oSl at q ⊢
  split at q <;> first | exact ⟨q.1,k _ q.2⟩ | exact k _ q | exact q.elim
def aSl (ta:AT) (tl th:AOT):AT:=fun env h Q=> ta env h fun r env1 h1=> tl env1 h1 fun lo env2 h2=> th env2 h2 fun hi env3 h3=> oSl (view env3 h3 r) lo hi fun r=> Q r env3 h3
theorem RepL.cut {K:PySem.W.Frag} {H:Hp} {ws:List W} {vs:List V} (r:RepL K H ws vs) (lo hi:Option Int):RepL K H (j7 ws lo hi) (cutV vs lo hi):=by
  unfold j7 cutV
  rw [←r.length]
  exact (r.drop _).take _
theorem B8j {ws:List W} {lo hi:Option Int} (h:HT.sIx ws.length 0 lo=0∧HT.sIx ws.length ws.length hi=ws.length):j7 ws lo hi=ws:=by
  unfold j7
  rw [h.1,h.2]
  simp
theorem B2Y (gk:G.K=X.K) (ha:AE X G a ta) (hl:AOp X G lo tl) (hu:AOp X G hi th):AE X G (.Subscript a (.Slice lo hi none p2) pos) (aSl ta tl th):=by
  refine ⟨fun env h Q Q' k q=> ha.mono env h _ _ (fun r e g z=> hl.mono e g _ _ (fun l e g z=> hu.mono e g _ _ (fun u e g z=> oSl.mono (fun r q=> k _ _ _ q) z) z) z) q,PE.imp (pe_slice ((C8.sl_txt.or sl_tupA).or sl_list) ha.pe hl.po hu.po) fun σ H Q ⟨env,h,S,q⟩=> ?_⟩
  refine ⟨env,h,S,ha.mono env h _ _ (fun r env1 h1 z v H1 S1 x1 r1 f1=> ?_) q⟩
  refine ⟨env1,h1,S1,hl.mono env1 h1 _ _ (fun l env2 h2 z H2 S2 x2=> ?_) z⟩
  refine ⟨env2,h2,S2,hu.mono env2 h2 _ _ (fun u env3 h3 z H3 S3 x3=> ?_) z⟩
  have rr:=((r1.xt S1 x2).xt S2 x3).vr S3
  have fin:∀{v:V} {H':Hp},OutR G.K H3 (fun r=> ∀v H',BS G env3 h3 σ H'→Xt env h σ H env3 h3 H'→RvRep G env3 h3 σ H' r v→Q9 H r v→Q v H') v H'→Q v H':=fun o=> by
    obtain ⟨res,q0,a,b,c,d⟩:=o.end S3 (x1.trans (x2.trans x3))
    exact q0 _ _ a b c d
  unfold oSl at z
  split at z
  · rename_i x e
    rw [e] at rr
    exact .inl (.inl ⟨x,rr.str,z.1,fin (.val z.2 .str)⟩)
  · rename_i xs e
    rw [e] at rr
    obtain ⟨p,vs,rfl,hs,rv⟩:=rr.tplT rfl
    refine .inl (.inr ⟨p,vs,rfl,gk▸hs.sq,fun y=> ?_,fun _ m n=> fin (.tup n z (rv.cut _ _))⟩)
    rw [←rv.length] at y
    rw [B8j y] at z
    exact fin (.val z (.tup hs rv))
  · rename_i xs e
    rw [e] at rr
    obtain ⟨p,vs,rfl,hs,rv⟩:=rr.seq rfl
    exact .inr ⟨p,vs,rfl,n4 hs,fun m n=> fin (.lst n z (rv.cut _ _))⟩
  · rename_i xs e
    rw [e] at rr
    obtain ⟨p,vs,rfl,hs,rv⟩:=rr.seq rfl
    exact .inr ⟨p,vs,rfl,n4 hs,fun m n=> fin (.lst n z (rv.cut _ _))⟩
  · exact z.elim
abbrev W1:=A0→AH→(List RV→A0→AH→Prop)→Prop
inductive RvL (G:Gx) (env:A0) (h:AH) (σ:L2.St) (H:Hp):List RV→List V→Prop where
  | nil:RvL G env h σ H [] []
  | cons {r:RV} {rs:List RV} {v:V} {vs:List V}:RvRep G env h σ H r v→RvL G env h σ H rs vs→RvL G env h σ H (r::rs) (v::vs)
def cR (G:Gx) (t:W1):TA:=fun σ H Q=> ∃env h,BS G env h σ H∧t env h fun rs env' h'=> ∀vs H',BS G env' h' σ H'→Xt env h σ H env' h' H'→RvL G env' h' σ H' rs vs→Q vs H'
structure AR (X:Cx) (G:Gx) (es:List Expr) (t:W1):Prop where
  mono:A9 t
  pa:PA X es (cR G t)
def I8:W1:=fun env h Q=> Q [] env h
def F9 (t:AT) (u:W1):W1:=fun env h Q=> t env h fun r env' h'=> u env' h' fun rs env2 h2=> Q (r::rs) env2 h2
theorem K2:AR X G [] I8:=⟨fun env h Q Q' k q=> k _ _ _ q,PA.imp pa_nil fun σ H Q ⟨env,h,S,q⟩=> q [] H S .refl .nil⟩
theorem G0 {e:Expr} {es:List Expr} {t:AT} {u:W1} (a:AE X G e t) (b:AR X G es u) (hs:starEach (e::es) X.env=(false,eval e X.env)::starEach es X.env:=by rfl):AR X G (e::es) (F9 t u):=by
  refine ⟨fun env h Q Q' k q=> a.mono env h _ _ (fun r e g z=> b.mono e g _ _ (fun rs e2 g2 z2=> k _ _ _ z2) z) q,PA.imp (pa_cons a.pe b.pa hs) fun σ H Q ⟨env,h,S,q⟩=> ?_⟩
  refine ⟨env,h,S,a.mono env h _ _ (fun r env1 h1 z v H1 S1 x1 r1 f1=> ?_) q⟩
  refine ⟨env1,h1,S1,b.mono env1 h1 _ _ (fun rs env2 h2 z vs H2 S2 x2 r2=> ?_) z⟩
  exact z (v::vs) H2 S2 (x1.trans x2) (.cons (r1.xt S1 x2) r2)
inductive VRL (K:PySem.W.Frag) (H:Hp):List Vw→List V→Prop where
  | nil:VRL K H [] []
  | cons {a:Vw} {as:List Vw} {v:V} {vs:List V}:VR K H a v→VRL K H as vs→VRL K H (a::as) (v::vs)
theorem RvL.vrl {env:A0} {h:AH} {σ:L2.St} {H:Hp} (S:BS G env h σ H) {rs:List RV} {vs:List V} (r:RvL G env h σ H rs vs):VRL G.K H (rs.map (view env h)) vs:=by
  induction r with
  | nil=> exact .nil
  | cons a _ ih=> exact .cons (a.vr S) ih
abbrev L4:=List Vw→(RV→Prop)→Prop
structure CallA (K:PySem.W.Frag) (r:List V→Hp→VK→Prop) (o:L4):Prop where
  mono:∀as Q Q',(∀r,Q r→Q' r)→o as Q→o as Q'
  ok:∀as vs H Q0 Q,VRL K H as vs→o as Q0→(∀v H',OutR K H Q0 v H'→Q v H')→r vs H Q
def aCB (o:L4) (t:W1):AT:=fun env h Q=> t env h fun rs env1 h1=> o (rs.map (view env1 h1)) fun r=> Q r env1 h1
theorem CallA.or {K:PySem.W.Frag} {r r':List V→Hp→VK→Prop} {o o':L4} (a:CallA K r o) (b:CallA K r' o'):CallA K (fun vs H Q=> r vs H Q∨r' vs H Q) (fun as Q=> o as Q∨o' as Q):=
  ⟨fun as Q Q' k q=> q.imp (a.mono as Q Q' k) (b.mono as Q Q' k),fun as vs H Q0 Q r q k=> q.imp (fun z=> a.ok as vs H Q0 Q r z k) fun z=> b.ok as vs H Q0 Q r z k⟩
theorem CallA.as {K:PySem.W.Frag} {r:List V→Hp→VK→Prop} {o o':L4} (a:CallA K r o) (i:∀as Q,o' as Q→o as Q) (m:∀as Q Q',(∀r,Q r→Q' r)→o' as Q→o' as Q'):CallA K r o':=⟨m,fun as vs H Q0 Q r q k=> a.ok as vs H Q0 Q r (i _ _ q) k⟩
theorem B3b {r:List V→Hp→VK→Prop} {o:L4} {t:W1} (ca:CallA G.K r o) (m:A9 t) {σ:L2.St} {H:Hp} {Q:VK} (q:cE G (aCB o t) σ H Q):tCB r (cR G t) σ H Q:=by
  obtain ⟨env,h,S,q⟩:=q
  refine ⟨env,h,S,m env h _ _ (fun rs env1 h1 z vs H1 S1 x1 r1=> ?_) q⟩
  refine ca.ok _ _ _ _ _ (r1.vrl S1) z fun v H2 out=> ?_
  obtain ⟨res,q0,a,b,c,d⟩:=out.end S1 x1
  exact q0 v H2 a b c d
theorem aCB.mono {r:List V→Hp→VK→Prop} {o:L4} {t:W1} (ca:CallA G.K r o) (m:A9 t):A9 (aCB o t):=fun env h Q Q' k q=> m env h _ _ (fun rs e g z=> ca.mono _ _ _ (fun r q=> k _ _ _ q) z) q
theorem N2 {id:String} {x:Str} {e:Expr} {es:List Expr} {p:Pos} {r:List V→Hp→VK→Prop} {o:L4} {t:W1} (hc:CallR X (.builtin id) r) (ca:CallA G.K r o) (hg:Gl X x) (hm:X.mg x=none) (hv:bootBuiltins x=some (.builtin id)) (ha:AR X G (e::es) t)
    (hn:x≠"__name__":=by decide) (hdb:(x==("__debug__":Str))=false:=by decide) (he:starEach (e::es) X.env=(false,eval e X.env)::starEach es X.env:=by rfl) (hpl:(backTo pos (starEach es X.env)).any (·.1)=false:=by rfl):
    AE X G (.Call (.Name x p) (e::es) [] pos) (aCB o t):=
  ⟨aCB.mono ca ha.mono,PE.imp (pe_callB hc hg hm hv ha.pa hn hdb he hpl) fun _ _ _ q=> B3b ca ha.mono q⟩
theorem A2v {T:String} {x:Str} {e:Expr} {es:List Expr} {p:Pos} {r:List V→Hp→VK→Prop} {o:L4} {t:W1} (hc:CallR X (.type T) r) (ca:CallA G.K r o) (hg:Gl X x) (hm:X.mg x=none) (hv:bootBuiltins x=some (.type T)) (ha:AR X G (e::es) t)
    (hn:x≠"__name__":=by decide) (hdb:(x==("__debug__":Str))=false:=by decide) (he:starEach (e::es) X.env=(false,eval e X.env)::starEach es X.env:=by rfl) (hpl:(backTo pos (starEach es X.env)).any (·.1)=false:=by rfl):
    AE X G (.Call (.Name x p) (e::es) [] pos) (aCB o t):=
  ⟨aCB.mono ca ha.mono,PE.imp (pe_callTy hc hg hm hv ha.pa hn hdb he hpl) fun _ _ _ q=> B3b ca ha.mono q⟩
end
theorem VRL.one {K:PySem.W.Frag} {H:Hp} {a:Vw} {vs:List V} (r:VRL K H [a] vs):∃v,vs=[v]∧VR K H a v:=by
  cases r with
  | cons r t=> cases t;exact ⟨_,rfl,r⟩
theorem VRL.two {K:PySem.W.Frag} {H:Hp} {a b:Vw} {vs:List V} (r:VRL K H [a,b] vs):∃v u,vs=[v,u]∧VR K H a v∧VR K H b u:=by
  cases r with
  | cons r t=> obtain ⟨u,rfl,q⟩:=t.one;exact ⟨_,u,rfl,r,q⟩
def G4:L4:=fun as Q=> match as with
  | [.wv (.str x)]=> x.length≤sizeLine∧Q (.val (.int x.length))
  | [.wv .emp]=> Q (.val (.int 0))
  | [a]=> ∃xs,a.items=some xs∧Q (.val (.int xs.length))
  | _=> False
theorem Y4 {K:PySem.W.Frag}:CallA K (fun xs H Q=> ∃x n,xs=[x]∧LenV K x H n∧Q (.int n) H) G4:=
  ⟨fun as Q Q' k q=> by
    unfold G4 at q ⊢
    split at q
    · exact ⟨q.1,k _ q.2⟩
    · exact k _ q
    · obtain ⟨xs,e,q⟩:=q;exact ⟨xs,e,k _ q⟩
    · exact q,fun as vs H Q0 Q r q k=> by
    unfold G4 at q
    split at q
    · obtain ⟨v,rfl,r1⟩:=r.one
      cases r1.str
      exact ⟨_,_,rfl,⟨q.1,rfl⟩,k _ _ (.val q.2 .int)⟩
    · obtain ⟨v,rfl,r1⟩:=r.one
      obtain ⟨a,rfl,e⟩:=Rep.of_emp (K:=K) (H:=H) r1
      exact ⟨_,0,rfl,.inr ⟨[],e.sq,rfl⟩,k _ _ (.val q .int)⟩
    · obtain ⟨v,rfl,r1⟩:=r.one
      obtain ⟨xs,e,q⟩:=q
      obtain ⟨p,us,rfl,hs,rv⟩:=r1.items e
      refine ⟨_,us.length,rfl,?_,k _ _ (.val q (by rw [rv.length];exact .int))⟩
      rcases hs with hs | hs
      · exact .inl ⟨us,n4 hs,rfl⟩
      · exact .inr ⟨us,hs,rfl⟩
    · exact q.elim⟩
def o2I (g:Int→Int→Int):L4:=fun as Q=> match as with
  | [.wv (.int i),.wv (.int j)]=> Q (.val (.int (g i j)))
  | _=> False
def o1I (g:Int→Int):L4:=fun as Q=> match as with
  | [.wv (.int i)]=> Q (.val (.int (g i)))
  | _=> False
def oInts (g:List Int→(RV→Prop)→Prop):L4:=fun as Q=> match as with
  | [a]=> ∃ns:List Int,a.seq=some (ns.map W.int)∧g ns Q
  | _=> False
theorem oInts.mono {g:List Int→(RV→Prop)→Prop} (m:∀ns Q Q',(∀r,Q r→Q' r)→g ns Q→g ns Q') (as:List Vw) (Q Q':RV→Prop) (k:∀r,Q r→Q' r) (q:oInts g as Q):oInts g as Q':=by
  unfold oInts at q ⊢
  split at q
  · obtain ⟨ns,e,q⟩:=q;exact ⟨ns,e,m _ _ _ k q⟩
  · exact q
theorem oInts.get {K:PySem.W.Frag} {H:Hp} {g:List Int→(RV→Prop)→Prop} {as:List Vw} {vs:List V} {Q:RV→Prop} (r:VRL K H as vs) (q:oInts g as Q):∃p ns,vs=[.ref p]∧SqL K H p (ns.map V.int)∧g ns Q:=by
  unfold oInts at q
  split at q
  · obtain ⟨v,rfl,r1⟩:=r.one
    obtain ⟨ns,e,q⟩:=q
    obtain ⟨p,us,rfl,hs,rv⟩:=r1.seq e
    rw [rv.of_ints] at hs
    exact ⟨p,ns,rfl,n4 hs,q⟩
  · exact q.elim
def oBls (g:List Bool→Bool):L4:=fun as Q=> match as with
  | [a]=> ∃bs:List Bool,a.seq=some (bs.map W.bl)∧Q (.val (.bl (g bs)))
  | _=> False
theorem oBls.mono {g:List Bool→Bool} (as:List Vw) (Q Q':RV→Prop) (k:∀r,Q r→Q' r) (q:oBls g as Q):oBls g as Q':=by
  unfold oBls at q ⊢
  split at q
  · obtain ⟨ns,e,q⟩:=q;exact ⟨ns,e,k _ q⟩
  · exact q
theorem oBls.get {K:PySem.W.Frag} {H:Hp} {g:List Bool→Bool} {as:List Vw} {vs:List V} {Q:RV→Prop} (r:VRL K H as vs) (q:oBls g as Q):∃p bs,vs=[.ref p]∧SqL K H p (bs.map V.bl)∧Q (.val (.bl (g bs))):=by
  unfold oBls at q
  split at q
  · obtain ⟨v,rfl,r1⟩:=r.one
    obtain ⟨ns,e,q⟩:=q
    obtain ⟨p,us,rfl,hs,rv⟩:=r1.seq e
    rw [rv.of_bls] at hs
    exact ⟨p,ns,rfl,n4 hs,q⟩
  · exact q.elim
theorem C2a {K:PySem.W.Frag}:CallA K (rAny K) (oBls fun bs=> bs.any id):=
  ⟨oBls.mono,fun as vs H Q0 Q r q k=> by
    obtain ⟨p,ns,rfl,hs,q⟩:=oBls.get r q
    exact ⟨p,ns,rfl,hs,k _ _ (.val q .bl)⟩⟩
theorem B4L {K:PySem.W.Frag}:CallA K (rAll K) (oBls fun bs=> bs.all id):=
  ⟨oBls.mono,fun as vs H Q0 Q r q k=> by
    obtain ⟨p,ns,rfl,hs,q⟩:=oBls.get r q
    exact ⟨p,ns,rfl,hs,k _ _ (.val q .bl)⟩⟩
def d0:L4:=fun as Q=> match as with
  | [a]=> ∃xs,a.items=some xs∧Q (.val (.tup xs))
  | _=> False
theorem C1e {K:PySem.W.Frag}:CallA K (fun xs H Q=> ∃p ys,xs=[.ref p]∧((SqL K H p ys∧∀l,H l=none→Q (.ref l) (upd H l (.tup ys)))∨(SqT K H p ys∧Q (.ref p) H))) d0:=
  ⟨fun as Q Q' k q=> by
    unfold d0 at q ⊢
    split at q
    · obtain ⟨xs,e,q⟩:=q;exact ⟨xs,e,k _ q⟩
    · exact q,fun as vs H Q0 Q r q k=> by
    unfold d0 at q
    split at q
    · obtain ⟨v,rfl,r1⟩:=r.one
      obtain ⟨xs,e,q⟩:=q
      obtain ⟨p,us,rfl,hs,rv⟩:=r1.itemsT e
      refine ⟨p,us,rfl,?_⟩
      rcases hs with hs | hs
      · exact .inl ⟨n4 hs,fun l n=> k _ _ (.tup n q rv)⟩
      · exact .inr ⟨hs.sq,k _ _ (.val q (.tup hs rv))⟩
    · exact q.elim⟩
def Q7:L4:=fun as Q=> match as with
  | [a]=> ∃xs,a.items=some xs∧Q (.own (.seq xs))
  | _=> False
theorem A6f {K:PySem.W.Frag}:CallA K (fun xs H Q=> ∃p ys,xs=[.ref p]∧(SqL K H p ys∨SqT K H p ys)∧∀l,H l=none→Q (.ref l) (upd H l (.lst ys))) Q7:=
  ⟨fun as Q Q' k q=> by
    unfold Q7 at q ⊢
    split at q
    · obtain ⟨xs,e,q⟩:=q;exact ⟨xs,e,k _ q⟩
    · exact q,fun as vs H Q0 Q r q k=> by
    unfold Q7 at q
    split at q
    · obtain ⟨v,rfl,r1⟩:=r.one
      obtain ⟨xs,e,q⟩:=q
      obtain ⟨p,us,rfl,hs,rv⟩:=r1.items e
      exact ⟨p,us,rfl,hs.imp_left n4,fun l n=> k _ _ (.lst n q rv)⟩
    · exact q.elim⟩
def W.tyName:W→Option String
  | .non=> some "NoneType"
  | .bl _=> some "bool"
  | .int _=> some "int"
  | .str _=> some "str"
  | .tup _=> some "tuple"
  | .lst _=> some "list"
  | _=> none
def Vw.tyName:Vw→Option String
  | .wv w=> w.tyName
  | .cv (.seq _)=> some "list"
  | _=> none
def A1D:String→String→Option Bool
  | "NoneType","bool"=> some false
  | "NoneType","int"=> some false
  | "NoneType","str"=> some false
  | "NoneType","tuple"=> some false
  | "NoneType","list"=> some false
  | "bool","bool"=> some true
  | "bool","int"=> some true
  | "bool","str"=> some false
  | "bool","tuple"=> some false
  | "bool","list"=> some false
  | "int","bool"=> some false
  | "int","int"=> some true
  | "int","str"=> some false
  | "int","tuple"=> some false
  | "int","list"=> some false
  | "str","bool"=> some false
  | "str","int"=> some false
  | "str","str"=> some true
  | "str","tuple"=> some false
  | "str","list"=> some false
  | "tuple","bool"=> some false
  | "tuple","int"=> some false
  | "tuple","str"=> some false
  | "tuple","tuple"=> some true
  | "tuple","list"=> some false
  | "list","bool"=> some false
  | "list","int"=> some false
  | "list","str"=> some false
  | "list","tuple"=> some false
  | "list","list"=> some true
  | _,_=> none
def F4:L4:=fun as Q=> match as with
  | [a,.wv (.ty T)]=> ∃n b,a.tyName=some n∧A1D n T=some b∧Q (.val (.bl b))
  | _=> False
theorem VR.tyX {K:PySem.W.Frag} {H:Hp}:∀{a:Vw} {v:V} {n:String},VR K H a v→a.tyName=some n→(∀ws,a≠ .wv (.tup ws))→TyX K H v (.type n)
  | .bad,_,_,_,e,_=> by cases e
  | .cv (.seq ws),_,_,r,e,_=> by cases e;obtain ⟨p,rfl,vs,l,_⟩:=r;exact .base (.lst l)
  | .cv (.map _),_,_,_,e,_=> by cases e
  | .wv .non,_,_,r,e,_=> by cases e;cases r.non;exact .base .non
  | .wv (.bl _),_,_,r,e,_=> by cases e;cases r.bl;exact .base (.bl _)
  | .wv (.int _),_,_,r,e,_=> by cases e;cases r.int;exact .base (.int _)
  | .wv (.str _),_,_,r,e,_=> by cases e;cases r.str;exact .base (.str _)
  | .wv (.tup ws),_,_,_,_,h=> absurd rfl (h ws)
  | .wv (.lst ws),_,_,r,e,_=> by cases e;obtain ⟨p,vs,rfl,⟨o,l⟩,_⟩:=Rep.of_lst (K:=K) (H:=H) r;exact .base (.frz l)
  | .wv (.dct _ _),_,_,_,e,_=> by cases e
  | .wv (.ref _),_,_,_,e,_=> by cases e
  | .wv (.ty _),_,_,_,e,_=> by cases e
  | .wv .emp,_,_,_,e,_=> by cases e
end Ab
namespace Ab
open PySem PySem.Spec PyProof.Rows L2
theorem C0S {K:PySem.W.Frag} {n T:String} {b:Bool} (h:A1D n T=some b):PySem.W.kitOne K (.type n) (.type T)=some b:=by
  unfold A1D at h
  split at h
  all_goals first
    | (cases h;exact kit_ty (by decide+kernel))
    | cases h
theorem C15 {K:PySem.W.Frag} {H:Hp} {a:Addr} {vs:List V} (h:SqT K H a vs):TyX K H (.ref a) (.type "tuple"):=by
  rcases h with (h | ⟨o,h⟩) | ⟨o,its,n,e,c,_⟩
  · exact .base (.tup h)
  · exact .fTuple h
  · exact .kTuple e c
theorem VR.ty {K:PySem.W.Frag} {H:Hp} {a:Vw} {v:V} {n:String} (r:VR K H a v) (e:a.tyName=some n):TyX K H v (.type n):=by
  by_cases h:∃ws,a= .wv (.tup ws)
  · obtain ⟨ws,rfl⟩:=h
    cases e
    obtain ⟨p,vs,rfl,s,_⟩:=Rep.of_tup (K:=K) (H:=H) r
    exact C15 s
  · exact r.tyX e fun ws z=> h ⟨ws,z⟩
theorem u2 {K:PySem.W.Frag}:CallA K (rIsi K) F4:=
  ⟨fun as Q Q' k q=> by
    unfold F4 at q ⊢
    split at q
    · obtain ⟨n,b,e,f,q⟩:=q;exact ⟨n,b,e,f,k _ q⟩
    · exact q,fun as vs H Q0 Q r q k=> by
    unfold F4 at q
    split at q
    · rename_i a T
      obtain ⟨v,u,rfl,r1,r2⟩:=r.two
      cases Rep.of_ty (K:=K) (H:=H) r2
      obtain ⟨n,b,e,f,q⟩:=q
      exact ⟨v,.ty T,.type n,.type T,b,rfl,ClsV.ty T,r1.ty e,C0S f,k _ _ (.val q .bl)⟩
    · exact q.elim⟩
end Ab
namespace Ab
open PySem PySem.Spec PyProof.Rows L2
structure HS (G:Gx) (h:AH) (H:Hp):Prop where
  hp:∀a o,h a=some o→ORep G.K H a o
  fr:∀p o,G.H0 p=some o→G.h0 p=none→NT o→H p=some o
  ext:∀a o,h a=some o→G.h0 a=none→G.H0 a=none
  tr:∀p o,G.H0 p=some o→∃u,H p=some u
  tabs:TabsK G.K H
theorem BS.hs {G:Gx} {env:A0} {h:AH} {σ:L2.St} {H:Hp} (S:BS G env h σ H):HS G h H:=⟨S.hp,S.fr,S.ext,S.tr,S.tabs⟩
def XRep (K:PySem.W.Frag) (H:Hp) (x:AExc) (cls:Value) (d:Option Addr):Prop:=cls= .ref (He.ga K x.n)∧∃dd vs,d=some dd∧H dd=some (.xd vs)∧FRep K H x.fs vs
inductive RR where
  | val (w:W) | own (c:Cont)
def A0U (G:Gx) (h:AH) (H:Hp):RR→V→Prop
  | .val w,v=> Rep G.K H w v
  | .own c,v=> ∃p,v= .ref p∧CRep G.K H p c∧h p=none∧G.H0 p=none
abbrev B8:=List W→AH→(RR→AH→Prop)→(AExc→AH→Prop)→Prop
def R9 (K:PySem.W.Frag) (n:Nat) (sp:B8):Sp:=fun vs H Q E=> ∃ws h Qa Ea,ws.length=n∧(∀a o,h a=some o→ORep K H a o)∧TabsK K H∧RepL K H ws vs∧sp ws h Qa Ea∧
  (∀r h' v H',Qa r h'→HS ⟨K,h,H⟩ h' H'→A0U ⟨K,h,H⟩ h' H' r v→Q v H')∧
  (∀x h' cls d H',Ea x h'→HS ⟨K,h,H⟩ h' H'→XRep K H' x cls d→E cls d H')
section
variable {G:Gx} {env:A0} {h1 h2:AH} {σ:L2.St} {H1 H2:Hp}
theorem BS.after (S:BS G env h1 σ H1) (c:HS ⟨G.K,h1,H1⟩ h2 H2):BS G env h2 σ H2∧Xt env h1 σ H1 env h2 H2:=by
  have kp:Keeps H1 H2:=fun p o e i=> c.fr p o e (S.imm e i).1 i.nt
  have x:Xt env h1 σ H1 env h2 H2:=by
    refine ⟨fun p o e n _ t=> c.fr p o e n t,fun p o e n=> c.ext p o e n,c.tr,fun i d e=> ⟨d,e⟩⟩
  refine ⟨⟨S.len,fun i w e=> ?_,fun i a e=> ?_,S.uni,c.hp,fun p o e n t=> ?_,fun a o e n=> ?_,fun p o e=> ?_,c.tabs⟩,x⟩
  · obtain ⟨v,a,b⟩:=S.val i w e;exact ⟨v,a,Rep.mono kp w v b⟩
  · obtain ⟨p,q,r,n,n0⟩:=S.own i a e
    obtain ⟨o,eo,_⟩:=r.there
    refine ⟨p,q,r.mono kp ((c.fr p o eo n (r.mu_at eo).nt).trans eo.symm),?_,n0⟩
    cases z:h2 p with
    | none=> rfl
    | some u=> have y:H1 p=none:=c.ext p u z n;rw [y] at eo;cases eo
  · have n1:h1 p=none:=by
      cases z:h1 p with
      | none=> rfl
      | some u=> have y:=S.ext p u z n;rw [y] at e;cases e
    exact c.fr p o (S.fr p o e n t) n1 t
  · cases z:h1 a with
    | some u=> exact S.ext a u z n
    | none=>
      have y:H1 a=none:=c.ext a o e z
      cases w:G.H0 a with
      | none=> rfl
      | some u=> obtain ⟨t,q⟩:=S.tr a u w;rw [y] at q;cases q
  · obtain ⟨u,q⟩:=S.tr p o e;exact c.tr p u q
end
def aCall (E:AExc→A0→AH→Prop) (sp:B8) (t:E5):AT:=fun env h Q=> t env h fun ws env1 h1=> sp ws h1 (fun r h2=> match r with
  | .val w=> Q (.val w) env1 h2
  | .own c=> Q (.own c) env1 h2) fun x h2=> E x env1 h2
def L6 (sp:B8):Prop:=∀ws h Q Q' E E',(∀r k,Q r k→Q' r k)→(∀x k,E x k→E' x k)→sp ws h Q E→sp ws h Q' E'
theorem aCall.mono {E:AExc→A0→AH→Prop} {sp:B8} {t:E5} (m:L6 sp) (n:A9 t):A9 (aCall E sp t):=fun env h Q Q' k q=> n env h _ _ (fun ws e g z=> m _ _ _ _ _ _ (fun r f y=> by
  cases r with
  | val w=> exact k _ _ _ y
  | own c=> exact k _ _ _ y) (fun x f y=> y) z) q
def cW (G:Gx) (E:AExc→A0→AH→Prop):WX:=fun cls d σ H=> ∃x env h,BS G env h σ H∧XRep G.K H x cls d∧E x env h
theorem A2H {X:Cx} {G:Gx}:Takes X (cW G fun _ _ _=> False):=takes0.imp fun _ _ _ _ ⟨_,_,_,_,_,z⟩=> z
section
variable {X:Cx} {G:Gx} {sp:B8} {k n:Nat} {f:Addr} {fd:FuncData} {ps:List Str} {x:Str} {p pos:Pos} {e:Expr} {es:List Expr} {t:E5} {E:AExc→A0→AH→Prop}
theorem B8T {σ:L2.St} {H:Hp} {Q:VK} (m:A9 t) (sm:L6 sp) (hn:∀env h (R:List W→A0→AH→Prop),t env h R→t env h fun ws e g=> ws.length=n∧R ws e g) (q:cE G (aCall E sp t) σ H Q):
    tCallS (R9 G.K n sp) (WE (cW G E)) (cA G t) σ H Q:=by
  obtain ⟨env,h,S,q⟩:=q
  refine ⟨env,h,S,m env h _ _ (fun ws env1 h1 ⟨hl,z⟩ vs H1 S1 x1 r1=> ?_) (hn _ _ _ q)⟩
  refine ⟨ws,h1,_,_,hl,S1.hp,S1.tabs,r1,z,fun r h' v H' y c rr=> ?_,fun x h' cls d H' y c xr=> ?_⟩
  · obtain ⟨S2,x2⟩:=S1.after c
    cases r with
    | val w=> exact y v H' S2 (x1.trans x2) rr trivial
    | own c0=>
      obtain ⟨p,e,cr,a,b⟩:=rr
      have nw:H1 p=none:=b
      obtain ⟨_,g0,no⟩:=S1.noAt nw
      exact y v H' S2 (x1.trans x2) ⟨p,e,cr,a,g0,no⟩ fun p' e'=> by
        rw [e] at e';cases e';exact x1.fresh nw
  · obtain ⟨S2,x2⟩:=S1.after c
    exact ⟨x,env1,h',S2,xr,y⟩
theorem C0k (F:FnOk X.prog X.w X.K X.mg X.base (L2.CX X.prog X.w) k f fd ps (R9 G.K n sp)) (sm:L6 sp) (hr:Room k X.A) (hg:Gl X x) (hm:X.mg x=some (.ref f)) (hk:PySem.W.keepIn X.K (.ref f)=true) (hb:Binds X.K fd ps []) (tk:Takes X (cW G E))
    (ha:AA X G (e::es) t) (hn:∀env h (R:List W→A0→AH→Prop),t env h R→t env h fun ws e g=> ws.length=n∧R ws e g)
    (hdb:(x==("__debug__":Str))=false:=by decide) (he:starEach (e::es) X.env=(false,eval e X.env)::starEach es X.env:=by rfl) (hpl:(backTo pos (starEach es X.env)).any (·.1)=false:=by rfl):
    AE X G (.Call (.Name x p) (e::es) [] pos) (aCall E sp t):=
  ⟨aCall.mono sm ha.mono,PE.imp (pe_callS F hr hg hm hk hb (fun σ=> passAt tk σ) ha.pa hdb he hpl) fun _ _ _ q=> B8T ha.mono sm hn q⟩
end
theorem B3y:∀env h (R:List W→A0→AH→Prop),aNil env h R→aNil env h fun ws e g=> ws.length=0∧R ws e g:=fun _ _ _ q=> ⟨rfl,q⟩
theorem B9i {t:C3} {u:E5} {n:Nat} (mt:A9 t) (hu:∀env h (R:List W→A0→AH→Prop),u env h R→u env h fun ws e g=> ws.length=n∧R ws e g) (mu:A9 u):
    ∀env h (R:List W→A0→AH→Prop),aCons t u env h R→aCons t u env h fun ws e g=> ws.length=n+1∧R ws e g:=fun env h R q=>
  mt env h _ _ (fun w e g z=> mu e g _ _ (fun ws e2 g2 ⟨y1,y2⟩=> ⟨by rw [List.length_cons,y1],y2⟩) (hu e g _ z)) q
structure AEnds where
  nx:A0→AH→Prop
  rt:RV→A0→AH→Prop
  bk:A0→AH→Prop:=fun _ _=> False
  ct:A0→AH→Prop:=fun _ _=> False
structure AEnds.Le (D D':AEnds):Prop where
  nx:∀e h,D.nx e h→D'.nx e h
  rt:∀r e h,D.rt r e h→D'.rt r e h
  bk:∀e h,D.bk e h→D'.bk e h
  ct:∀e h,D.ct e h→D'.ct e h
theorem AEnds.Le.refl (D:AEnds):D.Le D:=⟨fun _ _ q=> q,fun _ _ _ q=> q,fun _ _ q=> q,fun _ _ q=> q⟩
abbrev C0:=AEnds→A0→AH→Prop
def n8 (t:C0):Prop:=∀D D' env h,D.Le D'→t D env h→t D' env h
structure Link (G:Gx) (H0:Hp) (Da:AEnds) (D:Ends):Prop where
  nx:∀env h σ H,BS G env h σ H→Keeps H0 H→Da.nx env h→D.nx σ H
  rt:∀r env h σ H v,BS G env h σ H→Keeps H0 H→RvRep G env h σ H r v→Da.rt r env h→D.rt v H
  bk:∀env h σ H,BS G env h σ H→Keeps H0 H→Da.bk env h→D.bk σ H
  ct:∀env h σ H,BS G env h σ H→Keeps H0 H→Da.ct env h→D.ct σ H
theorem Link.from {G:Gx} {H H1:Hp} {Da:AEnds} {D:Ends} (l:Link G H Da D) (k:Keeps H H1):Link G H1 Da D:=
  ⟨fun e h σ H' S q=> l.nx e h σ H' S (k.trans q),fun r e h σ H' v S q=> l.rt r e h σ H' v S (k.trans q),fun e h σ H' S q=> l.bk e h σ H' S (k.trans q),fun e h σ H' S q=> l.ct e h σ H' S (k.trans q)⟩
def cS (G:Gx) (t:C0):TS:=fun D σ H=> ∃env h Da,BS G env h σ H∧t Da env h∧Link G H Da D
structure AS (X:Cx) (G:Gx) (st:Stmt) (t:C0):Prop where
  mono:n8 t
  ps:PS X st (cS G t)
structure ASs (X:Cx) (G:Gx) (st:List Stmt) (t:C0):Prop where
  mono:n8 t
  ps:PSs X st (cS G t)
def N7:C0:=fun D env h=> D.nx env h
def aSeq (t u:C0):C0:=fun D env h=> t { D with nx:=u D } env h
theorem aSeq.mono {t u:C0} (m:n8 t) (n:n8 u):n8 (aSeq t u):=fun D D' env h l q=> m { D with nx:=u D } { D' with nx:=u D' } env h ⟨fun e g z=> n D D' e g l z,l.rt,l.bk,l.ct⟩ q
section
variable {X:Cx} {G:Gx} {st:Stmt} {rest:List Stmt} {t u:C0} {e:Expr} {te:AT} {tv:C3} {pos:Pos}
theorem O6:ASs X G [] N7:=⟨fun D D' env h l q=> l.nx _ _ q,PSs.imp pss_nil fun D σ H ⟨env,h,Da,S,q,l⟩=> l.nx _ _ _ _ S (.refl _) q⟩
theorem D4 (a:AS X G st t) (b:ASs X G rest u):ASs X G (st::rest) (aSeq t u):=
  ⟨aSeq.mono a.mono b.mono,PSs.imp (pss_cons a.ps b.ps) fun D σ H ⟨env,h,Da,S,q,l⟩=> ⟨env,h,{ Da with nx:=u Da },S,q,⟨fun e g σ' H' S' y z=> ⟨e,g,Da,S',z,l.from y⟩,l.rt,l.bk,l.ct⟩⟩⟩
theorem D3 (a:AS X G st t):ASs X G [st] t:=⟨a.mono,pss_one a.ps⟩
def V1 (t:AT):C0:=fun D env h=> t env h fun _ env1 h1=> D.nx env1 h1
theorem c5 (a:AE X G e te) (hs:swapsWith e none pos.line X.env=pure false:=by rfl):AS X G (.Expr e pos) (V1 te):=
  ⟨fun D D' env h l q=> a.mono env h _ _ (fun _ e g z=> l.nx _ _ z) q,PS.imp (ps_expr a.pe hs) fun D σ H ⟨env,h,Da,S,q,l⟩=> ⟨env,h,S,a.mono env h _ _ (fun r e g z v H1 S1 x1 _ _=> l.nx _ _ _ _ S1 (x1.keeps S) z) q⟩⟩
def I7 (t:AT):C0:=fun D env h=> t env h D.rt
theorem K6 (a:AE X G e te):AS X G (.Return (some e) pos) (I7 te):=
  ⟨fun D D' env h l q=> a.mono env h _ _ l.rt q,PS.imp (ps_ret a.pe) fun D σ H ⟨env,h,Da,S,q,l⟩=> ⟨env,h,S,a.mono env h _ _ (fun r e g z v H1 S1 x1 r1 _=> l.rt _ _ _ _ _ _ S1 (x1.keeps S) r1 z) q⟩⟩
def M9 (c:G7) (t u:C0):C0:=fun D env h=> c env h fun b env1 h1=> if b=true then t D env1 h1 else u D env1 h1
theorem N5 {c:Expr} {a b:List Stmt} {tc:G7} (hc:AP X G c tc) (ha:ASs X G a t) (hb:ASs X G b u):AS X G (.If c a b pos) (M9 tc t u):=by
  refine ⟨fun D D' env h l q=> hc.mono env h _ _ (fun d e g z=> ?_) q,PS.imp (ps_if hc.pt ha.ps hb.ps) fun D σ H ⟨env,h,Da,S,q,l⟩=> ⟨env,h,S,hc.mono env h _ _ (fun d e g z H1 S1 x1=> ?_) q⟩⟩
  · cases d with
    | true=> rw [if_pos rfl] at z ⊢;exact ha.mono _ _ _ _ l z
    | false=> rw [if_neg Bool.false_ne_true] at z ⊢;exact hb.mono _ _ _ _ l z
  · cases d with
    | true=> rw [if_pos rfl] at z ⊢;exact ⟨e,g,Da,S1,z,l.from (x1.keeps S)⟩
    | false=> rw [if_neg Bool.false_ne_true] at z ⊢;exact ⟨e,g,Da,S1,z,l.from (x1.keeps S)⟩
def aNs (t:AT):AT:=fun env h Q=> t env h fun r env' h'=> match r with
  | .slot i=> match env'[i]? with
    | some (some (.val w))=> Q (.val w) env' h'
    | some (some (.own c))=> Q (.val c.fz) (env'.set i (some (.val c.fz))) h'
    | _=> False
  | r=> Q r env' h'
def A2W:RV→Prop
  | .slot _=> False
  | _=> True
theorem aNs.mono (m:A9 te):A9 (aNs te):=fun env h Q Q' k q=> by
  refine m env h _ _ (fun r e g z=> ?_) q
  cases r with
  | val w=> exact k _ _ _ z
  | own c=> exact k _ _ _ z
  | slot i=>
    show match e[i]? with
      | some (some (.val w))=> Q' (.val w) e g
      | some (some (.own c))=> Q' (.val c.fz) (e.set i (some (.val c.fz))) g
      | _=> False
    have z:match e[i]? with
      | some (some (.val w))=> Q (.val w) e g
      | some (some (.own c))=> Q (.val c.fz) (e.set i (some (.val c.fz))) g
      | _=> False:=z
    split at z
    · exact k _ _ _ z
    · exact k _ _ _ z
    · exact z
def cN (G:Gx) (t:AT):TE:=fun σ H Q=> ∃env h,BS G env h σ H∧t env h fun r env' h'=> ∀v H',BS G env' h' σ H'→Xt env h σ H env' h' H'→RvRep G env' h' σ H' r v→Q9 H r v→A2W r→Q v H'
theorem C3h (a:AE X G e te):PE X e (cN G (aNs te)):=by
  refine ⟨fun pins s σ H Q I ⟨env,h,S,q⟩=> ?_⟩
  refine thn (a.pe.run pins s σ H (fun v H1=> ∃r env' h',BS G env' h' σ H1∧Xt env h σ H env' h' H1∧RvRep G env' h' σ H1 r v∧Q9 H r v∧match r with
    | .slot i=> match env'[i]? with
      | some (some (.val w))=> ∀v H',BS G env' h' σ H'→Xt env h σ H env' h' H'→RvRep G env' h' σ H' (.val w) v→Q9 H (.val w) v→A2W (.val w)→Q v H'
      | some (some (.own c))=> ∀v H',BS G (env'.set i (some (.val c.fz))) h' σ H'→Xt env h σ H (env'.set i (some (.val c.fz))) h' H'→RvRep G (env'.set i (some (.val c.fz))) h' σ H' (.val c.fz) v→Q9 H (.val c.fz) v→A2W (.val c.fz)→Q v H'
      | _=> False
    | r=> ∀v H',BS G env' h' σ H'→Xt env h σ H env' h' H'→RvRep G env' h' σ H' r v→Q9 H r v→A2W r→Q v H') I ⟨env,h,S,a.mono env h _ _ (fun r env' h' z v H1 S1 x1 r1 f1=> ⟨r,env',h',S1,x1,r1,f1,z⟩) q⟩) fun v s1 ⟨x,H1,I1,r1,r,env',h',S1,x1,rr,f1,z⟩=> ?_
  cases r with
  | val w=> exact ⟨x,H1,I1,r1,z x H1 S1 x1 rr f1 trivial⟩
  | own c=> exact ⟨x,H1,I1,r1,z x H1 S1 x1 rr f1 trivial⟩
  | slot i=>
    have es:σ[i]? =some (some x):=rr
    have z:match env'[i]? with
      | some (some (.val w))=> ∀v H',BS G env' h' σ H'→Xt env h σ H env' h' H'→RvRep G env' h' σ H' (.val w) v→Q9 H (.val w) v→A2W (.val w)→Q v H'
      | some (some (.own c))=> ∀v H',BS G (env'.set i (some (.val c.fz))) h' σ H'→Xt env h σ H (env'.set i (some (.val c.fz))) h' H'→RvRep G (env'.set i (some (.val c.fz))) h' σ H' (.val c.fz) v→Q9 H (.val c.fz) v→A2W (.val c.fz)→Q v H'
      | _=> False:=z
    split at z
    · rename_i w e
      obtain ⟨u,e3,r⟩:=S1.val i w e
      rw [es] at e3;cases e3
      exact ⟨x,H1,I1,r1,z x H1 S1 x1 r trivial trivial⟩
    · rename_i c e
      obtain ⟨p,H2,ep,I2,S2,x2,r2⟩:=A8M S1 x1 I1 e
      rw [es] at ep;cases ep
      exact ⟨_,H2,I2,r1,z _ H2 S2 x2 r2 trivial trivial⟩
    · exact z.elim
def RV.sv:RV→SV
  | .val w=> .val w
  | .own c=> .own c
  | .slot _=> .val .non
theorem BS.set {env:A0} {h:AH} {σ:L2.St} {H:Hp} (S:BS G env h σ H) {r:RV} {v:V} (i:Nat) (rr:RvRep G env h σ H r v) (ns:A2W r):BS G (env.set i (some r.sv)) h (σ.set i (some v)) H:=by
  have at_:∀(j:Nat) (sv:SV),(env.set i (some r.sv))[j]? =some (some sv)→(j=i∧sv=r.sv∧(σ.set i (some v))[j]? =some (some v))∨(j≠i∧env[j]? =some (some sv)∧(σ.set i (some v))[j]? =σ[j]?):=fun j sv e=> by
    by_cases hj:j=i
    · subst hj
      have hl:j < env.length:=by
        cases Nat.lt_or_ge j env.length with
        | inl z=> exact z
        | inr z=> rw [List.getElem?_eq_none (by rw [List.length_set];exact z)] at e;cases e
      rw [List.getElem?_set_self hl] at e
      exact .inl ⟨rfl,by injection e with e;injection e with e;exact e.symm,List.getElem?_set_self (by rw [←S.len];exact hl)⟩
    · rw [List.getElem?_set_ne (Ne.symm hj)] at e
      exact .inr ⟨hj,e,List.getElem?_set_ne (Ne.symm hj)⟩
  refine ⟨by rw [List.length_set,List.length_set];exact S.len,fun j w e=> ?_,fun j c e=> ?_,fun j k c c' p e1 e2 f1 f2=> ?_,S.hp,S.fr,S.ext,S.tr,S.tabs⟩
  · rcases at_ j _ e with ⟨rfl,z,y⟩ | ⟨_,z,y⟩
    · cases r with
      | val w'=> cases z;exact ⟨v,y,rr⟩
      | own c=> cases z
      | slot _=> exact ns.elim
    · obtain ⟨u,a,b⟩:=S.val j w z;exact ⟨u,y.trans a,b⟩
  · rcases at_ j _ e with ⟨rfl,z,y⟩ | ⟨_,z,y⟩
    · cases r with
      | val w'=> cases z
      | own c'=> cases z;obtain ⟨p,rfl,a,b,d,_⟩:=rr;exact ⟨p,y,a,b,d⟩
      | slot _=> exact ns.elim
    · obtain ⟨p,a,b⟩:=S.own j c z;exact ⟨p,y.trans a,b⟩
  · have other:∀(m:Nat) (d:Cont),env[m]? =some (some (SV.own d))→σ[m]? =some (some (V.ref p))→r.sv= .own c∨r.sv= .own c'→v= .ref p→False:=fun m d a b z y=> by
      cases r with
      | val w=> rcases z with z | z <;> cases z
      | slot _=> exact ns
      | own c0=> obtain ⟨q,e,_,_,_,no⟩:=rr;rw [e] at y;cases y;exact no ⟨m,d,a,b⟩
    rcases at_ j _ e1 with ⟨j1,z1,y1⟩ | ⟨j1,z1,y1⟩
    · rcases at_ k _ e2 with ⟨k1,z2,y2⟩ | ⟨k1,z2,y2⟩
      · rw [j1,k1]
      · rw [y1] at f1;injection f1 with f1;injection f1 with f1
        rw [y2] at f2
        exact (other k c' z2 f2 (.inl z1.symm) f1).elim
    · rcases at_ k _ e2 with ⟨k1,z2,y2⟩ | ⟨k1,z2,y2⟩
      · rw [y2] at f2;injection f2 with f2;injection f2 with f2
        rw [y1] at f1
        exact (other j c z1 f1 (.inr z2.symm) f2).elim
      · rw [y1] at f1;rw [y2] at f2
        exact S.uni j k c c' p z1 z2 f1 f2
def A5B (i:Nat) (t:AT):C0:=fun D env h=> aNs t env h fun r env1 h1=> D.nx (env1.set i (some r.sv)) h1
theorem A9S {i:Nat} {x:Str} {pos':Pos} (hN:X.N.Nodup) (hi:X.N[i]? =some x) (hx:Loc X.env.scope x) (a:AE X G e te) (hs:swapsWith e (some (.Name x pos')) pos.line X.env=pure false:=by rfl) (hf:X.fn x=true∨X.env.scope.names.lookup x=some .local:=by first | exact .inl rfl | exact .inr rfl | assumption):
    AS X G (.Assign [.Name x pos'] e pos) (A5B i te):=by
  refine ⟨fun D D' env h l q=> aNs.mono a.mono env h _ _ (fun _ e g z=> l.nx _ _ z) q,PS.imp (ps_set hN hi hx (C3h a) hs hf) fun D σ H ⟨env,h,Da,S,q,l⟩=> ?_⟩
  exact ⟨env,h,S,aNs.mono a.mono env h _ _ (fun r e g z v H1 S1 x1 r1 _ ns=> l.nx _ _ _ _ (S1.set i r1 ns) (x1.keeps S) z) q⟩
end
end Ab
namespace Ab
open PySem PySem.Spec PyProof.Rows L2
abbrev G5:=W→A0→AH→(A0→AH→Prop)→Prop
abbrev A1F:=List W→A0→AH→(A0→AH→Prop)→Prop
def g7 {α:Type} (g:α→A0→AH→(A0→AH→Prop)→Prop):Prop:=∀w env h Q Q',(∀e k,Q e k→Q' e k)→g w env h Q→g w env h Q'
def But (sl:List Nat) (σ σ':L2.St):Prop:=σ'.length=σ.length∧∀i:Nat,i∉sl→σ'[i]? =σ[i]?
theorem But.refl {sl:List Nat} (σ:L2.St):But sl σ σ:=⟨rfl,fun _ _=> rfl⟩
theorem But.trans {sl sl':List Nat} {σ σ1 σ2:L2.St} (a:But sl σ σ1) (b:But sl' σ1 σ2):But (sl++sl') σ σ2:=
  ⟨b.1.trans a.1,fun i hi=> (b.2 i fun z=> hi (List.mem_append_right _ z)).trans (a.2 i fun z=> hi (List.mem_append_left _ z))⟩
structure Xg (sl:List Nat) (env:A0) (h:AH) (σ:L2.St) (H:Hp) (env':A0) (h':AH) (σ':L2.St) (H':Hp):Prop where
  fr:∀p o,H p=some o→h p=none→¬OwnAt env σ p→NT o→H' p=some o
  hn:∀p o,h' p=some o→h p=none→H p=none
  th:∀p o,H p=some o→∃o',H' p=some o'
  ow:∀p,OwnAt env' σ' p→OwnAt env σ p
  so:∀(i:Nat) (c':Cont),env'[i]? =some (some (SV.own c'))→∃c,env[i]? =some (some (SV.own c))
  bt:But sl σ σ'
theorem Xg.keeps {sl:List Nat} {G:Gx} {env env':A0} {h h':AH} {σ σ':L2.St} {H H':Hp} (x:Xg sl env h σ H env' h' σ' H') (S:BS G env h σ H):Keeps H H':=fun p o e i=> x.fr p o e (S.imm e i).1 (S.imm e i).2 i.nt
theorem Xg.refl {sl:List Nat} {env:A0} {h:AH} {σ:L2.St} {H:Hp}:Xg sl env h σ H env h σ H:=⟨fun _ _ e _ _ _=> e,fun p o e n=> (by rw [n] at e;cases e),fun _ o e=> ⟨o,e⟩,fun _ q=> q,fun i c e=> ⟨c,e⟩,.refl σ⟩
theorem Xg.trans {sl sl':List Nat} {env env1 env2:A0} {h h1 h2:AH} {σ σ1 σ2:L2.St} {H H1 H2:Hp} (a:Xg sl env h σ H env1 h1 σ1 H1) (b:Xg sl' env1 h1 σ1 H1 env2 h2 σ2 H2):Xg (sl++sl') env h σ H env2 h2 σ2 H2:=by
  refine ⟨fun p o e n w t=> ?_,fun p o e n=> ?_,fun p o e=> ?_,fun p q=> a.ow p (b.ow p q),fun i c e=> ?_,a.bt.trans b.bt⟩
  · refine b.fr p o (a.fr p o e n w t) ?_ (fun q=> w (a.ow p q)) t
    cases q:h1 p with
    | none=> rfl
    | some u=> rw [a.hn p u q n] at e;cases e
  · cases q:h1 p with
    | some u=> exact a.hn p u q n
    | none=>
      have z:=b.hn p o e q
      cases q2:H p with
      | none=> rfl
      | some u=> obtain ⟨o',e'⟩:=a.th p u q2;rw [z] at e';cases e'
  · obtain ⟨o',e'⟩:=a.th p o e;exact b.th p o' e'
  · obtain ⟨c1,z⟩:=b.so i c e
    exact a.so i c1 z
theorem Xt.xg {env env':A0} {h h':AH} {σ:L2.St} {H H':Hp} (x:Xt env h σ H env' h' H'):Xg [] env h σ H env' h' σ H':=
  ⟨x.fr,x.hn,x.th,fun _ q=> x.own q,x.sl,.refl σ⟩
def cG (G:Gx) (sl:List Nat) (g:G5):TG:=fun v σ H Q=> ∃w env h,Rep G.K H w v∧BS G env h σ H∧g w env h fun env' h'=> ∀σ' H',BS G env' h' σ' H'→Xg sl env h σ H env' h' σ' H'→Q σ' H'
def cGs (G:Gx) (sl:List Nat) (g:A1F):TGs:=fun vs σ H Q=> ∃ws env h,RepL G.K H ws vs∧BS G env h σ H∧g ws env h fun env' h'=> ∀σ' H',BS G env' h' σ' H'→Xg sl env h σ H env' h' σ' H'→Q σ' H'
structure AG (X:Cx) (G:Gx) (tg:Expr) (sl:List Nat) (g:G5):Prop where
  mono:g7 g
  pg:PG X tg (cG G sl g)
structure AGs (X:Cx) (G:Gx) (tg:List Expr) (sl:List Nat) (g:A1F):Prop where
  mono:g7 g
  pg:PGs X tg (cGs G sl g)
theorem PG.imp {X:Cx} {e:Expr} {t t':TG} (h:PG X e t) (i:∀v σ H Q,t' v σ H Q→t v σ H Q):PG X e t':=⟨fun pins s σ H v u Q I r q=> h.run pins s σ H v u Q I r (i _ _ _ _ q)⟩
theorem PGs.imp {X:Cx} {e:List Expr} {t t':TGs} (h:PGs X e t) (i:∀v σ H Q,t' v σ H Q→t v σ H Q):PGs X e t':=⟨fun pins s σ H v u Q I r q=> h.run pins s σ H v u Q I r (i _ _ _ _ q)⟩
section
variable {X:Cx} {G:Gx} {pos:Pos} {x:Str}
def M5 (i:Nat):G5:=fun w env h Q=> Q (env.set i (some (.val w))) h
theorem O0 {i:Nat} (hN:X.N.Nodup) (hi:X.N[i]? =some x) (hx:Loc X.env.scope x) (hf:X.fn x=true∨X.env.scope.names.lookup x=some .local:=by first | exact .inl rfl | exact .inr rfl | assumption):AG X G (.Name x pos) [i] (M5 i):=by
  refine ⟨fun w env h Q Q' k q=> k _ _ q,PG.imp (pg_name hN hi hx hf) fun v σ H Q ⟨w,env,h,r,S,q⟩=> ?_⟩
  have ne:∀{j:Nat},j∉[i]→i≠j:=fun hj z=> hj (by simp [z])
  refine q _ H (S.set (r:= .val w) i r trivial) ⟨fun _ _ e _ _ _=> e,fun p o e n=> (by rw [n] at e;cases e),fun _ o e=> ⟨o,e⟩,fun p ⟨j,c,e1,e2⟩=> ?_,fun j c e1=> ?_,List.length_set,fun j hj=> List.getElem?_set_ne (ne hj)⟩
  · by_cases hj:i=j
    · subst hj
      have hl:i < env.length:=by
        have:=(List.getElem?_eq_some_iff.mp e1).1
        rwa [List.length_set] at this
      rw [List.getElem?_set_self hl] at e1
      cases e1
    · rw [List.getElem?_set_ne hj] at e1 e2
      exact ⟨j,c,e1,e2⟩
  · by_cases hj:i=j
    · subst hj
      have hl:i < env.length:=by
        have:=(List.getElem?_eq_some_iff.mp e1).1
        rwa [List.length_set] at this
      rw [List.getElem?_set_self hl] at e1
      cases e1
    · rw [List.getElem?_set_ne hj] at e1
      exact ⟨c,e1⟩
def A42:A1F:=fun ws env h Q=> ws=[]∧Q env h
def A0w (t:G5) (u:A1F):A1F:=fun ws env h Q=> ∃w r,ws=w::r∧t w env h fun env' h'=> u r env' h' Q
theorem A8o:AGs X G [] [] A42:=⟨fun w env h Q Q' k q=> ⟨q.1,k _ _ q.2⟩,PGs.imp pgs_nil fun v σ H Q ⟨ws,env,h,r,S,e,q⟩=> by
  subst e
  exact ⟨r.of_nil,q σ H S .refl⟩⟩
theorem A20 {e:Expr} {es:List Expr} {t:G5} {u:A1F} {sl sl':List Nat} (a:AG X G e sl t) (b:AGs X G es sl' u) (hs:(assignEach (e::es) X.env).map (·.2)=assign e X.env::(assignEach es X.env).map (·.2):=by rfl):AGs X G (e::es) (sl++sl') (A0w t u):=by
  refine ⟨fun w env h Q Q' k ⟨x,r,e,q⟩=> ⟨x,r,e,a.mono _ _ _ _ _ (fun e g z=> b.mono _ _ _ _ _ k z) q⟩,PGs.imp (pgs_cons a.pg b.pg hs) fun v σ H Q ⟨ws,env,h,r,S,w,rs,e,q⟩=> ?_⟩
  subst e
  obtain ⟨v0,vr,rfl,r0,rr⟩:=r.of_cons
  refine ⟨v0,vr,rfl,w,env,h,r0,S,a.mono _ _ _ _ _ (fun env1 h1 z σ1 H1 S1 x1=> ?_) q⟩
  exact ⟨rs,env1,h1,RepL.mono (x1.keeps S) _ _ rr,S1,b.mono _ _ _ _ _ (fun env2 h2 z2 σ2 H2 S2 x2=> z2 σ2 H2 S2 (x1.trans x2)) z⟩
def gTp (n:Nat) (u:A1F):G5:=fun w env h Q=> match w with
  | .tup ws=> ws.length=n∧u ws env h Q
  | _=> False
theorem A9A {es:List Expr} {k n:Nat} {u:A1F} {sl:List Nat} (gk:G.K=X.K) (hc:X.calm=true) (b:AGs X G es sl u)
    (hn:(assignEach es X.env).length=n:=by rfl) (hst:(assignEach es X.env).findIdx? (·.1)=none:=by rfl):AG X G (.Tuple es k pos) sl (gTp n u):=by
  refine ⟨fun w env h Q Q' k q=> ?_,PG.imp (pg_tup hc b.pg hn hst) fun v σ H Q ⟨w,env,h,r,S,q⟩=> ?_⟩
  · unfold gTp at q ⊢
    split at q
    · exact ⟨q.1,b.mono _ _ _ _ _ k q.2⟩
    · exact q
  · unfold gTp at q
    split at q
    · obtain ⟨a,vs,rfl,s,r⟩:=Rep.of_tup r
      exact ⟨a,vs,rfl,gk▸s,r.length.symm.trans q.1,_,env,h,r,S,q.2⟩
    · exact q.elim
end
abbrev U2:=A0→AH→(List W→A0→AH→Prop)→Prop
def A1h (K:PySem.W.Frag) (J:It) (H1:Hp) (ws:List W):Prop:=∀H,Keeps H1 H→∀i:Nat,(ws.length≤i→J.stop i H)∧∀w,ws[i]? =some w→J.go i H∧∀x H',J.yld i H x H'→New H H'∧Rep K H' w x
def cI (G:Gx) (t:U2):TI:=fun σ H R=> ∃env h,BS G env h σ H∧t env h fun ws env' h'=> ∀J H',BS G env' h' σ H'→Xt env h σ H env' h' H'→A1h G.K J H' ws→R J H'
structure AI (X:Cx) (G:Gx) (tg iter:Expr) (t:U2):Prop where
  mono:A9 t
  pi:PI X tg iter (cI G t)
theorem PI.imp {X:Cx} {tg e:Expr} {t t':TI} (h:PI X tg e t) (i:∀σ H R,t' σ H R→t σ H R):PI X tg e t':=⟨fun pins s σ H R I q=> h.run pins s σ H R I (i _ _ _ q)⟩
section
variable {X:Cx} {G:Gx} {tg e:Expr} {pos:Pos} {x:Str}
def iLst (t:C3):U2:=fun env h Q=> t env h fun w env' h'=> match w with
  | .lst ws=> Q ws env' h'
  | _=> False
def iTpl (t:C3):U2:=fun env h Q=> t env h fun w env' h'=> match w with
  | .tup ws=> Q ws env' h'
  | _=> False
theorem iLst.mono {t:C3} (m:A9 t):A9 (iLst t):=fun env h Q Q' k q=> m env h _ _ (fun w e g z=> by
  cases w <;> first | exact k _ _ _ z | exact z) q
theorem iTpl.mono {t:C3} (m:A9 t):A9 (iTpl t):=fun env h Q Q' k q=> m env h _ _ (fun w e g z=> by
  cases w <;> first | exact k _ _ _ z | exact z) q
theorem B15 {K:PySem.W.Frag} {H:Hp} {a:Addr} {ws:List W} {vs:List V} (l:LsF H a vs) (r:RepL K H ws vs):A1h K (Itl K a) H ws:=fun H' k i=> by
  have l':=(k.lsF l).sq (K:=K)
  have r':=RepL.mono k _ _ r
  refine ⟨fun h=> ⟨vs,l',by rw [←r'.length];exact h⟩,fun w e=> ?_⟩
  obtain ⟨v,ev,rv⟩:=r'.get e
  exact ⟨⟨vs,v,l',ev⟩,fun x H2 ⟨e1,q⟩=> by
    subst e1
    have z:=q vs l'
    rw [ev] at z;cases z
    exact ⟨.refl _,rv⟩⟩
theorem B2D {K:PySem.W.Frag} {H:Hp} {a:Addr} {ws:List W} {vs:List V} (l:SqT K H a vs) (r:RepL K H ws vs):A1h K (Itt K a) H ws:=fun H' k i=> by
  have l':=k.sqT l
  have r':=RepL.mono k _ _ r
  refine ⟨fun h=> ⟨vs,l',by rw [←r'.length];exact h⟩,fun w e=> ?_⟩
  obtain ⟨v,ev,rv⟩:=r'.get e
  exact ⟨⟨vs,v,l',ev⟩,fun x H2 ⟨e1,q⟩=> by
    subst e1
    have z:=q vs l'
    rw [ev] at z;cases z
    exact ⟨.refl _,rv⟩⟩
theorem PI.or {t u:TI} (a:PI X tg e t) (b:PI X tg e u):PI X tg e (fun σ H R=> t σ H R∨u σ H R):=⟨fun pins s σ H R I q=> q.elim (fun z=> a.run pins s σ H R I z) fun z=> b.run pins s σ H R I z⟩
def X2 (lo:Int) (n:Nat):List W:=(List.range n).map fun (i:Nat)=> W.int (lo+i)
theorem B70 {K:PySem.W.Frag} {H:Hp} {lo:Int} {n:Nat}:A1h K (Itr lo n) H (X2 lo n):=fun H' k i=> by
  have hl:(X2 lo n).length=n:=by simp [X2]
  refine ⟨fun h=> (show n≤i by omega),fun w e=> ?_⟩
  unfold X2 at e
  rw [List.getElem?_map] at e
  cases q:(List.range n)[i]? with
  | none=> rw [q] at e;cases e
  | some j=>
    rw [q] at e
    obtain ⟨hi,ej⟩:=List.getElem?_eq_some_iff.mp q
    rw [List.getElem_range] at ej
    subst ej
    cases e
    rw [List.length_range] at hi
    exact ⟨hi,fun x H2 ⟨e1,e2⟩=> by subst e1;subst e2;exact ⟨.refl _,.int⟩⟩
def A7k (t:W1):U2:=fun env h Q=> t env h fun rs env' h'=> match rs.map (view env' h') with
  | [.wv (.int j)]=> -(2 ^ 62)≤j∧j < 2 ^ 62∧Q (X2 0 j.toNat) env' h'
  | _=> False
theorem B2E {a:Expr} {ta:W1} {p:Pos} (hg:Gl X "range") (hm:X.mg "range"=none) (ha:AR X G [a] ta) (hs:starEach [a] X.env=[(false,eval a X.env)]:=by rfl):AI X G tg (.Call (.Name "range" p) [a] [] pos) (A7k ta):=by
  refine ⟨fun env h Q Q' k q=> ha.mono env h _ _ (fun rs e g z=> ?_) q,PI.imp (pi_range1 hg hm ha.pa hs) fun σ H R ⟨env,h,S,q⟩=> ?_⟩
  · split at z
    · exact ⟨z.1,z.2.1,k _ _ _ z.2.2⟩
    · exact z
  · refine ⟨env,h,S,ha.mono env h _ _ (fun rs env1 h1 z vs H1 S1 x1 r1=> ?_) q⟩
    have rr:=r1.vrl S1
    split at z
    · rename_i j e
      rw [e] at rr
      obtain ⟨v,rfl,rv⟩:=rr.one
      cases rv.int
      exact ⟨j,rfl,z.1,z.2.1,z.2.2 _ H1 S1 x1 B70⟩
    · exact z.elim
end
def aLoop (g:G5) (tb:C0) (D:AEnds):List W→A0→AH→Prop
  | []=> D.nx
  | w::ws=> fun env h=> g w env h fun env1 h1=> tb { D with nx:=aLoop g tb D ws,ct:=aLoop g tb D ws,bk:=D.nx } env1 h1
def A7e (ti:U2) (g:G5) (tb:C0):C0:=fun D env h=> ti env h fun ws env1 h1=> aLoop g tb D ws env1 h1
theorem aLoop.mono {g:G5} {tb:C0} (mg:g7 g) (mt:n8 tb) {D D':AEnds} (l:D.Le D'):∀(ws:List W) env h,aLoop g tb D ws env h→aLoop g tb D' ws env h
  | [],env,h,q=> l.nx _ _ q
  | w::ws,env,h,q=> mg w env h _ _ (fun e k z=> mt { D with nx:=aLoop g tb D ws,ct:=aLoop g tb D ws,bk:=D.nx } { D' with nx:=aLoop g tb D' ws,ct:=aLoop g tb D' ws,bk:=D'.nx } e k ⟨aLoop.mono mg mt l ws,l.rt,l.nx,aLoop.mono mg mt l ws⟩ z) q
section
variable {X:Cx} {G:Gx} {tg iter:Expr} {body:List Stmt} {pos:Pos}
theorem B4Y {ti:U2} {g:G5} {tb:C0} {sl:List Nat} (hp:PassesOwn (model X.prog X.w) X.A X.env X.xe) (hc:X.calm=true) (hi:AI X G tg iter ti) (hg:AG X G tg sl g) (hb:ASs X G body tb)
    (hs:∀x,foldedSetIterable iter X.env x=pure x:=by intro _;rfl):AS X G (.For tg iter body [] pos) (A7e ti g tb):=by
  refine ⟨fun D D' env h l q=> hi.mono env h _ _ (fun ws e k z=> aLoop.mono hg.mono hb.mono l ws e k z) q,PS.imp (ps_for hp hc hi.pi hg.pg hb.ps hs) fun D σ H ⟨env,h,Da,S,q,l⟩=> ?_⟩
  refine ⟨env,h,S,hi.mono env h _ _ (fun ws env1 h1 z J H1 S1 x1 gv=> ?_) q⟩
  have kp:=x1.keeps S
  refine ⟨fun i m σ' H'=> ws.length≤i+m∧Keeps H1 H'∧∃e k,BS G e k σ' H'∧aLoop g tb Da (ws.drop i) e k,⟨ws.length,by omega,.refl H1,env1,h1,S1,by simpa using z⟩,?_⟩
  rintro i m σ2 H2 ⟨hm,k2,e2,g2,S2,z2⟩
  have gi:=gv H2 k2 i
  cases e:ws[i]? with
  | none=>
    have hl:=List.getElem?_eq_none_iff.mp e
    rw [List.drop_eq_nil_of_le hl] at z2
    exact .inl ⟨gi.1 hl,l.nx _ _ _ _ S2 (kp.trans k2) z2⟩
  | some w=>
    obtain ⟨hl,ew⟩:=List.getElem?_eq_some_iff.mp e
    have ed:ws.drop i=w::ws.drop (i+1):=by rw [List.drop_eq_getElem_cons hl,ew]
    rw [ed] at z2
    obtain ⟨go,yl⟩:=gi.2 w e
    refine .inr ⟨go,fun σ' H'=> Keeps H1 H'∧∃e k,BS G e k σ' H'∧aLoop g tb Da (ws.drop (i+1)) e k,fun σ' H' n=> ⟨m - 1,by omega,by omega,n.1,n.2⟩,fun x H3 y=> ?_⟩
    obtain ⟨nw,rx⟩:=yl x H3 y
    have k3:=k2.trans nw.keeps
    refine ⟨w,e2,g2,rx,nw.bs S2,hg.mono w e2 g2 _ _ (fun e4 g4 z4 σ4 H4 S4 x4=> ?_) z2⟩
    have k4:=x4.keeps (nw.bs S2)
    refine ⟨e4,g4,_,S4,z4,⟨fun e k σ H S' kk y=> ⟨(k3.trans k4).trans kk,e,k,S',y⟩,fun r e k σ H v S' kk=> l.rt r e k σ H v S' (kp.trans ((k3.trans k4).trans kk)),fun e k σ H S' kk=> l.nx e k σ H S' (kp.trans ((k3.trans k4).trans kk)),fun e k σ H S' kk y=> ⟨(k3.trans k4).trans kk,e,k,S',y⟩⟩⟩
end
end Ab
namespace Ab
open PySem PySem.Spec PyProof.Rows L2
def P8 (env:A0):List Nat→A0
  | []=> env
  | v::vs=> (P8 env vs).set v none
def C3K:Option (Option SV)→Option SV
  | some (some (.val w))=> some (.val w)
  | _=> none
def mend (env e2:A0):List Nat→A0
  | []=> e2
  | v::vs=> (mend env e2 vs).set v (C3K env[v]?)
theorem B2S (env:A0):∀vs,(P8 env vs).length=env.length
  | []=> rfl
  | v::vs=> by rw [P8,List.length_set,B2S env vs]
theorem B2e (env e2:A0):∀vs,(mend env e2 vs).length=e2.length
  | []=> rfl
  | v::vs=> by rw [mend,List.length_set,B2e env e2 vs]
theorem A0n {env:A0} {i:Nat} {x:SV}:∀{vs:List Nat},(P8 env vs)[i]? =some (some x)→env[i]? =some (some x)∧i∉vs
  | [],h=> ⟨h,by simp⟩
  | v::vs,h=> by
    rw [P8] at h
    by_cases hi:v=i
    · subst hi
      by_cases hl:v < (P8 env vs).length
      · rw [List.getElem?_set_self hl] at h;cases h
      · rw [List.getElem?_eq_none (by rw [List.length_set];omega)] at h;cases h
    · rw [List.getElem?_set_ne hi] at h
      obtain ⟨a,b⟩:=A0n h
      exact ⟨a,by simp only [List.mem_cons,not_or];exact ⟨fun z=> hi z.symm,b⟩⟩
theorem t4 {env e2:A0} {i:Nat}:∀{vs:List Nat},i∉vs→(mend env e2 vs)[i]? =e2[i]?
  | [],_=> rfl
  | v::vs,h=> by
    rw [mend,List.getElem?_set_ne (fun z=> h (by simp [z])),t4 fun z=> h (List.mem_cons_of_mem _ z)]
theorem t8 {env e2:A0} {i:Nat} {x:SV}:∀{vs:List Nat},i∈vs→(mend env e2 vs)[i]? =some (some x)→∃w,x= .val w∧env[i]? =some (some (.val w))
  | v::vs,hi,h=> by
    rw [mend] at h
    by_cases e:v=i
    · subst e
      by_cases hl:v < (mend env e2 vs).length
      · rw [List.getElem?_set_self hl] at h
        cases q:env[v]? with
        | none=> rw [q] at h;cases h
        | some o=>
          cases o with
          | none=> rw [q] at h;cases h
          | some sv=>
            cases sv with
            | val w=> rw [q] at h;cases h;exact ⟨w,rfl,rfl⟩
            | own c=> rw [q] at h;cases h
      · rw [List.getElem?_eq_none (by rw [List.length_set];omega)] at h;cases h
    · rw [List.getElem?_set_ne e] at h
      rcases List.mem_cons.mp hi with z | z
      · exact absurd z.symm e
      · exact t8 z h
theorem A4T (σ:L2.St) (vs:List Nat):(wipe σ vs).length=σ.length:=wipe_length σ vs
theorem s4 {σ:L2.St} {i:Nat}:∀{vs:List Nat},i∉vs→(wipe σ vs)[i]? =σ[i]?
  | [],_=> rfl
  | v::vs,h=> by
    rw [wipe,List.getElem?_set_ne (fun z=> h (by simp [z])),s4 fun z=> h (List.mem_cons_of_mem _ z)]
theorem A8p {σ:L2.St} {i:Nat}:∀{vs:List Nat},i∈vs→(wipe σ vs)[i]? =if i < σ.length then some none else none
  | v::vs,h=> by
    rw [wipe]
    by_cases e:v=i
    · subst e
      by_cases hl:v < σ.length
      · rw [if_pos hl,List.getElem?_set_self (by rw [A4T];exact hl)]
      · rw [if_neg hl,List.getElem?_eq_none (by rw [List.length_set,A4T];omega)]
    · rw [List.getElem?_set_ne e]
      rcases List.mem_cons.mp h with z | z
      · exact absurd z.symm e
      · exact A8p z
theorem A8j {σ σ2:L2.St} {vs sl:List Nat} (b:But sl (wipe σ vs) σ2) (h:∀i∈sl,i∈vs):wipe σ2 vs=wipe σ vs:=by
  have hl:σ2.length=σ.length:=b.1.trans (A4T _ _)
  apply List.ext_getElem?
  intro i
  by_cases hi:i∈vs
  · rw [A8p hi,A8p hi,hl]
  · rw [s4 hi,b.2 i fun z=> hi (h i z)]
section
variable {G:Gx} {env e2:A0} {h h2:AH} {σ σ2:L2.St} {H H2:Hp} {vs sl:List Nat}
theorem OwnAt.wiped {p:Addr} (o:OwnAt (P8 env vs) (wipe σ vs) p):OwnAt env σ p:=by
  obtain ⟨i,c,a,b⟩:=o
  obtain ⟨a1,hi⟩:=A0n a
  rw [s4 hi] at b
  exact ⟨i,c,a1,b⟩
theorem BS.wipe (S:BS G env h σ H):BS G (P8 env vs) h (L2.wipe σ vs) H:=by
  refine ⟨by rw [B2S,A4T];exact S.len,fun i w e=> ?_,fun i c e=> ?_,fun i j c c' p e1 e2 f1 f2=> ?_,S.hp,S.fr,S.ext,S.tr,S.tabs⟩
  · obtain ⟨a,hi⟩:=A0n e
    rw [s4 hi];exact S.val i w a
  · obtain ⟨a,hi⟩:=A0n e
    rw [s4 hi];exact S.own i c a
  · obtain ⟨a,hi⟩:=A0n e1
    obtain ⟨b,hj⟩:=A0n e2
    rw [s4 hi] at f1;rw [s4 hj] at f2
    exact S.uni i j c c' p a b f1 f2
theorem BS.mend (S:BS G env h σ H) (S2:BS G e2 h2 σ2 H2) (k:Keeps H H2) (b:But sl (L2.wipe σ vs) σ2) (hs:∀i∈sl,i∈vs):BS G (mend env e2 vs) h2 σ H2:=by
  have at_:∀{i:Nat},i∉vs→σ2[i]? =σ[i]? :=fun {i} hi=> (b.2 i fun z=> hi (hs i z)).trans (s4 hi)
  refine ⟨by rw [B2e,S2.len,b.1,A4T],fun i w e=> ?_,fun i c e=> ?_,fun i j c c' p e1 e2 f1 f2=> ?_,S2.hp,S2.fr,S2.ext,S2.tr,S2.tabs⟩
  · by_cases hi:i∈vs
    · obtain ⟨w',e0,a⟩:=t8 hi e
      cases e0
      obtain ⟨v,x,y⟩:=S.val i w a
      exact ⟨v,x,Rep.mono k w v y⟩
    · rw [t4 hi] at e
      obtain ⟨v,x,y⟩:=S2.val i w e
      exact ⟨v,(at_ hi).symm.trans x,y⟩
  · by_cases hi:i∈vs
    · obtain ⟨w',e0,_⟩:=t8 hi e;cases e0
    · rw [t4 hi] at e
      obtain ⟨p,x,y⟩:=S2.own i c e
      exact ⟨p,(at_ hi).symm.trans x,y⟩
  · by_cases hi:i∈vs
    · obtain ⟨w',e0,_⟩:=t8 hi e1;cases e0
    · by_cases hj:j∈vs
      · obtain ⟨w',e0,_⟩:=t8 hj e2;cases e0
      · rw [t4 hi] at e1;rw [t4 hj] at e2
        exact S2.uni i j c c' p e1 e2 ((at_ hi).trans f1) ((at_ hj).trans f2)
theorem BS.unseen (S:BS G env h σ H) {D:Addr} {o o':HO} (e:H D=some o) (m:Mu o) (n:h D=none) (n0:G.H0 D=none) (no:¬OwnAt env σ D):Keeps H (upd H D o')∧BS G env h σ (upd H D o'):=by
  have k:Keeps H (upd H D o'):=fun p u q i=> by
    have ne:p≠D:=fun z=> by subst z;rw [e] at q;cases q;exact m.imm i
    rw [upd_ne ne];exact q
  refine ⟨k,S.len,fun i w z=> ?_,fun i c z=> ?_,S.uni,fun a u z=> ?_,fun p u z y t=> ?_,S.ext,fun p u z=> ?_,S.tabs.upd fun u z=> (by rw [e] at z;cases z;exact m)⟩
  · obtain ⟨v,x,y⟩:=S.val i w z;exact ⟨v,x,Rep.mono k w v y⟩
  · obtain ⟨p,x,y,a,b⟩:=S.own i c z
    have ne:p≠D:=fun q=> no ⟨i,c,z,q▸x⟩
    exact ⟨p,x,y.mono k (upd_ne ne),a,b⟩
  · have ne:a≠D:=fun q=> by rw [q,n] at z;cases z
    exact (S.hp a u z).mono k (upd_ne ne)
  · have ne:p≠D:=fun q=> by rw [q,n0] at z;cases z
    rw [upd_ne ne];exact S.fr p u z y t
  · by_cases q:p=D
    · subst q;exact ⟨_,upd_same⟩
    · obtain ⟨u',y⟩:=S.tr p u z;exact ⟨u',by rw [upd_ne q];exact y⟩
end
def lcLoop (vs:List Nat) (g:G5) (tt:G7) (te:C3) (Q:List W→A0→AH→Prop):List W→List W→A0→AH→Prop
  | [],acc=> fun env h=> Q acc env h
  | w::ws,acc=> fun env h=> g w (P8 env vs) h fun e1 h1=> tt e1 h1 fun b e2 h2=> if b=true then te e2 h2 fun y e3 h3=> acc.length < sizeLine∧lcLoop vs g tt te Q ws (acc++[y]) (mend env e3 vs) h3 else lcLoop vs g tt te Q ws acc (mend env e2 vs) h2
def o7 (vs:List Nat) (ti:U2) (g:G5) (tt:G7) (te:C3):AT:=fun env h Q=> ti env h fun ws e1 h1=> lcLoop vs g tt te (fun acc e h=> Q (.own (.seq acc)) e h) ws [] e1 h1
theorem lcLoop.mono {vs:List Nat} {g:G5} {tt:G7} {te:C3} (mg:g7 g) (mt:A9 tt) (me:A9 te) {Q Q':List W→A0→AH→Prop} (k:∀a e h,Q a e h→Q' a e h):∀(ws acc:List W) env h,lcLoop vs g tt te Q ws acc env h→lcLoop vs g tt te Q' ws acc env h
  | [],acc,env,h,q=> k _ _ _ q
  | w::ws,acc,env,h,q=> mg _ _ _ _ _ (fun e1 h1 z=> mt _ _ _ _ (fun b e2 h2 z=> by
    cases b with
    | true=> rw [if_pos rfl] at z ⊢;exact me _ _ _ _ (fun y e3 h3 z=> ⟨z.1,lcLoop.mono mg mt me k ws _ _ _ z.2⟩) z
    | false=> rw [if_neg Bool.false_ne_true] at z ⊢;exact lcLoop.mono mg mt me k ws _ _ _ z) z) q
structure APs (X:Cx) (G:Gx) (ifs:List Expr) (t:G7):Prop where
  mono:A9 t
  pts:PTs X ifs (cT G t)
def A1k:G7:=fun env h Q=> Q true env h
theorem A29 {X:Cx} {G:Gx}:APs X G [] A1k:=⟨fun env h Q Q' k q=> k _ _ _ q,⟨fun pins s σ H Q I ⟨env,h,S,q⟩=> pts_nil.run pins s σ H Q I (q H S .refl)⟩⟩
section
variable {X:Cx} {G:Gx} {elt tg iter:Expr} {ifs:List Expr} {scope:Scope} {own:List (Str×Nat)} {pos:Pos} {ti:U2} {g:G5} {tt:G7} {te:C3} {sl:List Nat}
theorem B3G {σ:L2.St} {H:Hp} {Q:VK} (hi:AI X G tg iter ti) (hsl:∀i∈sl,i∈own.map (·.2)) (mg:g7 g) (mt:A9 tt) (me:A9 te) (q:cE G (o7 (own.map (·.2)) ti g tt te) σ H Q):
    tLc (cI G ti) (cG G sl g) (cT G tt) (cV G te) (own.map (·.2)) σ H Q:=by
  obtain ⟨env,h,S,q⟩:=q
  refine ⟨env,h,S,hi.mono env h _ _ (fun ws env1 h1 z J H1 S1 x1 gv=> ?_) q⟩
  intro D nD
  have hD:H D=none:=x1.fresh nD
  obtain ⟨hd1,hd0,hdo⟩:=S1.noAt nD
  have nw0:New H1 (upd H1 D (.lst [])):=New.upd nD
  refine ⟨fun i m H'=> ws.length≤i+m∧Keeps H1 H'∧∃acc vacc e k,H' D=some (.lst vacc)∧RepL G.K H' acc vacc∧BS G e k σ H'∧Xt env h σ H e k H'∧k D=none∧¬OwnAt e σ D∧
    lcLoop (own.map (·.2)) g tt te (fun acc e h'=> ∀v H',BS G e h' σ H'→Xt env h σ H e h' H'→RvRep G e h' σ H' (.own (.seq acc)) v→Q9 H (.own (.seq acc)) v→Q v H') (ws.drop i) acc e k,
    ⟨ws.length,by omega,nw0.keeps,[],[],env1,h1,upd_same,.nil,nw0.bs S1,x1.trans nw0.xt,hd1,hdo,by simpa using z⟩,?_⟩
  rintro i m H2 ⟨hm,k2,acc,vacc,e2,g2,d2,r2,S2,x2,n2,no2,z2⟩
  have gi:=gv H2 k2 i
  cases e:ws[i]? with
  | none=>
    have hl:=List.getElem?_eq_none_iff.mp e
    rw [List.drop_eq_nil_of_le hl] at z2
    exact .inl ⟨gi.1 hl,z2 _ H2 S2 x2 ⟨D,rfl,⟨vacc,d2,r2⟩,n2,hd0,no2⟩ fun p ep=> by cases ep;exact hD⟩
  | some w=>
    obtain ⟨hl,ew⟩:=List.getElem?_eq_some_iff.mp e
    have ed:ws.drop i=w::ws.drop (i+1):=by rw [List.drop_eq_getElem_cons hl,ew]
    rw [ed] at z2
    simp only [lcLoop] at z2
    obtain ⟨go,yl⟩:=gi.2 w e
    refine .inr ⟨go,fun H'=> Keeps H1 H'∧∃acc vacc e k,H' D=some (.lst vacc)∧RepL G.K H' acc vacc∧BS G e k σ H'∧Xt env h σ H e k H'∧k D=none∧¬OwnAt e σ D∧
      lcLoop (own.map (·.2)) g tt te (fun acc e h'=> ∀v H',BS G e h' σ H'→Xt env h σ H e h' H'→RvRep G e h' σ H' (.own (.seq acc)) v→Q9 H (.own (.seq acc)) v→Q v H') (ws.drop (i+1)) acc e k,fun H' n=> ⟨m - 1,by omega,by omega,n.1,n.2⟩,fun x H3 y=> ?_⟩
    obtain ⟨nw,rx⟩:=yl x H3 y
    have S3:=nw.bs S2
    refine ⟨w,P8 e2 (own.map (·.2)),g2,rx,S3.wipe,mg _ _ _ _ _ (fun e4 g4 z4 σ4 H4 S4 x4=> ?_) z2⟩
    refine ⟨A8j x4.bt hsl,e4,g4,S4,mt _ _ _ _ (fun b e5 g5 z5 H5 S5 x5=> ?_) z4⟩
    have fin:∀{e6:A0} {g6:AH} {H6:Hp},BS G e6 g6 σ4 H6→Xt e4 g4 σ4 H4 e6 g6 H6→H6 D=some (.lst vacc)∧Keeps H2 H6∧BS G (mend e2 e6 (own.map (·.2))) g6 σ H6∧g6 D=none∧¬OwnAt (mend e2 e6 (own.map (·.2))) σ D∧
        ∀ys,Xt env h σ H (mend e2 e6 (own.map (·.2))) g6 (upd H6 D (.lst ys)):=fun {e6 g6 H6} S6 x6=> by
      have xx:=x4.trans x6.xg
      have noW:¬OwnAt (P8 e2 (own.map (·.2))) (wipe σ (own.map (·.2))) D:=fun q=> no2 q.wiped
      have f6:∀p o,H2 p=some o→g2 p=none→¬OwnAt e2 σ p→NT o→H6 p=some o:=fun p o e n q t=> xx.fr p o (nw p o e) n (fun q'=> q q'.wiped) t
      have kk:Keeps H2 H6:=fun p o e i=> f6 p o e (S2.imm e i).1 (S2.imm e i).2 i.nt
      have Sm:=BS.mend (sl:=sl++[]) S2 S6 kk xx.bt fun i hi=> hsl i (by simpa using hi)
      have g6D:g6 D=none:=by
        cases q:g6 D with
        | none=> rfl
        | some u=> have y:=xx.hn D u q n2;rw [nw D _ d2] at y;cases y
      have sameOut:∀{j:Nat},j∉own.map (·.2)→σ4[j]? =σ[j]? :=fun {j} hj=> (x4.bt.2 j fun q=> hj (hsl j q)).trans (s4 hj)
      have oM:∀p,OwnAt (mend e2 e6 (own.map (·.2))) σ p→OwnAt e2 σ p:=fun p ⟨j,c,a,b⟩=> by
        by_cases hj:j∈own.map (·.2)
        · obtain ⟨w',e0,_⟩:=t8 hj a;cases e0
        · rw [t4 hj] at a
          exact (xx.ow p ⟨j,c,a,(sameOut hj).trans b⟩).wiped
      refine ⟨f6 D _ d2 n2 no2 (Mu.nt (o:= .lst vacc) trivial),kk,Sm,g6D,fun q=> no2 (oM D q),fun ys=> ⟨fun p o e n q t=> ?_,fun p o e n=> ?_,fun p o e=> ?_,fun j c e=> ?_⟩⟩
      · have np:p≠D:=fun z=> by rw [z,hD] at e;cases e
        rw [upd_ne np]
        refine f6 p o (x2.fr p o e n q t) ?_ (fun y=> q (x2.own y)) t
        cases y:g2 p with
        | none=> rfl
        | some u=> rw [x2.hn p u y n] at e;cases e
      · cases y:g2 p with
        | some u=> exact x2.hn p u y n
        | none=>
          have y3:=xx.hn p o e y
          cases y4:H p with
          | none=> rfl
          | some u=>
            obtain ⟨u',y5⟩:=x2.th p u y4
            rw [nw p u' y5] at y3;cases y3
      · by_cases hp:p=D
        · subst hp;exact ⟨_,upd_same⟩
        · obtain ⟨u,y⟩:=x2.th p o e
          obtain ⟨u',y'⟩:=xx.th p u (nw p u y)
          exact ⟨u',by rw [upd_ne hp];exact y'⟩
      · by_cases hj:j∈own.map (·.2)
        · obtain ⟨w',e0,_⟩:=t8 hj e;cases e0
        · rw [t4 hj] at e
          obtain ⟨c1,y⟩:=xx.so j _ e
          obtain ⟨y1,_⟩:=A0n y
          exact x2.sl j c1 y1
    cases b with
    | true=>
      rw [if_pos rfl] at z5
      refine iteT ⟨e5,g5,S5,me _ _ _ _ (fun y e6 g6 ⟨hz,z6⟩ v H6 S6 x6 r6=> ?_) z5⟩
      obtain ⟨d6,k6,Sm,n6,no6,xm⟩:=fin S6 (x5.trans x6)
      obtain ⟨k7,S7⟩:=Sm.unseen (o':= .lst (vacc++[v])) d6 trivial n6 hd0 no6
      exact ⟨vacc,d6,by rw [←r2.length];exact hz,(k2.trans k6).trans k7,acc++[y],vacc++[v],_,g6,upd_same,(RepL.mono (k6.trans k7) _ _ r2).append (.cons (Rep.mono k7 _ _ r6) .nil),S7,xm _,n6,no6,z6⟩
    | false=>
      rw [if_neg Bool.false_ne_true] at z5
      refine iteF ?_
      obtain ⟨d6,k6,Sm,n6,no6,xm⟩:=fin S5 x5
      have eu:upd H5 D (.lst vacc)=H5:=by
        funext p
        by_cases hp:p=D
        · subst hp;rw [upd_same,d6]
        · rw [upd_ne hp]
      have xm':=xm vacc
      rw [eu] at xm'
      exact ⟨k2.trans k6,acc,vacc,_,g5,d6,RepL.mono k6 _ _ r2,Sm,xm',n6,no6,z5⟩
theorem C3x (hc:X.calm=true) (hN:X.N.Nodup) (hi:AI X G tg iter ti) (ok:BlkOk X.N X.env.scope scope own) (hsl:∀i∈sl,i∈own.map (·.2))
    (hg:∀(s:Shared) (H:Hp) (C:Addr) (cl:List (Str×Addr)) (fp:List Addr),AG (X.blk s H scope (compEnvC scope cl C X.env) fp) G tg sl g) (ht:∀(s:Shared) (H:Hp) (C:Addr) (cl:List (Str×Addr)) (fp:List Addr),APs (X.blk s H scope (compEnvC scope cl C X.env) fp) G ifs tt)
    (he:∀(s:Shared) (H:Hp) (C:Addr) (cl:List (Str×Addr)) (fp:List Addr),AV (X.blk s H scope (compEnvC scope cl C X.env) fp) G elt te) (mg:g7 g) (mt:A9 tt) (me:A9 te) (hs:∀x,foldedSetIterable iter X.env x=pure x:=by intro _;rfl):
    AE X G (.ListComp elt [⟨tg,iter,ifs,0⟩] scope pos) (o7 (own.map (·.2)) ti g tt te):=by
  exact ⟨fun env h Q Q' k q=> hi.mono env h _ _ (fun ws e1 h1 z=> lcLoop.mono mg mt me (fun a e h q=> k _ _ _ q) ws [] e1 h1 z) q,PE.imp (pe_lc hc hN hi.pi ok (fun s H C cl fp=> (hg s H C cl fp).pg) (fun s H C cl fp=> (ht s H C cl fp).pts) (fun s H C cl fp=> (he s H C cl fp).pe) hs) fun σ H Q q=> B3G hi hsl mg mt me q⟩
end
end Ab
namespace Ab
open PySem PySem.Spec PyProof.Rows L2
def D6 (h:AH) (a:Addr) (o:AO):AH:=fun b=> if b=a then some o else h b
theorem R4 {h:AH} {a:Addr} {o:AO}:D6 h a o a=some o:=by unfold D6;rw [if_pos rfl]
theorem I6 {h:AH} {a b:Addr} {o:AO} (n:b≠a):D6 h a o b=h b:=by unfold D6;rw [if_neg n]
def Q6 (env:A0) (h:AH):RV→Option Cont
  | .slot i=> match env[i]? with
    | some (some (.own c))=> some c
    | _=> none
  | .val (.ref a)=> match h a with
    | some (.cont c)=> some c
    | _=> none
  | _=> none
def A0b (env:A0) (r:RV) (c:Cont):A0:=match r with
  | .slot i=> env.set i (some (.own c))
  | _=> env
def A0a (h:AH) (r:RV) (c:Cont):AH:=match r with
  | .val (.ref a)=> D6 h a (.cont c)
  | _=> h
section
variable {G:Gx} {env:A0} {h:AH} {σ:L2.St} {H:Hp}
theorem A2Y (S:BS G env h σ H) {r:RV} {v:V} {c:Cont} (rr:RvRep G env h σ H r v) (e:Q6 env h r=some c):∃p,v= .ref p∧CRep G.K H p c∧
    ∀o' c',(Keeps H (upd H p o')→CRep G.K (upd H p o') p c')→BS G (A0b env r c') (A0a h r c') σ (upd H p o')∧Xt env h σ H (A0b env r c') (A0a h r c') (upd H p o'):=by
  have com:∀(p:Addr) (o':HO),(∃u,H p=some u∧Mu u)→Keeps H (upd H p o')∧(∀q o,H q=some o→∃u,upd H p o' q=some u):=fun p o' ⟨u,eu,mu⟩=> by
    refine ⟨fun q o eq i=> ?_,fun q o eq=> ?_⟩
    · have ne:q≠p:=fun z=> by subst z;rw [eu] at eq;cases eq;exact mu.imm i
      rw [upd_ne ne];exact eq
    · by_cases z:q=p
      · subst z;exact ⟨_,upd_same⟩
      · exact ⟨o,by rw [upd_ne z];exact eq⟩
  cases r with
  | own c0=> cases e
  | slot i=>
    have e:(match env[i]? with
      | some (some (.own c))=> some c
      | _=> none)=some c:=e
    split at e
    · rename_i c0 hs
      cases e
      obtain ⟨p,es,cr,n,n0⟩:=S.own i c hs
      have es':σ[i]? =some (some v):=rr
      rw [es] at es';cases es'
      refine ⟨p,rfl,cr,fun o' c' hc=> ?_⟩
      obtain ⟨kp,th⟩:=com p o' cr.there
      have hc:=hc kp
      have at_:∀(j:Nat) (sv:SV),(env.set i (some (SV.own c')))[j]? =some (some sv)→(j=i∧sv= .own c')∨(j≠i∧env[j]? =some (some sv)):=fun j sv z=> by
        rw [A4U hs] at z
        by_cases hj:j=i
        · rw [if_pos hj] at z;cases z;exact .inl ⟨hj,rfl⟩
        · rw [if_neg hj] at z;exact .inr ⟨hj,z⟩
      show BS G (env.set i (some (.own c'))) h σ _∧Xt env h σ H (env.set i (some (.own c'))) h _
      refine ⟨⟨by rw [List.length_set];exact S.len,fun j w z=> ?_,fun j d z=> ?_,fun j k d d' q z1 z2 f1 f2=> ?_,fun a o z=> ?_,fun q o z y t=> ?_,S.ext,fun q o z=> ?_,S.tabs.upd fun o z=> cr.mu_at z⟩,fun q o z y w t=> ?_,fun q o z y=> (by rw [y] at z;cases z),th,fun j d z=> ?_⟩
      · rcases at_ j _ z with ⟨_,z⟩ | ⟨_,z⟩
        · cases z
        · obtain ⟨u,a,b⟩:=S.val j w z;exact ⟨u,a,Rep.mono kp w u b⟩
      · rcases at_ j _ z with ⟨hj,z⟩ | ⟨hj,z⟩
        · cases z;exact ⟨p,hj▸es,hc,n,n0⟩
        · obtain ⟨q,a,b,x,y⟩:=S.own j d z
          have nq:q≠p:=fun z2=> hj (S.uni j i d c p z hs (z2▸a) es)
          exact ⟨q,a,b.mono kp (upd_ne nq),x,y⟩
      · rcases at_ j _ z1 with ⟨hj,y1⟩ | ⟨hj,y1⟩
        · rcases at_ k _ z2 with ⟨hk,y2⟩ | ⟨hk,y2⟩
          · rw [hj,hk]
          · rw [hj] at f1 ⊢;exact S.uni i k c d' q hs y2 f1 f2
        · rcases at_ k _ z2 with ⟨hk,y2⟩ | ⟨hk,y2⟩
          · rw [hk] at f2 ⊢;exact S.uni j i d c q y1 hs f1 f2
          · exact S.uni j k d d' q y1 y2 f1 f2
      · have na:a≠p:=fun y=> by rw [y,n] at z;cases z
        exact (S.hp a o z).mono kp (upd_ne na)
      · have nq:q≠p:=fun x=> by rw [x,n0] at z;cases z
        rw [upd_ne nq];exact S.fr q o z y t
      · obtain ⟨u,y⟩:=S.tr q o z;exact th q u y
      · have nq:q≠p:=fun x=> w ⟨i,c,hs,x▸es⟩
        rw [upd_ne nq];exact z
      · rcases at_ j _ z with ⟨hj,z⟩ | ⟨hj,z⟩
        · exact ⟨c,hj▸hs⟩
        · exact ⟨d,z⟩
    · cases e
  | val w0=>
    cases w0 with
    | ref a=>
      have e:(match h a with
        | some (.cont c)=> some c
        | _=> none)=some c:=e
      split at e
      · rename_i c0 ha
        cases e
        have ev:v= .ref a:=Rep.of_ref (K:=G.K) (H:=H) rr
        have cr:CRep G.K H a c:=S.hp a _ ha
        refine ⟨a,ev,cr,fun o' c' hc=> ?_⟩
        obtain ⟨kp,th⟩:=com a o' cr.there
        have hc:=hc kp
        show BS G env (D6 h a (.cont c')) σ _∧Xt env h σ H env (D6 h a (.cont c')) _
        have neo:∀{j:Nat} {d:Cont} {q:Addr},env[j]? =some (some (SV.own d))→σ[j]? =some (some (V.ref q))→q≠a:=fun z y x=> by
          obtain ⟨q',a',_,n,_⟩:=S.own _ _ z
          rw [y] at a';cases a'
          rw [x,ha] at n;cases n
        refine ⟨⟨S.len,fun j w z=> ?_,fun j d z=> ?_,S.uni,fun b o z=> ?_,fun q o z y t=> ?_,fun b o z y=> ?_,fun q o z=> ?_,S.tabs.upd fun o z=> cr.mu_at z⟩,fun q o z y w t=> ?_,fun q o z y=> ?_,th,fun j d z=> ⟨d,z⟩⟩
        · obtain ⟨u,x,y⟩:=S.val j w z;exact ⟨u,x,Rep.mono kp w u y⟩
        · obtain ⟨q,x,y,n,n0⟩:=S.own j d z
          have nq:=neo z x
          exact ⟨q,x,y.mono kp (upd_ne nq),by rw [I6 nq];exact n,n0⟩
        · by_cases hb:b=a
          · subst hb;rw [R4] at z;cases z;exact hc
          · rw [I6 hb] at z;exact (S.hp b o z).mono kp (upd_ne hb)
        · have nq:q≠a:=fun x=> by
            subst x
            have:=S.ext q _ ha y
            rw [this] at z;cases z
          rw [upd_ne nq];exact S.fr q o z y t
        · by_cases hb:b=a
          · subst hb;exact S.ext b _ ha y
          · rw [I6 hb] at z;exact S.ext b o z y
        · obtain ⟨u,y⟩:=S.tr q o z;exact th q u y
        · have nq:q≠a:=fun x=> by rw [x,ha] at y;cases y
          rw [upd_ne nq];exact z
        · have nq:q≠a:=fun x=> by rw [x,ha] at y;cases y
          rw [I6 nq,y] at z;cases z
      · cases e
    | _=> cases e
end
abbrev U3:=List W→List W→(List W→W→Prop)→Prop
structure LmOk (K:PySem.W.Frag) (r:V→List V→Hp→VK→Prop) (f:U3):Prop where
  mono:∀xs ws Q Q',(∀a b,Q a b→Q' a b)→f xs ws Q→f xs ws Q'
  ok:∀H p xs vs ws us Qf Q,H p=some (.lst vs)→RepL K H xs vs→RepL K H ws us→f xs ws Qf→(∀xs' vs' w v,Qf xs' w→RepL K H xs' vs'→Rep K H w v→Q v (upd H p (.lst vs')))→r (.ref p) us H Q
def A9r:Option Cont→Prop
  | some (.seq _)=> True
  | _=> False
def aLm (f:U3) (to:AT) (t:E5):AT:=fun env h Q=> to env h fun ro env1 h1=> A9r (Q6 env1 h1 ro)∧t env1 h1 fun ws env2 h2=> match Q6 env2 h2 ro with
  | some (.seq xs)=> f xs ws fun xs' w=> Q (.val w) (A0b env2 ro (.seq xs')) (A0a h2 ro (.seq xs'))
  | _=> False
theorem aLm.mono {K:PySem.W.Frag} {r:V→List V→Hp→VK→Prop} {f:U3} {to:AT} {t:E5} (lm:LmOk K r f) (a:A9 to) (b:A9 t):A9 (aLm f to t):=fun env h Q Q' k q=> a env h _ _ (fun ro e g z=> ⟨z.1,b e g _ _ (fun ws e2 g2 z=> by
  split at z
  · exact lm.mono _ _ _ _ (fun _ _ q=> k _ _ _ q) z
  · exact z) z.2⟩) q
section
variable {X:Cx} {G:Gx} {o e:Expr} {es:List Expr} {to:AT} {t:E5} {name:Str} {apos cpos:Pos} {id:String} {r:V→List V→Hp→VK→Prop} {f:U3}
theorem C06 {σ:L2.St} {H:Hp} {Q:VK} (gk:G.K=X.K) (lm:LmOk G.K r f) (mo:A9 to) (mt:A9 t) (q:cE G (aLm f to t) σ H Q):tBM X.K "list" r (cE G to) (cA G t) σ H Q:=by
  obtain ⟨env,h,S,q⟩:=q
  refine ⟨env,h,S,mo env h _ _ (fun ro env1 h1 ⟨hs,z⟩ x H1 S1 x1 r1 f1=> ?_) q⟩
  have ty:tyV X.K "list" x H1:=by
    cases e:Q6 env1 h1 ro with
    | none=> rw [e] at hs;exact hs.elim
    | some c=>
      cases c with
      | map _=> rw [e] at hs;exact hs.elim
      | seq xs=>
        obtain ⟨p,rfl,⟨vs,l,_⟩,_⟩:=A2Y S1 r1 e
        exact .inl ⟨rfl,_,.inl (.inl l)⟩
  refine ⟨ty,env1,h1,S1,mt env1 h1 _ _ (fun ws env2 h2 z vs H2 S2 x2 r2=> ?_) z⟩
  split at z
  · rename_i xs e
    obtain ⟨p,rfl,⟨us,l,rl⟩,put⟩:=A2Y S2 (r1.xt S1 x2) e
    refine lm.ok H2 p xs us ws vs _ Q l rl r2 z fun xs' vs' w v q0 ra rw0=> ?_
    have kp:Keeps H2 (upd H2 p (.lst vs')):=fun q o e i=> by
      have ne:q≠p:=fun z=> by subst z;rw [l] at e;cases e;exact i
      rw [upd_ne ne];exact e
    obtain ⟨S3,x3⟩:=put (.lst vs') (.seq xs') fun k=> ⟨vs',upd_same,RepL.mono k _ _ ra⟩
    exact q0 v _ S3 (x1.trans (x2.trans x3)) (show Rep G.K _ w v from Rep.mono kp w v rw0) trivial
  · exact z.elim
theorem A94 (gk:G.K=X.K) (lm:LmOk G.K r f) (pa:PlainAttrs "list") (slot:Slot "list" name id) (hty:typeOf (.builtin id)=pure (.type "method_descriptor")) (hm:MtR X id r) (ho:AE X G o to) (ha:AA X G (e::es) t)
    (hbase:attributeBase o name X.env (eval o X.env)=eval o X.env:=by rfl)
    (hfew:((backTo cpos (starEach (e::es) X.env)).all (fun x=> !x.1) && (backToKw cpos (keywordEach [] X.env)).all (fun x=> x.1.isSome)
      && decide ((e::es).length+([]:List Keyword).length+(if ([]:List Keyword).isEmpty then 0 else 1) < 30))=true:=by rfl)
    (hline:(apos.endLine==cpos.line)=true:=by rfl) (hs:starEach (e::es) X.env=(false,eval e X.env)::starEach es X.env:=by rfl) (hplain:(backTo cpos (starEach es X.env)).any (·.1)=false:=by rfl):
    AE X G (.Call (.Attribute o name apos) (e::es) [] cpos) (aLm f to t):=
  ⟨aLm.mono lm ho.mono ha.mono,PE.imp (pe_bm pa slot hty hm ho.pe ha.pa hbase hfew hline hs hplain) fun _ _ _ q=> C06 gk lm ho.mono ha.mono q⟩
end
section
variable {K:PySem.W.Frag}
def k9:U3:=fun xs ws Q=> match ws with
  | [y]=> xs.length < sizeLine∧Q (xs++[y]) .non
  | _=> False
theorem A8T:LmOk K rAppend k9:=
  ⟨fun xs ws Q Q' k q=> by
    unfold k9 at q ⊢
    split at q
    · exact ⟨q.1,k _ _ q.2⟩
    · exact q,fun H p xs vs ws us Qf Q l rl rw0 q k=> by
    unfold k9 at q
    split at q
    · obtain ⟨v,t,rfl,rv,rt⟩:=rw0.of_cons
      rw [rt.of_nil]
      exact ⟨p,vs,v,rfl,rfl,l,by rw [←rl.length];exact q.1,k _ _ _ _ q.2 (rl.append (.cons rv .nil)) .non⟩
    · exact q.elim⟩
end
def A1E (to ti:AT):G5:=fun w env h Q=> to env h fun ro env1 h1=> ti env1 h1 fun ri env2 h2=> match view env2 h2 ri with
  | .wv (.int k)=> match Q6 env2 h2 ro with
    | some (.seq xs)=> ∃j,ixN xs.length k=some j∧Q (A0b env2 ro (.seq (xs.set j w))) (A0a h2 ro (.seq (xs.set j w)))
    | _=> False
  | _=> False
section
variable {X:Cx} {G:Gx} {o i:Expr} {to ti:AT} {pos:Pos}
theorem A2R (ho:AE X G o to) (hi:AE X G i ti)
    (ha:PG X (.Subscript o i pos) (gSub (cE G to) (cE G ti) rSetL)):AG X G (.Subscript o i pos) [] (A1E to ti):=by
  refine ⟨fun w env h Q Q' k q=> ho.mono env h _ _ (fun ro e g z=> hi.mono e g _ _ (fun ri e g z=> ?_) z) q,PG.imp ha fun v σ H Q ⟨w,env,h,rv,S,q⟩=> ?_⟩
  · split at z
    · split at z
      · obtain ⟨j,e,z⟩:=z;exact ⟨j,e,k _ _ z⟩
      · exact z
    · exact z
  · refine ⟨env,h,S,ho.mono env h _ _ (fun ro env1 h1 z x H1 S1 x1 r1 f1=> ?_) q⟩
    refine ⟨env1,h1,S1,hi.mono env1 h1 _ _ (fun ri env2 h2 z y H2 S2 x2 r2 f2=> ?_) z⟩
    have ry:=r2.vr S2
    split at z
    · rename_i k ek
      rw [ek] at ry
      split at z
      · rename_i xs e
        obtain ⟨j,ej,z⟩:=z
        obtain ⟨p,rfl,⟨us,l,rl⟩,put⟩:=A2Y S2 (r1.xt S1 x2) e
        have rv2:Rep G.K H2 w v:=Rep.mono ((x1.keeps S).trans (x2.keeps S1)) w v rv
        refine ⟨p,us,k,j,rfl,ry.int,l,by rw [←rl.length];exact ej,?_⟩
        obtain ⟨S3,x3⟩:=put (.lst (us.set j v)) (.seq (xs.set j w)) fun kk=> ⟨_,upd_same,RepL.mono kk _ _ (rl.set j rv2)⟩
        exact z σ _ S3 (x1.trans (x2.trans x3)).xg
      · exact z.elim
    · exact z.elim
end
section
variable {X:Cx} {G:Gx} {tg e:Expr} {tv:C3} {g:G5} {sl:List Nat} {pos:Pos} {st:Stmt} {t:C0}
def O2 (tv:C3) (g:G5):C0:=fun D env h=> tv env h fun w env1 h1=> g w env1 h1 D.nx
theorem P7 (he:AV X G e tv) (hg:AG X G tg sl g) (hs:swapsWithSole [tg] e pos.line X.env=pure false:=by rfl) (hw:swappedStores [tg] e X.env=pure none:=by rfl) (h1:(assignEach [tg] X.env).map (·.2)=[assign tg X.env]:=by rfl):AS X G (.Assign [tg] e pos) (O2 tv g):=by
  refine ⟨fun D D' env h l q=> he.mono env h _ _ (fun w e g z=> hg.mono _ _ _ _ _ l.nx z) q,PS.imp (ps_asg he.pe hg.pg hs hw h1) fun D σ H ⟨env,h,Da,S,q,l⟩=> ?_⟩
  refine ⟨env,h,S,he.mono env h _ _ (fun w env1 h1 z v H1 S1 x1 r1=> ?_) q⟩
  exact ⟨w,env1,h1,r1,S1,hg.mono _ _ _ _ _ (fun env2 h2 z σ2 H2 S2 x2=> l.nx _ _ _ _ S2 ((x1.keeps S).trans (x2.keeps S1)) z) z⟩
def A3N (i:Nat) (t:C0):C0:=fun D env h=> match env[i]? with
  | some (some (.own c))=> ∀p,h p=none→t D (env.set i (some (.val (.ref p)))) (D6 h p (.cont c))
  | _=> False
theorem C1B (i:Nat) (a:AS X G st t):AS X G st (A3N i t):=by
  refine ⟨fun D D' env h l q=> ?_,PS.imp a.ps fun D σ H ⟨env,h,Da,S,q,l⟩=> ?_⟩
  · unfold A3N at q ⊢
    split at q
    · exact fun p n=> a.mono _ _ _ _ l (q p n)
    · exact q
  · unfold A3N at q
    split at q
    · rename_i c e
      obtain ⟨p,es,cr,n,n0⟩:=S.own i c e
      refine ⟨_,_,Da,?_,q p n,l⟩
      have at_:∀(j:Nat) (sv:SV),(env.set i (some (SV.val (.ref p))))[j]? =some (some sv)→(j=i∧sv= .val (.ref p))∨(j≠i∧env[j]? =some (some sv)):=fun j sv z=> by
        rw [A4U e] at z
        by_cases hj:j=i
        · rw [if_pos hj] at z;cases z;exact .inl ⟨hj,rfl⟩
        · rw [if_neg hj] at z;exact .inr ⟨hj,z⟩
      refine ⟨by rw [List.length_set];exact S.len,fun j w z=> ?_,fun j d z=> ?_,fun j k d d' q z1 z2 f1 f2=> ?_,fun a o z=> ?_,S.fr,fun a o z y=> ?_,S.tr,S.tabs⟩
      · rcases at_ j _ z with ⟨hj,z⟩ | ⟨_,z⟩
        · cases z;exact ⟨_,hj▸es,.ref⟩
        · exact S.val j w z
      · rcases at_ j _ z with ⟨_,z⟩ | ⟨hj,z⟩
        · cases z
        · obtain ⟨q,a,b,x,y⟩:=S.own j d z
          have nq:q≠p:=fun z2=> hj (S.uni j i d c p z e (z2▸a) es)
          exact ⟨q,a,b,by rw [I6 nq];exact x,y⟩
      · rcases at_ j _ z1 with ⟨_,y⟩ | ⟨_,y1⟩
        · cases y
        · rcases at_ k _ z2 with ⟨_,y⟩ | ⟨_,y2⟩
          · cases y
          · exact S.uni j k d d' q y1 y2 f1 f2
      · by_cases ha:a=p
        · subst ha;rw [R4] at z;cases z;exact cr
        · rw [I6 ha] at z;exact S.hp a o z
      · by_cases ha:a=p
        · subst ha;exact n0
        · rw [I6 ha] at z;exact S.ext a o z y
    · exact q.elim
end
def F8 (n:Nat) (ws:List W):A0:=ws.map (fun w=> some (.val w))++List.replicate (n - ws.length) none
def AH.Le (h h':AH):Prop:=∀a o,h a=some o→h' a=some o
def C2 (Qa:RR→AH→Prop):AEnds where
  nx:=fun _ h=> ∃h',AH.Le h' h∧Qa (.val .non) h'
  rt:=fun r env h=> ∃h',AH.Le h' h∧match r with
    | .val w=> Qa (.val w) h'
    | .own c=> Qa (.own c) h'
    | .slot i=> match env[i]? with
      | some (some (.val w))=> Qa (.val w) h'
      | some (some (.own c))=> Qa (.own c) h'
      | _=> False
def C7 (Ea:AExc→AH→Prop):AExc→A0→AH→Prop:=fun x _ h=> ∃h',AH.Le h' h∧Ea x h'
theorem BS.begin {K:PySem.W.Frag} {h:AH} {H:Hp} {ws:List W} {vs:List V} {N:List Str} (hp:∀a o,h a=some o→ORep K H a o) (tb:TabsK K H) (r:RepL K H ws vs) (hl:ws.length≤N.length):BS ⟨K,h,H⟩ (F8 N.length ws) h (L2.start N vs) H:=by
  have e1:(F8 N.length ws).length=N.length:=by simp [F8];omega
  have e2:(L2.start N vs).length=N.length:=by simp [L2.start,←r.length];omega
  have at_:∀(i:Nat) (sv:SV),(F8 N.length ws)[i]? =some (some sv)→∃w,sv= .val w∧ws[i]? =some w:=fun i sv e=> by
    unfold F8 at e
    by_cases hi:i < ws.length
    · rw [List.getElem?_append_left (by simpa using hi),List.getElem?_map] at e
      cases q:ws[i]? with
      | none=> rw [q] at e;cases e
      | some w=> rw [q] at e;cases e;exact ⟨w,rfl,rfl⟩
    · rw [List.getElem?_append_right (by simpa using hi),List.getElem?_replicate] at e
      split at e <;> cases e
  refine ⟨by rw [e1,e2],fun i w e=> ?_,fun i c e=> ?_,fun i j c c' p e=> ?_,hp,fun p o e _ _=> e,fun a o e n=> (by have n:h a=none:=n;rw [n] at e;cases e),fun p o e=> ⟨o,e⟩,tb⟩
  · obtain ⟨w',z,y⟩:=at_ i _ e
    cases z
    obtain ⟨v,ev,rv⟩:=r.get y
    refine ⟨v,?_,rv⟩
    have hi:i < vs.length:=(List.getElem?_eq_some_iff.mp ev).1
    unfold L2.start
    rw [List.getElem?_append_left (by simpa using hi),List.getElem?_map,ev]
    rfl
  · obtain ⟨w',z,_⟩:=at_ i _ e;cases z
  · obtain ⟨w',z,_⟩:=at_ i _ e;cases z
section
variable {P:Program} {w:World} {K:PySem.W.Frag} {mg:Str→Option Value} {base:Heap} {x qual:Str} {params:Arguments} {body:List Stmt} {scope:Scope} {f:Addr} {fd:FuncData} {N ps:List Str} {k n:Nat} {sp:B8}
abbrev bx (P:Program) (w:World) (K:PySem.W.Frag) (mg:Str→Option Value) (base:Heap) (N:List Str) (qual:Str) (scope:Scope) (f:Addr) (cdv:Value) (A:Around) (outer:List Env) (s:Shared) (H:Hp) (E:XK):Cx:=
  cxOf (L2.CX P w) P w K mg base N qual scope f cdv A outer s H E
theorem HS.le {G:Gx} {h h':AH} {H:Hp} (a:HS G h H) (l:AH.Le h' h):HS G h' H:=⟨fun p o e=> a.hp p o (l p o e),a.fr,fun p o e=> a.ext p o (l p o e),a.tr,a.tabs⟩
theorem A9h {t:(AExc→A0→AH→Prop)→C0} (dvs:List V) (kws:List (Str×V)) (F:FunD K x qual params body scope dvs kws f fd) (S:FnScope N ps scope) (hn:ps.length=n)
    (hb:∀(cdv:Value) (A:Around) (outer:List Env) (s:Shared) (H:Hp) (E:XK) (G:Gx) (E':AExc→A0→AH→Prop),Room k (A.deeper (envOfC qual scope s.heap.objs.size f cdv))→G.K=K→Takes (bx P w K mg base N qual scope f cdv A outer s H E) (cW G E')→
      ASs (bx P w K mg base N qual scope f cdv A outer s H E) G body (t E'))
    (hq:∀ws h Qa Ea,ws.length=n→sp ws h Qa Ea→t (C7 Ea) (C2 Qa) (F8 N.length ws) h):
    FnOk P w K mg base (L2.CX P w) (k+1) f fd ps (R9 K n sp):=by
  refine F.ok S (fun vs H Q E ⟨ws,h,Qa,Ea,hl,_,_,r,_⟩=> by rw [←r.length,hl,hn]) (fun cdv A outer s H vs Q E hr ⟨ws,h,Qa,Ea,hl,hp,tb,r,q,kq,ke⟩=> ?_)
  have hwN:ws.length≤N.length:=by
    have z:=congrArg List.length S.pre
    rw [List.length_take] at z
    omega
  have tk:Takes (bx P w K mg base N qual scope f cdv A outer s H E) (cW ⟨K,h,H⟩ (C7 Ea)):=Takes.imp (W:=fun cls d _ H'=> E cls d H') (takes_of rfl rfl rfl rfl) fun cls d σ H' ⟨x,env,h',SB,xr,h'',le,e⟩=>
    ke x h'' cls d H' e (HS.le (G:=⟨K,h,H⟩) ⟨SB.hp,SB.fr,SB.ext,SB.tr,SB.tabs⟩ le) xr
  refine ⟨_,(hb cdv A outer s H E ⟨K,h,H⟩ (C7 Ea) hr rfl tk).ps,F8 N.length ws,h,C2 Qa,BS.begin hp tb r hwN,hq ws h Qa Ea hl q,?_⟩
  have hs:∀{env h' σ' H'},BS ⟨K,h,H⟩ env h' σ' H'→HS ⟨K,h,H⟩ h' H':=fun SB=> ⟨SB.hp,SB.fr,SB.ext,SB.tr,SB.tabs⟩
  refine ⟨fun env h' σ' H' SB _ ⟨h'',le,e⟩=> kq (.val .non) h'' .non H' e ((hs SB).le le) (show Rep K H' .non .non from .non),fun r0 env h' σ' H' v SB _ rr ⟨h'',le,e⟩=> ?_,fun _ _ _ _ _ _ z=> z.elim,fun _ _ _ _ _ _ z=> z.elim⟩
  have own_end:∀{p:Addr} {c:Cont},v= .ref p→CRep K H' p c→h' p=none→H p=none→A0U ⟨K,h,H⟩ h'' H' (.own c) v:=fun {p c} e1 e2 e3 e4=> by
    have e5:h'' p=none:=by
      cases z:h'' p with
      | none=> rfl
      | some u=> rw [le p u z] at e3;cases e3
    exact ⟨p,e1,e2,e5,e4⟩
  cases r0 with
  | val w0=> exact kq (.val w0) h'' v H' e ((hs SB).le le) rr
  | own c=>
    obtain ⟨p,e1,cr,a,b,_⟩:=rr
    exact kq (.own c) h'' v H' e ((hs SB).le le) (own_end e1 cr a b)
  | slot i=>
    have es:σ'[i]? =some (some v):=rr
    have e:match env[i]? with
      | some (some (.val w))=> Qa (.val w) h''
      | some (some (.own c))=> Qa (.own c) h''
      | _=> False:=e
    split at e
    · rename_i w0 ei
      obtain ⟨u,e3,rv⟩:=SB.val i w0 ei
      rw [es] at e3;cases e3
      exact kq (.val w0) h'' v H' e ((hs SB).le le) rv
    · rename_i c ei
      obtain ⟨p,e3,cr,a,b⟩:=SB.own i c ei
      rw [es] at e3;cases e3
      exact kq (.own c) h'' _ H' e ((hs SB).le le) (own_end rfl cr a b)
    · exact e.elim
end
end Ab
namespace Ab
open PySem PySem.Spec PyProof.Rows L2 RZ
def A04 (ta tb:AT):AT:=fun env h Q=> ta env h fun r env1 h1=> match view env1 h1 r with
  | .wv (.bl c)=> if c=true then tb env1 h1 Q else Q (.val (.bl false)) env1 h1
  | _=> False
def A9u (ta:AT):AT:=fun env h Q=> ta env h fun r env1 h1=> match view env1 h1 r with
  | .wv (.bl c)=> Q (.val (.bl (!c))) env1 h1
  | _=> False
section
variable {X:Cx} {G:Gx} {a b:Expr} {ta tb:AT} {pos:Pos} {rest:List Expr}
theorem B9q {env env1:A0} {h h1:AH} {σ:L2.St} {H H1:Hp} (x1:Xt env h σ H env1 h1 H1) {r:RV} {v:V} (f:Q9 H1 r v):Q9 H r v:=by
  cases r with
  | own c=> exact fun p e=> x1.fresh (f p e)
  | _=> trivial
theorem C0W {t:AT} {env env1:A0} {h h1:AH} {σ:L2.St} {H H1:Hp} {Q:VK} (m:A9 t) (S1:BS G env1 h1 σ H1) (x1:Xt env h σ H env1 h1 H1)
    (z:t env1 h1 fun r env' h'=> ∀v H',BS G env' h' σ H'→Xt env h σ H env' h' H'→RvRep G env' h' σ H' r v→Q9 H r v→Q v H'):cE G t σ H1 Q:=
  ⟨env1,h1,S1,m env1 h1 _ _ (fun r env2 h2 z2 v H2 S2 x2 r2 f2=> z2 v H2 S2 (x1.trans x2) r2 (B9q x1 f2)) z⟩
theorem A27 (ha:AE X G a ta):AE X G (.BoolOp .And [a] pos) ta:=⟨ha.mono,pe_one ha.pe⟩
theorem A2U (ha:AE X G a ta) (hb:AE X G (.BoolOp .And (b::rest) pos) tb):AE X G (.BoolOp .And (a::b::rest) pos) (A04 ta tb):=by
  refine ⟨fun env h Q Q' k q=> ha.mono env h _ _ (fun r e g z=> ?_) q,PE.imp (pe_and ha.pe hb.pe) fun σ H Q ⟨env,h,S,q⟩=> ⟨env,h,S,ha.mono env h _ _ (fun r e g z v H1 S1 x1 r1 f1=> ?_) q⟩⟩
  · split at z
    · rename_i c _
      cases c with
      | true=> exact iteT (hb.mono e g _ _ k (by simpa using z))
      | false=> exact iteF (k _ _ _ (by simpa using z))
    · exact z
  · have rv:=r1.vr S1
    split at z
    · rename_i c ec
      rw [ec] at rv
      refine ⟨c,rv.bl,?_⟩
      cases c with
      | true=> rw [if_pos rfl] at z;exact iteT (C0W hb.mono S1 x1 z)
      | false=> rw [if_neg Bool.false_ne_true] at z;exact iteF (z (.bl false) H1 S1 x1 (show Rep G.K H1 (.bl false) (.bl false) from .bl) trivial)
    · exact z.elim
theorem C2A (ha:AE X G a ta):AE X G (.UnaryOp .Not a pos) (A9u ta):=by
  refine ⟨fun env h Q Q' k q=> ha.mono env h _ _ (fun r e g z=> ?_) q,PE.imp (pe_not ha.pe) fun σ H Q ⟨env,h,S,q⟩=> ⟨env,h,S,ha.mono env h _ _ (fun r e g z v H1 S1 x1 r1 f1=> ?_) q⟩⟩
  · split at z
    · exact k _ _ _ z
    · exact z
  · have rv:=r1.vr S1
    split at z
    · rename_i c ec
      rw [ec] at rv
      exact ⟨c,rv.bl,z (.bl (!c)) H1 S1 x1 (show Rep G.K H1 (.bl (!c)) (.bl (!c)) from .bl) trivial⟩
    · exact z.elim
theorem C1y (ha:AE X G a ta) (hb:AE X G b tb):AE X G (.BinOp a .Pow b pos) (aOp2 (oII CPow fun i j=> .int (i ^ j.toNat)) ta tb):=A3O op_pow (A8t fun _ _ _=> .int) ha hb
end
structure AK (X:Cx) (G:Gx) (kws:List Keyword) (t:E5):Prop where
  mono:A9 t
  pk:PK X kws (cA G t)
theorem PK.imp {X:Cx} {e:List Keyword} {t t':TA} (h:PK X e t) (i:∀σ H Q,t' σ H Q→t σ H Q):PK X e t':=⟨fun pos pins s σ H Q I q=> h.run pos pins s σ H Q I (i σ H Q q)⟩
section
variable {X:Cx} {G:Gx} {k n:Nat} {f:Addr} {fd:FuncData} {ps ks:List Str} {sp:B8} {x:Str} {p pos kpos:Pos} {e:Expr} {es:List Expr} {kws:List Keyword} {nm:Option Str} {t tk:E5} {tv:C3} {E:AExc→A0→AH→Prop}
structure AKB (K:PySem.W.Frag) (fd:FuncData) (ps ks:List Str) (n:Nat) (gW:List W→List W→List W) where
  g:List Value→List Value→List Value
  gV:List V→List V→List V
  kb:KBinds K fd ps ks g gV
  rep:∀(H:Hp) (ws zs:List W) (vs us:List V),(gW ws zs).length=n→RepL K H ws vs→RepL K H zs us→RepL K H (gW ws zs) (gV vs us)
def aCallK (E:AExc→A0→AH→Prop) (sp:B8) (n:Nat) (gW:List W→List W→List W) (t tk:E5):AT:=fun env h Q=> t env h fun ws env1 h1=> tk env1 h1 fun zs env2 h2=> (gW ws zs).length=n∧sp (gW ws zs) h2 (fun r h3=> match r with
  | .val w=> Q (.val w) env2 h3
  | .own c=> Q (.own c) env2 h3) fun x h3=> E x env2 h3
theorem aCallK.mono {gW:List W→List W→List W} (m:L6 sp) (a:A9 t) (b:A9 tk):A9 (aCallK E sp n gW t tk):=fun env h Q Q' k q=> a env h _ _ (fun ws e g z=> b e g _ _ (fun zs e g z=> ⟨z.1,m _ _ _ _ _ _ (fun r f y=> by
  cases r with
  | val w=> exact k _ _ _ y
  | own c=> exact k _ _ _ y) (fun x f y=> y) z.2⟩) z) q
end
end Ab
namespace Ab
open PySem PySem.Spec PyProof.Rows L2 RZ
section
variable {X:Cx} {G:Gx} {a b c:Expr} {ta tb tc:AT} {t:G7} {pos p:Pos}
theorem v3 (h:AE X G a ta) (he:∀whole,isTrue a X.env whole=(do let v ←whole;standAt a.pos;holding [v] (truthy v)):=by intro _;rfl):AP X G a (aTst ta):=C2T h fun t k=> pt_val k he
theorem A9m (ha:AE X G a ta) (hb:AE X G b tb):AP X G (.Compare a [.Lt] [b] pos) (aTst (aOp2 (oII (fun _ _=> True) fun i j=> .bl (decide (i < j))) ta tb)):=A0y op_lt (A4Y fun _ _ _=> .bl) ha hb (nomark _)
theorem C33 (ha:AE X G a ta) (hb:AE X G b tb):AP X G (.Compare a [.Gt] [b] pos) (aTst (aOp2 (oII (fun _ _=> True) fun i j=> .bl (decide (j < i))) ta tb)):=A0y op_gt (A4Y fun _ _ _=> .bl) ha hb (nomark _)
theorem A99 (ha:AE X G a ta) (hb:AE X G b tb):AP X G (.Compare a [.GtE] [b] pos) (aTst (aOp2 (oII (fun _ _=> True) fun i j=> .bl (decide (j≤i))) ta tb)):=A0y op_ge (A4Y fun _ _ _=> .bl) ha hb (nomark _)
theorem A9q (gk:G.K=X.K) (hu:X.A.units+64 < cLine) (ha:AE X G a ta) (hb:AE X G b tb):AP X G (.Compare a [.Eq] [b] pos) (aTst (aOp2 (F0 false) ta tb)):=A0y (B4V hu) (gk▸A9P) ha hb (nomark _)
theorem A0X (gk:G.K=X.K) (hu:X.A.units+64 < cLine) (ha:AE X G a ta) (hb:AE X G b tb):AP X G (.Compare a [.NotEq] [b] pos) (aTst (aOp2 (F0 true) ta tb)):=A0y (C2E hu) (gk▸A9P) ha hb (nomark _)
theorem C2m (ha:AE X G a ta) (hb:AE X G b tb):AE X G (.Compare a [.Is] [b] pos) (aOp2 (O3 false) ta tb):=A6k op_isN B37 ha hb (nomark _)
theorem C1s (ha:AE X G a ta) (hb:AE X G b tb):AP X G (.Compare a [.Is] [b] pos) (aTst (aOp2 (O3 false) ta tb)):=A0y op_isN B37 ha hb (nomark _)
theorem B3I (ha:AE X G a ta) (hb:AE X G b tb):AP X G (.Compare a [.IsNot] [b] pos) (aTst (aOp2 (O3 true) ta tb)):=A0y op_notN B83 ha hb (nomark _)
theorem B5G (gk:G.K=X.K) (hu:X.A.units+64 < cLine) (ha:AE X G a ta) (hb:AE X G b tb) (hm:behindInMarks .In b=false:=by rfl):AP X G (.Compare a [.In] [b] pos) (aTst (aOp2 (V9 false) ta tb)):=A0y (C1f hu) (gk▸B33) ha hb hm
theorem C16 (gk:G.K=X.K) (hu:X.A.units+64 < cLine) (ha:AE X G a ta) (hb:AE X G b tb) (hm:behindInMarks .NotIn b=false:=by rfl):AP X G (.Compare a [.NotIn] [b] pos) (aTst (aOp2 (V9 true) ta tb)):=A0y (B8r hu) (gk▸B33) ha hb hm
def A3Z (ta:AT):AT:=fun env h Q=> ta env h fun r env1 h1=> match view env1 h1 r with
  | .wv (.int i)=> Q (.val (.int (-i))) env1 h1
  | _=> False
theorem A6h (ha:AE X G a ta):AE X G (.UnaryOp .USub a pos) (A3Z ta):=by
  refine ⟨fun env h Q Q' k q=> ha.mono env h _ _ (fun r e g z=> ?_) q,PE.imp (pe_un un_neg ha.pe) fun σ H Q ⟨env,h,S,q⟩=> ⟨env,h,S,ha.mono env h _ _ (fun r e g z v H1 S1 x1 r1 f1=> ?_) q⟩⟩
  · split at z
    · exact k _ _ _ z
    · exact z
  · have rv:=r1.vr S1
    split at z
    · rename_i i ei
      rw [ei] at rv
      exact ⟨i,rv.int,z _ H1 S1 x1 (show Rep G.K H1 _ _ from .int) trivial⟩
    · exact z.elim
def aChn (P P':Int→Int→Bool) (ta tb tc:AT):AT:=fun env h Q=> ta env h fun ra env1 h1=> tb env1 h1 fun rb env2 h2=> match view env2 h2 ra,view env2 h2 rb with
  | .wv (.int i),.wv (.int j)=> if P i j=true then tc env2 h2 fun rc env3 h3=> (match view env3 h3 rc with
      | .wv (.int k)=> Q (.val (.bl (P' j k))) env3 h3
      | _=> False) else Q (.val (.bl false)) env2 h2
  | _,_=> False
theorem aChn.mono {P P':Int→Int→Bool} (ma:A9 ta) (mb:A9 tb) (mc:A9 tc):A9 (aChn P P' ta tb tc):=fun env h Q Q' k q=> ma env h _ _ (fun ra e g z=> mb e g _ _ (fun rb e g z=> by
  split at z
  · refine ite2 (fun y=> ?_) fun y=> k _ _ _ (by rw [if_neg y] at z;exact z)
    rw [if_pos y] at z
    refine mc _ _ _ _ (fun rc e g z=> ?_) z
    split at z
    · exact k _ _ _ z
    · exact z
  · exact z) z) q
theorem B2c {P P':Int→Int→Bool} {σ:L2.St} {H:Hp} {Q:VK} (ma:A9 ta) (mb:A9 tb) (mc:A9 tc) (q:cE G (aChn P P' ta tb tc) σ H Q):
    tChain (rI0 fun i j=> .bl (P i j)) (rI0 fun i j=> .bl (P' i j)) (cE G ta) (cE G tb) (cE G tc) σ H Q:=by
  obtain ⟨env,h,S,q⟩:=q
  refine ⟨env,h,S,ma env h _ _ (fun ra env1 h1 z v H1 S1 x1 r1 f1=> ?_) q⟩
  refine ⟨env1,h1,S1,mb env1 h1 _ _ (fun rb env2 h2 z u H2 S2 x2 r2 f2=> ?_) z⟩
  have va:=(r1.xt S1 x2).vr S2
  have vb:=r2.vr S2
  split at z
  · rename_i i j ei ej
    rw [ei] at va
    rw [ej] at vb
    refine ⟨i,j,va.int,vb.int,P i j,rfl,ite2 (fun y=> ?_) fun y=> ?_⟩
    · rw [if_pos y] at z
      refine ⟨env2,h2,S2,mc env2 h2 _ _ (fun rc env3 h3 z w H3 S3 x3 r3 f3=> ?_) z⟩
      have vc:=r3.vr S3
      split at z
      · rename_i k ek
        rw [ek] at vc
        exact ⟨j,k,vb.int,vc.int,z _ H3 S3 (x1.trans (x2.trans x3)) (show Rep G.K H3 _ _ from .bl) trivial⟩
      · exact z.elim
    · rw [if_neg y] at z
      exact z _ H2 S2 (x1.trans x2) (show Rep G.K H2 _ _ from .bl) trivial
  · exact z.elim
theorem B4K {op op':CmpOp} {P P':Int→Int→Bool} (ho:OpR X (compareOp op) (rI0 fun i j=> .bl (P i j))) (ho':OpR X (compareOp op') (rI0 fun i j=> .bl (P' i j))) (ha:AE X G a ta) (hb:AE X G b tb) (hc:AE X G c tc)
    (hm:lastMarks [op,op'] [b,c]=false:=by with_unfolding_all rfl):AE X G (.Compare a [op,op'] [b,c] pos) (aChn P P' ta tb tc):=
  ⟨aChn.mono ha.mono hb.mono hc.mono,PE.imp (pe_chain ho ho' ha.pe hb.pe hc.pe hm) fun _ _ _ q=> B2c ha.mono hb.mono hc.mono q⟩
theorem A4h {op op':CmpOp} {P P':Int→Int→Bool} (ho:OpR X (compareOp op) (rI0 fun i j=> .bl (P i j))) (ho':OpR X (compareOp op') (rI0 fun i j=> .bl (P' i j))) (ha:AE X G a ta) (hb:AE X G b tb) (hc:AE X G c tc)
    (hm:lastMarks [op,op'] [b,c]=false:=by with_unfolding_all rfl):AP X G (.Compare a [op,op'] [b,c] pos) (aTst (aChn P P' ta tb tc)):=by
  refine ⟨aTst.mono (aChn.mono ha.mono hb.mono hc.mono),PT.imp (pt_chain ho ho' ha.pe hb.pe hc.pe hm) fun σ H Q ⟨env,k,S,q⟩=> ?_⟩
  refine B2c ha.mono hb.mono hc.mono ⟨env,k,S,aChn.mono ha.mono hb.mono hc.mono env k _ _ (fun r env1 h1 z v H1 S1 x1 r1 f1=> ?_) q⟩
  have r2:=r1.vr S1
  split at z
  · rename_i b e
    rw [e] at r2
    exact ⟨b,r2.bl,z H1 S1 x1⟩
  · exact z.elim
end
structure Ok (P:Program) (w:World) (K:PySem.W.Frag) (mg:Str→Option Value) (base:Heap) (x:Str) (st:Stmt) (k n:Nat) (ps:List Str) (sp:B8):Prop where
  m:L6 sp
  ex:∃f fd,mg x=some (.ref f)∧FunD K x x (defArgs st) (defBody st) (defScope st) [] [] f fd∧FnOk P w K mg base (L2.CX P w) k f fd ps (R9 K n sp)
def T2 (x:Str) (st:Stmt) (ps:List Str):Prop:=∀(kV doc pm:Value) (an:Option Addr) (cdv ct:Value) (us:List Value),us.length=ps.length→bindArgs (PySem.W.fnOf x x (defArgs st) (defBody st) (defScope st) .none kV doc pm an cdv ct) ⟨us,[]⟩=pure (ps.zip us)
section
variable {X:Cx} {G:Gx} {sp:B8} {st:Stmt} {k j n:Nat} {ps:List Str} {x:Str} {p pos:Pos} {e:Expr} {es:List Expr} {t:E5} {E:AExc→A0→AH→Prop}
theorem B8t (gk:G.K=X.K) (O:Ok X.prog X.w X.K X.mg X.base x st k n ps sp) (bd:T2 x st ps) (hr:Room j X.A) (kj:k≤j) (hg:Gl X x) (tk:Takes X (cW G E))
    (ha:AA X G (e::es) t) (hn:∀env h (R:List W→A0→AH→Prop),t env h R→t env h fun ws e g=> ws.length=n∧R ws e g)
    (hdb:(x==("__debug__":Str))=false:=by decide) (he:starEach (e::es) X.env=(false,eval e X.env)::starEach es X.env:=by rfl) (hpl:(backTo pos (starEach es X.env)).any (·.1)=false:=by rfl):
    AE X G (.Call (.Name x p) (e::es) [] pos) (aCall E sp t):=by
  obtain ⟨f,fd,hm,FD,F⟩:=O.ex
  exact C0k (G:=G) (gk▸F) O.m (hr.mono kj) hg hm FD.kp (FD.bindsN bd) tk ha hn hdb he hpl
structure AN (X:Cx) (G:Gx) (es:List Expr) (n:Nat) (t:E5):Prop where
  aa:AA X G es t
  ln:∀env h (R:List W→A0→AH→Prop),t env h R→t env h fun ws e g=> ws.length=n∧R ws e g
theorem D2:AN X G [] 0 aNil:=⟨D7,B3y⟩
theorem C1 {tv:C3} (a:AV X G e tv) (b:AN X G es n t) (hs:starEach (e::es) X.env=(false,eval e X.env)::starEach es X.env:=by rfl):AN X G (e::es) (n+1) (aCons tv t):=
  ⟨B7 a b.aa hs,B9i a.mono b.ln b.aa.mono⟩
theorem R5 (gk:G.K=X.K) (O:Ok X.prog X.w X.K X.mg X.base x st k n ps sp) (bd:T2 x st ps) (hr:Room j X.A) (kj:k≤j) (hg:Gl X x) (tk:Takes X (cW G E))
    (ha:AN X G (e::es) n t) (hdb:(x==("__debug__":Str))=false:=by decide) (he:starEach (e::es) X.env=(false,eval e X.env)::starEach es X.env:=by rfl) (hpl:(backTo pos (starEach es X.env)).any (·.1)=false:=by rfl):
    AE X G (.Call (.Name x p) (e::es) [] pos) (aCall E sp t):=B8t gk O bd hr kj hg tk ha.aa ha.ln hdb he hpl
end
abbrev E0:AExc→A0→AH→Prop:=fun _ _ _=> False
theorem C0J {P:Program} {w:World} {K:PySem.W.Frag} {mg:Str→Option Value} {base:Heap} {x:Str} {st:Stmt} {f:Addr} {fd:FuncData} {ps:List Str} {n:Nat} (hm:mg x=some (.ref f)) (F:FunD K x x (defArgs st) (defBody st) (defScope st) [] [] f fd):Ok P w K mg base x st 0 n ps (fun _ _ _ _=> False):=
  ⟨fun _ _ _ _ _ _ _ _ z=> z,f,fd,hm,F,⟨fun _ _ _ _ ⟨_,_,_,_,_,_,_,_,z,_⟩=> z.elim,fun _ _ _ _ _ _ _ _ _ _ _ _ _ ⟨_,_,_,_,_,_,_,_,z,_⟩=> z.elim⟩⟩
section
variable {P:Program} {w:World} {K:PySem.W.Frag} {mg:Str→Option Value} {base:Heap} {x:Str} {st:Stmt} {f:Addr} {fd:FuncData} {N ps:List Str} {k n:Nat} {sp:B8}
theorem Ok.mk' {t:(AExc→A0→AH→Prop)→C0} (sm:L6 sp) (hm:mg x=some (.ref f)) (F:FunD K x x (defArgs st) (defBody st) (defScope st) [] [] f fd) (S:FnScope N ps (defScope st)) (hn:ps.length=n)
    (hb:∀(cdv:Value) (A:Around) (outer:List Env) (s:Shared) (H:Hp) (E:XK) (G:Gx) (E':AExc→A0→AH→Prop),Room k (A.deeper (envOfC x (defScope st) s.heap.objs.size f cdv))→G.K=K→Takes (bx P w K mg base N x (defScope st) f cdv A outer s H E) (cW G E')→
      ASs (bx P w K mg base N x (defScope st) f cdv A outer s H E) G (defBody st) (t E'))
    (hq:∀ws h Qa Ea,ws.length=n→sp ws h Qa Ea→t (C7 Ea) (C2 Qa) (F8 N.length ws) h):Ok P w K mg base x st (k+1) n ps sp:=
  ⟨sm,f,fd,hm,F,A9h [] [] F S hn hb hq⟩
end
end Ab
namespace Ab
open PySem PySem.Spec PyProof.Rows L2 RZ
theorem U8:bootBuiltins "len"=some (.builtin "len"):=by decide+kernel
theorem C13:bootBuiltins "sum"=some (.builtin "sum"):=by decide+kernel
theorem C2b:bootBuiltins "any"=some (.builtin "any"):=by decide+kernel
theorem B4j:bootBuiltins "all"=some (.builtin "all"):=by decide+kernel
theorem p8:bootBuiltins "isinstance"=some (.builtin "isinstance"):=by decide+kernel
theorem A8e:bootBuiltins "tuple"=some (.type "tuple"):=by decide+kernel
theorem A2O:bootBuiltins "list"=some (.type "list"):=by decide+kernel
theorem A8u:bootBuiltins "bool"=some (.type "bool"):=by decide+kernel
theorem B4N:bootBuiltins "int"=some (.type "int"):=by decide+kernel
theorem B4R:bootBuiltins "str"=some (.type "str"):=by decide+kernel
section
variable {X:Cx} {G:Gx}
theorem u8 {x:Str} {T:String} {pos:Pos} (hg:Gl X x) (hm:X.mg x=none) (hv:bootBuiltins x=some (.type T)) (hn:x≠"__name__":=by decide) (hd:(x==("__debug__":Str))=false:=by decide):AE X G (.Name x pos) (aC (.ty T)):=
  A1l (v:=V.ty T) (pe_bltn (v:=V.ty T) hg hm hv (show _=_ from rfl) hn hd) fun _=> .ty
variable {elt tg iter:Expr} {ifs:List Expr} {scope:Scope} {own:List (Str×Nat)} {pos:Pos} {ti:U2} {g:G5} {tt:G7} {te:C3} {sl:List Nat}
theorem A6r (hc:X.calm=true) (hN:X.N.Nodup) (hi:AI X G tg iter ti) (ok:BlkOk X.N X.env.scope scope own) (hsl:∀i∈sl,i∈own.map (·.2))
    (hg:∀(s:Shared) (H:Hp) (C:Addr) (cl:List (Str×Addr)) (fp:List Addr),AG (X.blk s H scope (compEnvC scope cl C X.env) fp) G tg sl g) (ht:∀(s:Shared) (H:Hp) (C:Addr) (cl:List (Str×Addr)) (fp:List Addr),APs (X.blk s H scope (compEnvC scope cl C X.env) fp) G ifs tt)
    (he:∀(s:Shared) (H:Hp) (C:Addr) (cl:List (Str×Addr)) (fp:List Addr),AV (X.blk s H scope (compEnvC scope cl C X.env) fp) G elt te) (hs:∀x,foldedSetIterable iter X.env x=pure x:=by intro _;rfl):
    AE X G (.ListComp elt [⟨tg,iter,ifs,0⟩] scope pos) (o7 (own.map (·.2)) ti g tt te):=
  C3x hc hN hi ok hsl hg ht he (hg X.s_0 X.H_0 0 [] []).mono (ht X.s_0 X.H_0 0 [] []).mono (he X.s_0 X.H_0 0 [] []).mono hs
end
def A0e {α:Type} (d:α) (perm:List Nat) (us ws:List α):List α:=if us.isEmpty && ws.length==perm.length then perm.map fun i=> ws.getD i d else []
abbrev gKw (perm:List Nat):List W→List W→List W:=A0e W.non perm
def C3u (x:Str) (st:Stmt) (ps ks:List Str) (perm:List Nat):Prop:=∀(kV doc pm:Value) (an:Option Addr) (cdv ct:Value) (ws:List Value),ws.length=perm.length→
  bindArgs (PySem.W.fnOf x x (defArgs st) (defBody st) (defScope st) .none kV doc pm an cdv ct) ⟨[],ks.zip ws⟩=pure (ps.zip (perm.map fun i=> ws.getD i .none))
theorem RepL.getD' {K:PySem.W.Frag} {H:Hp}:∀{ws:List W} {vs:List V} (i:Nat),RepL K H ws vs→Rep K H (ws.getD i .non) (vs.getD i .non)
  | [],vs,i,r=> by rw [r.of_nil];simpa using Rep.non
  | w::ws,vs,i,r=> by
    obtain ⟨v,t,rfl,a,b⟩:=r.of_cons
    cases i with
    | zero=> simpa using a
    | succ i=> simpa using b.getD' i
theorem Vals.getD':∀{vs:List V} {us:List Value} (i:Nat),Vals vs us→RelV (vs.getD i .non) (us.getD i .none)
  | _,_,i,.nil=> by cases i <;> rfl
  | _,_,0,.cons a b=> by simpa using a
  | _,_,i+1,.cons a b=> by simpa using Vals.getD' i b
theorem B9x {K:PySem.W.Frag} {H:Hp} {perm:List Nat} {ws zs:List W} {vs us:List V} (r:RepL K H ws vs) (q:RepL K H zs us):RepL K H (A0e .non perm ws zs) (A0e .non perm vs us):=by
  unfold A0e
  have e1:ws.isEmpty=vs.isEmpty:=by
    have:=r.length
    cases ws <;> cases vs <;> simp_all
  rw [e1,q.length]
  split
  · clear e1
    induction perm with
    | nil=> exact .nil
    | cons i t ih=>
      rename_i hh
      refine .cons (q.getD' i) ?_
      have:∀t:List Nat,RepL K H (t.map fun i=> zs.getD i .non) (t.map fun i=> us.getD i .non):=fun t=> by
        induction t with
        | nil=> exact .nil
        | cons i t ih=> exact .cons (q.getD' i) ih
      exact this t
  · exact .nil
theorem B81 {perm:List Nat} {vs:List V} {us:List Value} {zs:List V} {ws:List Value} (r:Vals vs us) (q:Vals zs ws):Vals (A0e .non perm vs zs) (A0e .none perm us ws):=by
  unfold A0e
  have e1:vs.isEmpty=us.isEmpty:=by cases r <;> rfl
  rw [e1,q.length]
  split
  · have:∀t:List Nat,Vals (t.map fun i=> zs.getD i .non) (t.map fun i=> ws.getD i .none):=fun t=> by
      induction t with
      | nil=> exact .nil
      | cons i t ih=> exact .cons (Vals.getD' i q) ih
    exact this perm
  · exact .nil
theorem AKB.all {K:PySem.W.Frag} {x:Str} {st:Stmt} {f:Addr} {fd:FuncData} {ps ks:List Str} {perm:List Nat} (F:FunD K x x (defArgs st) (defBody st) (defScope st) [] [] f fd) (hp:ps.length=perm.length) (h0:0 < perm.length) (h:C3u x st ps ks perm):Nonempty (AKB K fd ps ks perm.length (gKw perm)):=by
  refine ⟨⟨A0e .none perm,A0e .non perm,⟨fun s us ws X hl=> ?_,fun r q=> B81 r q⟩,fun H ws zs vs us _ r q=> B9x r q⟩⟩
  obtain ⟨oc,od,dV,kV,doc,pm,an,cdv,ct,osl,rfl,lk,hcd,hD,hK⟩:=F.ex
  rcases hD with ⟨_,rfl⟩ | ⟨e,_⟩
  · unfold A0e at hl ⊢
    split at hl
    · rename_i hc
      rw [if_pos hc]
      simp only [Bool.and_eq_true,List.isEmpty_iff,beq_iff_eq] at hc
      rw [hc.1]
      exact .of_eq (h kV doc pm an cdv ct ws hc.2)
    · rw [hp] at hl
      exact absurd hl (by simp;omega)
  · exact absurd rfl e
section
variable {X:Cx} {G:Gx} {sp:B8} {st:Stmt} {k j:Nat} {ps ks:List Str} {x:Str} {p pos:Pos} {kws:List Keyword} {tk:E5} {E:AExc→A0→AH→Prop} {perm:List Nat}
end
theorem Ok.up {P:Program} {w:World} {K:PySem.W.Frag} {mg:Str→Option Value} {base:Heap} {x:Str} {st:Stmt} {ps:List Str} {k k' n:Nat} {sp sp':B8} (O:Ok P w K mg base x st k n ps sp) (h:k≤k') (m:L6 sp') (i:∀ws h Q E,sp' ws h Q E→sp ws h Q E):Ok P w K mg base x st k' n ps sp':=by
  obtain ⟨f,fd,hm,FD,F⟩:=O.ex
  exact ⟨m,f,fd,hm,FD,(F.imp fun vs H Q E ⟨ws,h,Qa,Ea,hl,hp,tb,r,q,z⟩=> ⟨ws,h,Qa,Ea,hl,hp,tb,r,i _ _ _ _ q,z⟩).mono h⟩
end Ab
namespace Ab
open PySem PySem.Spec PyProof.Rows L2 RZ
def pureSp (P:List W→RR→Prop):B8:=fun ws h Q _=> ∃r,P ws r∧Q r h
theorem pureSp.m {P:List W→RR→Prop}:L6 (pureSp P):=fun _ _ _ _ _ _ k _ ⟨r,p,q⟩=> ⟨r,p,k _ _ q⟩
def Bt (p:Addr) (h h':AH):Prop:=∀q,q≠p→h' q=h q
theorem Bt.refl {p:Addr} {h:AH}:Bt p h h:=fun _ _=> rfl
theorem Bt.trans {p:Addr} {h h1 h2:AH} (a:Bt p h h1) (b:Bt p h1 h2):Bt p h h2:=fun q n=> (b q n).trans (a q n)
theorem Bt.upd {p:Addr} {h:AH} {o:AO}:Bt p h (D6 h p o):=fun q n=> by unfold D6;rw [if_neg n]
section
variable {vs:List Nat} {g:G5} {tt:G7} {te:C3} {env:A0} {h:AH} {Q:List W→A0→AH→Prop}
inductive All2 {α β:Type} (P:α→β→Prop):List α→List β→Prop where
  | nil:All2 P [] []
  | cons {a:α} {b:β} {as:List α} {bs:List β}:P a b→All2 P as bs→All2 P (a::as) (b::bs)
theorem All2.length {α β:Type} {P:α→β→Prop} {as:List α} {bs:List β} (r:All2 P as bs):as.length=bs.length:=by
  induction r with
  | nil=> rfl
  | cons _ _ ih=> rw [List.length_cons,List.length_cons,ih]
end
section
variable {g:G5} {tb:C0} {D:AEnds}
end
end Ab
namespace Ab
open PySem PySem.Spec PyProof.Rows L2 RZ
section
variable {xs ys:List W} {i j:Int} {Q:RV→Prop} {v:Vw} {a b c d e w:W} {n:String}
def ixK (v:Vw) (i:Int) (Q:RV→Prop):Prop:=match v.items.bind fun xs=> atI xs i with
  | some w=> Q (.val w)
  | none=> False
theorem A9M {v:Vw}:(∃xs w,v.items=some xs∧atI xs i=some w∧Q (.val w))=ixK v i Q:=by
  unfold ixK
  refine propext ⟨fun ⟨xs,w,e,f,q⟩=> ?_,fun q=> ?_⟩
  · rw [e]
    show match atI xs i with
      | some w=> Q (.val w)
      | none=> False
    rw [f];exact q
  · split at q
    · rename_i w e
      obtain ⟨xs,e1,e2⟩:=Option.bind_eq_some_iff.mp e
      exact ⟨xs,w,e1,e2,q⟩
    · exact q.elim
theorem C4W {v b:Vw}:oIx v b Q=(match b with
  | .wv (.int i)=> match v with
    | .wv (.str x)=> x.length≤sizeLine∧∃c,L2.atI x.cps.toList i=some c∧Q (.val (.str ⟨#[c]⟩))
    | v=> ixK v i Q
  | _=> False):=by
  cases b with
  | wv w=> cases w with
    | int i=> cases v with
      | wv u=> cases u <;> first | rfl | exact A9M
      | cv c=> exact A9M
      | bad=> exact A9M
    | _=> rfl
  | _=> rfl
theorem A69:G4 [v] Q=(match v with
  | .wv (.str x)=> x.length≤sizeLine∧Q (.val (.int x.length))
  | .wv .emp=> Q (.val (.int 0))
  | v=> match v.items with
    | some xs=> Q (.val (.int xs.length))
    | none=> False):=by
  cases v with
  | wv w=> cases w <;> simp [G4,Vw.items]
  | cv c=> cases c <;> simp [G4,Vw.items]
  | bad=> simp [G4,Vw.items]
theorem A9i:d0 [v] Q=(match v.items with
    | some xs=> Q (.val (.tup xs))
    | none=> False):=by
  unfold d0
  cases e:v.items <;> simp [e]
theorem A6i:Q7 [v] Q=(match v.items with
    | some xs=> Q (.own (.seq xs))
    | none=> False):=by
  unfold Q7
  cases e:v.items <;> simp [e]
theorem B5J {v:Vw} {neg:Bool}:O3 neg v (.wv .non) Q=(v≠ .bad∧Q (.val (.bl (if neg then !v.isNon else v.isNon)))):=by
  simp only [O3,true_and]
theorem C0Z:M1 (.int i) (.int j)=decide (i=j):=rfl
end
theorem A1d {i j:Int} (h0:0≤i) (h1:i < 2 ^ 200) (g0:0≤j) (g1:j < 2 ^ 200):CMulW i j:=
  wide_mul (a:=200) (b:=200) (by omega) (by omega) (by decide) (by decide) (by decide)
theorem B4f {xs:List W} {k:Nat}:j7 xs none (some (k:Int))=xs.take k:=by
  unfold j7
  rw [HT.sIx_none,HT.sIx_nat]
  simp only [List.drop_zero,Nat.sub_zero]
  rcases Nat.le_total k xs.length with h | h
  · rw [Nat.min_eq_left h]
  · rw [Nat.min_eq_right h,List.take_of_length_le (Nat.le_refl _),List.take_of_length_le h]
theorem C3S {v:Vw} {T:String} {Q:RV→Prop}:F4 [v,.wv (.ty T)] Q=(match v.tyName with
  | some n=> match A1D n T with
    | some b=> Q (.val (.bl b))
    | none=> False
  | none=> False):=by
  refine propext ⟨fun q=> ?_,fun q=> ?_⟩
  · obtain ⟨n,b,e,f,q⟩:∃n b,v.tyName=some n∧A1D n T=some b∧Q (.val (.bl b)):=q
    simp only [e,f]
    exact q
  · show ∃n b,v.tyName=some n∧A1D n T=some b∧Q (.val (.bl b))
    split at q
    · rename_i n e
      split at q
      · rename_i b f
        exact ⟨n,b,e,f,q⟩
      · exact q.elim
    · exact q.elim
mutual
def W.fit:Nat→W→Bool
  | _,.non=> true
  | _,.bl _=> true
  | _,.int _=> true
  | _,.str _=> true
  | n+1,.tup xs=> decide (xs.length≤100000) && W.fitL n xs
  | n+1,.lst xs=> decide (xs.length≤100000) && W.fitL n xs
  | _,_=> false
def W.fitL:Nat→List W→Bool
  | _,[]=> true
  | n,x::xs=> W.fit n x && W.fitL n xs
end
theorem A8k {lo:Int} {n:Nat}:(X2 lo n).length=n:=by simp [X2]
end Ab
namespace Ab
open PySem PySem.Spec PyProof.Rows L2 RZ
section
variable {P:Program} {w:World} {A:Around} {E:Value→Shared→Prop}
theorem B79 {I:Addr} {fp:List Addr} {n k:Nat} {Pv:Nat→Value→Prop} {St:Nat→Heap→Prop} (W:Walks P w A I fp [I] n Pv St) (hk:k≤n) (tp:Nat):
    WalksS P w A I fp [I] (fun x y=> x=y) (n - k) (fun i v=> Pv (k+i) v) (fun i s=> St (k+i) s.heap∧tp≤s.toks) where
  sub:=W.sub
  grefl:=fun _=> rfl
  gtrans:=fun _ _ _ x y=> x.trans y
  frame:=fun i s h' tk ⟨x,t⟩ y z=> ⟨W.frame _ _ _ x z,Nat.le_trans t y⟩
  item:=fun i s Q E hi ⟨x,t⟩ hQ=> wpAny_with_toks (n:=s.toks) (Nat.le_refl _) (W.item (k+i) s _ _ (by omega) x fun v h' tk pv x' same ht=> hQ v _ pv ⟨x',Nat.le_trans t ht⟩ ⟨same,rfl,rfl,rfl,ht⟩)
  done:=fun s Q E ⟨x,t⟩ hQ=> wpAny_with_toks (n:=s.toks) (Nat.le_refl _) (W.done s _ _ (by rwa [show k+(n - k)=n by omega] at x) fun h' tk same ht=> hQ _ ⟨same,rfl,rfl,rfl,ht⟩)
  self:=fun i s Q E ⟨x,_⟩ q=> W.self _ s Q E x q
theorem B9R {xs:Array Value} {acc:Array Value} {k:Nat} (h:ItemsOf (fun i v=> xs[k+i]? =some v) acc (xs.size - k)):acc.toList=xs.toList.drop k:=by
  obtain ⟨l,g⟩:=h
  refine List.ext_getElem? fun i=> ?_
  rw [List.getElem?_drop]
  by_cases hi:i < acc.size
  · have e:acc[i]? =some acc[i]:=by simp [hi]
    have e2:=g i _ e
    simpa using e.trans e2.symm
  · rw [List.getElem?_eq_none (by simpa using hi),List.getElem?_eq_none (by simp;omega)]
theorem B17 {s:Shared} {a:Addr} {xs:Array Value} {T:String} {St:Nat→Heap→Prop} {h1:Heap} {x:Value} {Q:List Value→Shared→Prop}
    (hT:T="str_ascii_iterator"∨T="str_iterator"∨T="list_iterator"∨T="tuple_iterator")
    (hN:∀(Q:Bool→Shared→Prop),Q false s→wpAny (model P w) A (notIterableAtAll (.ref a)) Q E s)
    (hI:∀(Q:Value→Shared→Prop),Q (.ref s.heap.objs.size) { s with heap:=h1 }→wpAny (model P w) A (pyIter (.ref a)) Q E s)
    (W:∀B:Around,B.handled=none→Walks P w B s.heap.objs.size [s.heap.objs.size,a] [s.heap.objs.size] xs.size (fun i v=> xs[i]? =some v) St)
    (ty:∀i h (t:Shared),t.heap=h→St i h→t.TypeIs (.ref s.heap.objs.size) T) (h0:St 0 h1) (hh:A.handled=none) (hh1:A.in1.handled=none) (big:xs.size≤sizeLine) (old:∀b o,s.heap.get? b=some o→h1.get? b=some o) (ha:a < s.heap.objs.size)
    (hx:xs[0]? =some x) (sz:s.heap.objs.size < h1.objs.size)
    (hQ:∀(hp:Heap) (tk:Nat),(∀b o,s.heap.get? b=some o→hp.get? b=some o)→s.toks≤tk→Q [x,.ref hp.objs.size] { s with heap:=hp.push { cls:= .type "list",data:= .seq (xs.toList.drop 1).toArray },toks:=tk }):
    wpAny (model P w) A (unpackItems (.ref a) 2 (some 1)) Q E s:=by
  have h0':0 < xs.size:=(Array.getElem?_eq_some_iff.mp hx).1
  unfold unpackItems
  refine wpAny_bind (hN _ ?_)
  rw [if_neg Bool.false_ne_true]
  refine wpAny_bind (wpAny_holding (hI _ ?_))
  show wpAny _ _ (holding [Value.ref s.heap.objs.size] (draw (.ref s.heap.objs.size) 1) >>=_) _ _ _
  refine wpAny_bind (wpAny_holding ?_)
  show wpAny _ _ (pyNext (.ref s.heap.objs.size) >>=_) _ _ _
  refine wpAny_bind (wpAny_with_toks (n:=s.toks) (Nat.le_refl _) ((W A hh).item 0 _ _ _ h0' h0 fun v h2 tk pv st2 same ht=> ?_))
  have ev:v=x:=Option.some.inj (pv.symm.trans hx)
  subst ev
  show wpAny _ _ (holding [v] (draw (.ref s.heap.objs.size) 0) >>=_) _ _ _
  refine wpAny_bind (wpAny_holding (show wpAny _ _ (pure []) _ _ _ from wpAny_pure (wpAny_pure ?_)))
  rw [if_neg (by simp)]
  have old2:∀b o,s.heap.get? b=some o→h2.get? b=some o:=fun b o e=> same b o (fun z=> by
    have lt:=Heap.lt_size e
    have e3:b=s.heap.objs.size:=by simpa using z
    rw [e3] at lt
    exact Nat.lt_irrefl _ lt) (old b o e)
  have g0:s.heap.objs.size < h2.objs.size:=by
    obtain ⟨o,e,_⟩:=ty (0+1) h2 { s with heap:=h2 } rfl st2
    exact Heap.lt_size e
  refine wpAny_bind (wpAny_holding (wpAny_collect_iter hT (B79 (W A.in1 hh1) h0' tk) (fun i t ⟨y,_⟩=> ty _ _ t rfl y) ⟨st2,Nat.le_refl _⟩ (fun b hb=> ?_) (by simp) (fun s' acc mv it=> ?_) (Nat.le_trans (Nat.sub_le _ _) big)))
  · have e:b=s.heap.objs.size∨b=a:=by simpa using hb
    rcases e with e | e
    · rw [e];exact g0
    · rw [e];exact Nat.lt_trans ha g0
  · have e:acc.toList=xs.toList.drop 1:=B9R it
    rw [e]
    rw [if_neg (by omega)]
    show wpAny _ _ (newList (List.take ((List.drop 1 xs.toList).length - 0) (List.drop 1 xs.toList)) >>=fun l=> pure ([v]++[l]++List.drop ((List.drop 1 xs.toList).length - 0) (List.drop 1 xs.toList))) Q E s'
    rw [Nat.sub_zero,List.take_length,List.drop_length]
    obtain ⟨hp,ge,dr,tk2,os⟩:=s'
    obtain ⟨m1,m2,m3,m4,m5⟩:=mv
    cases m2
    cases m3
    cases m4
    refine wpAny_bind (wpAny_newObj_type (wpAny_pure ?_) (by show (List.drop 1 xs.toList).toArray.size≤sizeLine;simp;omega))
    have old3:∀b o,s.heap.get? b=some o→hp.get? b=some o:=fun b o e=> m1 b o (fun z=> by
      have lt:=Heap.lt_size e
      have e3:b=s.heap.objs.size:=by simpa using z
      rw [e3] at lt
      exact Nat.lt_irrefl _ lt) (old2 b o e)
    exact hQ hp tk2 old3 (Nat.le_trans ht m5)
theorem B8G {s:Shared} {a:Addr} {xs:Array Value} {x:Value} {Q:List Value→Shared→Prop} (hs:s.heap.IsTuple a xs) (hh:A.handled=none) (hh1:A.in1.handled=none) (big:xs.size≤sizeLine) (hx:xs[0]? =some x)
    (hQ:∀(hp:Heap) (tk:Nat),(∀b o,s.heap.get? b=some o→hp.get? b=some o)→s.toks≤tk→Q [x,.ref hp.objs.size] { s with heap:=hp.push { cls:= .type "list",data:= .seq (xs.toList.drop 1).toArray },toks:=tk }):
    wpAny (model P w) A (unpackItems (.ref a) 2 (some 1)) Q E s:=by
  have la:a < s.heap.objs.size:=by obtain ⟨o,e,_⟩:=hs;exact Heap.lt_size e
  refine B17 (T:="tuple_iterator") (St:=fun i h=> h.IsTupleIter s.heap.objs.size a i∧h.IsTuple a xs) (h1:=s.heap.push { cls:= .type "tuple_iterator",data:= .fields #[.ref a,.int 0 0] }) (.inr (.inr (.inr rfl))) (fun Q q=> ?_) (fun Q q=> wpAny_pyIter_tuple hs q)
    (fun B hB=> Walks.tuple hB _ a (Nat.ne_of_lt la) xs) (fun i h t e y=> by subst e;exact y.1.typeIs) ⟨⟨_,Heap.get?_push_size _ rfl,rfl,rfl⟩,hs.push _⟩ hh hh1 big (fun b o e=> Heap.get?_push_of_some _ e) la hx (by rw [Heap.size_push];exact Nat.lt_succ_self _) hQ
  unfold notIterableAtAll
  refine wpAny_bind (wpAny_specialOf hs.typeIs F.slot_tuple_iter.lookup ?_)
  exact wpAny_pure q
theorem B8g {s:Shared} {a:Addr} {xs:Array Value} {x:Value} {Q:List Value→Shared→Prop} (hs:s.heap.IsList a xs) (hh:A.handled=none) (hh1:A.in1.handled=none) (big:xs.size≤sizeLine) (hx:xs[0]? =some x)
    (hQ:∀(hp:Heap) (tk:Nat),(∀b o,s.heap.get? b=some o→hp.get? b=some o)→s.toks≤tk→Q [x,.ref hp.objs.size] { s with heap:=hp.push { cls:= .type "list",data:= .seq (xs.toList.drop 1).toArray },toks:=tk }):
    wpAny (model P w) A (unpackItems (.ref a) 2 (some 1)) Q E s:=by
  have la:a < s.heap.objs.size:=by obtain ⟨o,e,_⟩:=hs;exact Heap.lt_size e
  refine B17 (T:="list_iterator") (St:=fun i h=> h.IsListIter s.heap.objs.size a i∧h.IsList a xs) (h1:=s.heap.push { cls:= .type "list_iterator",data:= .fields #[.ref a,.int 0 0] }) (.inr (.inr (.inl rfl))) (fun Q q=> ?_) (fun Q q=> wpAny_pyIter_list hs q)
    (fun B hB=> Walks.list hB _ a (Nat.ne_of_lt la) xs) (fun i h t e y=> by subst e;exact y.1.typeIs) ⟨⟨_,Heap.get?_push_size _ rfl,rfl,rfl⟩,hs.push _⟩ hh hh1 big (fun b o e=> Heap.get?_push_of_some _ e) la hx (by rw [Heap.size_push];exact Nat.lt_succ_self _) hQ
  unfold notIterableAtAll
  refine wpAny_bind (wpAny_specialOf hs.typeIs F.slot_list_iter.lookup ?_)
  exact wpAny_pure q
end
section
variable {X:Cx} {G:Gx} {e t1 t2:Expr} {sp pos tpos:Pos} {kk:Nat}
def B4e (K:PySem.W.Frag) (g1 g2:TG):TG:=fun v σ H Q=> ∃a x r,v= .ref a∧(SqT K H a (x::r)∨SqL K H a (x::r))∧∀l,H l=none→g1 x σ (upd H l (.lst r)) fun σ1 H1=> g2 (.ref l) σ1 H1 Q
theorem C0u {g1 g2:TG} (hc:X.calm=true) (h1:PG X t1 g1) (h2:PG X t2 g2) (hs:(assignEach [t1,.Starred t2 sp] X.env)=[(false,assign t1 X.env),(true,assign t2 X.env)]:=by rfl):PG X (.Tuple [t1,.Starred t2 sp] kk tpos) (B4e X.K g1 g2):=by
  refine ⟨fun pins s σ H v u Q I rv h=> ?_⟩
  obtain ⟨a,x,r,rfl,hq,h⟩:=h
  obtain rfl:u= .ref a:=rv
  rw [assign_Tuple]
  refine wpAny_bind (wpAny_standAt ?_)
  unfold unpack
  rw [hs]
  have hh:=I.ok.hd hc
  have go:∀(vv:Value) (us:List Value),RelV x vv→Vals r us→us.length≤sizeLine→∀(hp:Heap) (tk:Nat),(∀b o,s.heap.get? b=some o→hp.get? b=some o)→s.toks≤tk→
      wpAny (model X.prog X.w) X.A (assignInOrder [assign t1 X.env,assign t2 X.env] [vv,.ref hp.objs.size]) (fun _ s'=> ∃σ' H',Inv X pins σ' H' s'∧Q σ' H') X.xe { s with heap:=hp.push { cls:= .type "list",data:= .seq us.toArray },toks:=tk }:=fun vv us rx rr hz hp tk old ht=> by
    have I1:Inv X pins σ H { s with heap:=hp,toks:=tk }:=I.kept old
    have I2:Inv X pins σ (upd H hp.objs.size (.lst r)) { s with heap:=hp.push { cls:= .type "list",data:= .seq us.toArray },toks:=tk }:=
      I1.laid (fun b o e=> Heap.get?_push_of_some _ e) (Nat.le_refl _) (show ObjOk X.prog X.w _ _ _ (.lst r) from ⟨by rw [rr.length];exact hz,us,0,rr,Heap.get?_push_size _ rfl⟩)
    refine assignInOrder_cons (thn (h1.run pins _ σ _ _ _ _ I2 rx (h _ I1.fresh)) fun _ s2 ⟨σ2,H2,I3,q3⟩=> ?_)
    refine assignInOrder_cons (thn (h2.run pins _ σ2 _ _ _ _ I3 (show RelV (.ref hp.objs.size) (.ref hp.objs.size) from rfl) q3) fun _ s3 ⟨σ3,H3,I4,q4⟩=> ?_)
    exact assignInOrder_nil ⟨σ3,H3,I4,q4⟩
  rcases hq with hq | hq
  · obtain ⟨its,rr,pl,hz⟩:=I.tuple hq
    cases rr with
    | cons rx rr=>
      rename_i vv us
      refine wpAny_bind (wpAny_holding (B8G pl hh hh (by have:=rr.length;simp at hz ⊢;omega) (x:=vv) (by simp) fun hp tk old ht=> ?_))
      exact go vv us rx rr (by have:=rr.length;simp at hz;omega) hp tk old ht
  · obtain ⟨its,rr,pl,hz⟩:=I.list hq
    cases rr with
    | cons rx rr=>
      rename_i vv us
      refine wpAny_bind (wpAny_holding (B8g pl.isList hh hh (by have:=rr.length;simp at hz ⊢;omega) (x:=vv) (by simp) fun hp tk old ht=> ?_))
      exact go vv us rx rr (by have:=rr.length;simp at hz;omega) hp tk old ht
end
end Ab
namespace Ab
open PySem PySem.Spec PyProof.Rows L2 RZ
def aStar (i j:Nat) (tv:C3):C0:=fun D env h=> tv env h fun w env1 h1=> match w with
  | .tup (x::r)=> D.nx ((env1.set i (some (.val x))).set j (some (.own (.seq r)))) h1
  | .lst (x::r)=> D.nx ((env1.set i (some (.val x))).set j (some (.own (.seq r)))) h1
  | _=> False
section
variable {X:Cx} {G:Gx} {e:Expr} {tv:C3} {px py sp pos tpos:Pos} {kk i j:Nat} {x y:Str}
theorem aStar.mono (m:A9 tv):n8 (aStar i j tv):=fun D D' env h l q=> m env h _ _ (fun w env1 h1 z=> by
  split at z
  · exact l.nx _ _ z
  · exact l.nx _ _ z
  · exact z) q
theorem B3x (gk:G.K=X.K) (hc:X.calm=true) (hN:X.N.Nodup) (hi:X.N[i]? =some x) (hj:X.N[j]? =some y) (hx:Loc X.env.scope x) (hy:Loc X.env.scope y) (he:AV X G e tv)
    (fx:X.fn x=true∨X.env.scope.names.lookup x=some .local:=by first | exact .inl rfl | exact .inr rfl) (fy:X.fn y=true∨X.env.scope.names.lookup y=some .local:=by first | exact .inl rfl | exact .inr rfl)
    (hs:swapsWithSole [.Tuple [.Name x px,.Starred (.Name y py) sp] kk tpos] e pos.line X.env=pure false:=by rfl) (hw:swappedStores [.Tuple [.Name x px,.Starred (.Name y py) sp] kk tpos] e X.env=pure none:=by rfl)
    (h1:(assignEach [.Tuple [.Name x px,.Starred (.Name y py) sp] kk tpos] X.env).map (·.2)=[assign (.Tuple [.Name x px,.Starred (.Name y py) sp] kk tpos) X.env]:=by rfl)
    (h2:(assignEach [.Name x px,.Starred (.Name y py) sp] X.env)=[(false,assign (.Name x px) X.env),(true,assign (.Name y py) X.env)]:=by rfl):
    AS X G (.Assign [.Tuple [.Name x px,.Starred (.Name y py) sp] kk tpos] e pos) (aStar i j tv):=by
  refine ⟨aStar.mono he.mono,PS.imp (ps_asg he.pe (C0u hc (pg_name hN hi hx fx) (pg_name hN hj hy fy) h2) hs hw h1) fun D σ H ⟨env,h,Da,S,q,l⟩=> ?_⟩
  refine ⟨env,h,S,he.mono env h _ _ (fun w env1 h1 z v H1 S1 x1 r1=> ?_) q⟩
  have kp:=x1.keeps S
  have go:∀(a:Addr) (x0:W) (r:List W) (vs:List V),v= .ref a→(SqT X.K H1 a vs∨SqL X.K H1 a vs)→RepL G.K H1 (x0::r) vs→Da.nx ((env1.set i (some (.val x0))).set j (some (.own (.seq r)))) h1→B4e X.K (gName i) (gName j) v σ H1 D.nx:=fun a x0 r vs ev hq rl z=> by
    obtain ⟨u,us,rfl,ru,rr⟩:=rl.of_cons
    refine ⟨a,u,us,ev,hq,fun p hp=> ?_⟩
    have nw:New H1 (upd H1 p (.lst us)):=New.upd hp
    have S2:=nw.bs S1
    obtain ⟨g1,g2,g3⟩:=S1.noAt hp
    have S3:BS G (env1.set i (some (.val x0))) h1 (σ.set i (some u)) (upd H1 p (.lst us)):=S2.set (r:= .val x0) i (Rep.mono nw.keeps _ _ ru) trivial
    have no:¬OwnAt (env1.set i (some (.val x0))) (σ.set i (some u)) p:=fun ⟨m,c,e1,e2⟩=> by
      by_cases hm:i=m
      · subst hm
        by_cases hl:i < env1.length
        · rw [List.getElem?_set_self hl] at e1;cases e1
        · rw [List.getElem?_eq_none (by rw [List.length_set];omega)] at e1;cases e1
      · rw [List.getElem?_set_ne hm] at e1 e2
        exact g3 ⟨m,c,e1,e2⟩
    have S4:=S3.set (r:= .own (.seq r)) j (v:= .ref p) ⟨p,rfl,⟨us,upd_same,RepL.mono nw.keeps _ _ rr⟩,g1,g2,no⟩ trivial
    exact l.nx _ _ _ _ S4 (kp.trans nw.keeps) z
  split at z
  · rename_i x0 r
    obtain ⟨a,vs,ev,hq,rl⟩:=Rep.of_tup (K:=G.K) (H:=H1) r1
    exact go a x0 r vs ev (.inl (gk▸hq)) rl z
  · rename_i x0 r
    obtain ⟨a,vs,ev,hq,rl⟩:=Rep.of_lst (K:=G.K) (H:=H1) r1
    exact go a x0 r vs ev (.inr hq.sq) rl z
  · exact z.elim
end
theorem k8 {X:Cx} {G:Gx} {x:Str} {i:Int} {pos:Pos} (hg:Gl X x) (hm:∃t,X.mg x=some (.int i t)) (hd:(x==("__debug__":Str))=false:=by decide):AE X G (.Name x pos) (aC (.int i)):=by
  obtain ⟨t,hm⟩:=hm
  exact A1l (v:= .int i) (pe_glob (v:= .int i) hg hm ⟨t,rfl⟩ hd) fun _=> .int
theorem A80 {X:Cx} {G:Gx} {x:Str} {ws:List W} {pos:Pos} (gk:G.K=X.K) (hg:Gl X x) (hm:∃a vs,X.mg x=some (.ref a)∧(∀H,SqT X.K H a vs)∧∀H,RepL X.K H ws vs) (hd:(x==("__debug__":Str))=false:=by decide) (hne:ws≠[]:=by simp):AE X G (.Name x pos) (aC (.tup ws)):=by
  obtain ⟨a,vs,hm,hq,hr⟩:=hm
  exact A1l (v:= .ref a) (pe_glob (v:= .ref a) hg hm rfl hd) fun H=> gk▸ .tup (C0Q (fun e=> hne (by have:=(hr H).length;rw [e] at this;simpa using this)) hq H) (hr H)
end Ab
namespace Ab
open PySem PySem.Spec PyProof.Rows L2 RZ
open Sem (wp)
structure Itr (v:Value) (C:Heap→Prop) (at_:Heap→Addr) (nx:Heap→Heap):Prop where
  go:∀(P:Program) (w:World) (A:Around) (E:Value→Shared→Prop) (s:Shared) (Q:Value→Shared→Prop),C s.heap→Q (.ref (at_ s.heap)) { s with heap:=nx s.heap }→wpAny (model P w) A (pyIter v) Q E s
abbrev A95 (it:Addr):Obj:={ cls:= .type "enumerate",data:= .fields #[.none,.bool false,.ref it,rawInt 0,.none,.none] }
theorem B95 {v:Value} {C:Heap→Prop} {at_:Heap→Addr} {nx:Heap→Heap} (B:Itr v C at_ nx):
    Meets (Builtin.«enumerate.__new__» ⟨[.type "enumerate",v],[]⟩) (fun _ R s=> C s.heap∧R (.ok (.ret (.ref (nx s.heap).objs.size))) { s with heap:=(nx s.heap).push (A95 (at_ s.heap)) }):=
  .of_wp fun P w A R s h=> by
    obtain ⟨hp,gs,dr,tk,os⟩:=s
    obtain ⟨c1,h⟩:=h
    have hsub:=sub_enumerate
    have step:∀{B':Around} {E:Value→Shared→Prop} {Q:Value→Shared→Prop},Q (.ref (at_ hp)) ⟨nx hp,gs,dr,tk,os⟩→wpAny (model P w) B' (pyIter v) Q E ⟨hp,gs,dr,tk,os⟩:=
      fun q=> B.go P w _ _ ⟨hp,gs,dr,tk,os⟩ _ c1 q
    wp_walk using step
    refine wpAny_stack_any fun st=> wpAny_pure ?_
    split
    · rename_i c _ _ _ _ _
      cases (c==Value.type "enumerate") <;> (wp_walk using step;exact ⟨_,rfl,h⟩)
    · wp_walk using step
      exact ⟨_,rfl,h⟩
section
variable {P:Program} {w:World} {A:Around} {E:Value→Shared→Prop} {s:Shared}
theorem B3r {v:Value} {C:Heap→Prop} {at_:Heap→Addr} {nx:Heap→Heap} (B:Itr v C at_ nx) (c:C s.heap) {Q:Value→Shared→Prop}
    (h:∀h',h'=(nx s.heap).push (A95 (at_ s.heap))→IsEnum h' (nx s.heap).objs.size (at_ s.heap) 0 .none→Q (.ref (nx s.heap).objs.size) { s with heap:=h' }):
    wpAny (model P w) A (call (.type "enumerate") [v]) Q E s:=by
  refine callType_new F.called_enumerate (by decide) (F.typeCall_enumerate_1 _) (F.newCall_enumerate_1 _) (fun obj=> F.args_object_init_2 obj _) F.entry_enumerate_new (B95 B) ⟨c,?_⟩
  have g:IsEnum ((nx s.heap).push (A95 (at_ s.heap))) (nx s.heap).objs.size (at_ s.heap) 0 .none:=Heap.get?_push_size _ rfl
  exact ⟨⟨_,g,rfl⟩,h _ rfl g⟩
end
theorem B8U (a:Addr) (xs:Array Value):Itr (.ref a) (fun h=> h.IsTuple a xs) (fun h=> h.objs.size) (fun h=> h.push { cls:= .type "tuple_iterator",data:= .fields #[.ref a,.int 0 0] }):=
  ⟨fun P w A E s Q c q=> wpAny_pyIter_tuple c q⟩
theorem B84 (a:Addr) (xs:Array Value):Itr (.ref a) (fun h=> h.IsList a xs) (fun h=> h.objs.size) (fun h=> h.push { cls:= .type "list_iterator",data:= .fields #[.ref a,.int 0 0] }):=
  ⟨fun P w A E s Q c q=> wpAny_pyIter_list c q⟩
def B0S (K:PySem.W.Frag) (a:Addr):It:=
  ⟨fun i H=> ∃(xs:List V) (x:V),SqT K H a xs∧xs[i]? =some x,fun i H v H'=> ∃T x,v= .ref T∧H T=none∧H'=upd H T (.tup [.int (i:Nat),x])∧∀xs,SqT K H a xs→xs[i]? =some x,fun i H=> ∃xs:List V,SqT K H a xs∧xs.length≤i⟩
theorem B9M {P:Program} {w:World} {K:PySem.W.Frag} {elts:List Expr} {kk:Nat} {tpos:Pos} (a en it:Addr):
    Turn P w K (.Tuple elts kk tpos) (B0S K a) [en,it] en (fun i h=> (∃old,IsEnum h en it ((i:Nat):Int) old)∧h.IsTupleIter it a i∧en≠it) where
  mem:=by simp
  obj:=fun i h st b hb=> by
    obtain ⟨⟨old,g⟩,⟨o,ho,hc,hd⟩,_⟩:=st
    rcases (show b=en∨b=it by simpa using hb) with z | z
    · rw [z];exact ⟨_,g,fun v q=> nomatch q⟩
    · rw [z];exact ⟨o,ho,fun v q=> by rw [hd] at q;cases q⟩
  keep:=fun i h h' ⟨⟨old,g⟩,hi,ne⟩ k=> ⟨⟨old,k en (by simp) _ g⟩,hi.at fun o q=> k it (by simp) o q,ne⟩
  item:=by
    intro X hP hw hK hc i pins s σ H E I hf ⟨⟨old,g⟩,hit,ne⟩ ⟨xs,x,hq,hx⟩
    subst hP hw hK
    obtain ⟨its,rv,tp,hz⟩:=I.tuple hq
    obtain ⟨u,hu,ru⟩:=rv.get hx
    have hel:en < s.heap.objs.size:=Heap.lt_size g
    have hil:it < s.heap.objs.size:=by obtain ⟨_,q,_⟩:=hit;exact Heap.lt_size q
    have ai:a≠it:=fun z=> by
      obtain ⟨o1,e1,c1,_⟩:=tp
      obtain ⟨o2,e2,c2,_⟩:=hit
      rw [z,e2] at e1
      cases e1
      rw [c2] at c1
      exact absurd (Value.type.inj c1) (by decide)
    have ae:en∉[it,a]:=fun z=> by
      rcases (show en=it∨en=a by simpa using z) with z | z
      · exact ne z
      · obtain ⟨o1,e1,c1,_⟩:=tp
        rw [←z] at e1
        rw [show s.heap.get? en=_ from g] at e1
        cases e1
        exact absurd (Value.type.inj c1) (by decide)
    have hlt:i < its.toArray.size:=by
      have:=(List.getElem?_eq_some_iff.mp hu).1
      simpa using this
    refine wpAny_pyNext_enum_itemD (Draws.tuple (show X.A.in1.handled=none from I.ok.hd hc) it a ai its.toArray) g ⟨hit,tp⟩ hlt ne ae fun y h1 tk py out st2 hT hsz keep=> ?_
    have ey:y=u:=by
      have py:its.toArray[i]? =some y:=py
      have:its[i]? =some y:=by simpa using py
      rw [hu] at this
      exact (Option.some.inj this).symm
    subst ey
    refine ⟨_,rfl,wpAny_letOwnedTupleGo_enum (s:={ s with heap:=h1,toks:=tk+1 }) out fun h2 g2 sb=> ?_⟩
    have hT2:h2.get? s.heap.objs.size=some { cls:= .type "tuple",data:= .seq #[.int i tk,y] }:=(sb.2 _ (Nat.ne_of_gt hel)).trans hT
    have new:ObjOk X.prog X.w (upd H s.heap.objs.size (.tup [.int (i:Nat),x])) h2 s.heap.objs.size (.tup [.int (i:Nat),x]):=
      ⟨by show 2≤sizeLine;decide,[.int i tk,y],.cons ⟨_,rfl⟩ (.cons ru .nil),⟨_,hT2,rfl,_,rfl⟩⟩
    have I1:Inv X pins σ (upd H s.heap.objs.size (.tup [.int (i:Nat),x])) { s with heap:=h2,toks:=tk+1 }:=
      I.turnedNew (ch:=[en,it]) (fun b ob hb q=> (sb.2 b (fun z=> hb (by simp [z]))).trans (keep b ob (fun z=> hb (by simp [z])) (fun z=> hb (by simp [z])) q)) hf (Nat.le_refl _) new
    refine ⟨.ref s.heap.objs.size,_,I1,rfl,⟨_,x,rfl,I.hok.fresh (Nat.le_refl _),rfl,fun ys hy=> by rw [I.tuple_inj hy hq];exact hx⟩,⟨⟨y,?_⟩,st2.1.at fun o q=> (sb.2 it (Ne.symm ne)).trans q,ne⟩,fun b hb=> ?_⟩
    · rw [show ((i+1:Nat):Int)=(i:Int)+1 by omega];exact g2
    · have lt:b < s.heap.objs.size:=by
        rcases (show b=en∨b=it by simpa using hb) with z | z
        · rw [z];exact hel
        · rw [z];exact hil
      rw [upd_ne (Nat.ne_of_lt lt)]
      exact (hf b hb).1
  done:=by
    intro X hP hw hK hc i pins s σ H E I hf ⟨⟨old,g⟩,hit,ne⟩ ⟨xs,hq,hx⟩
    subst hP hw hK
    obtain ⟨its,rv,tp,hz⟩:=I.tuple hq
    obtain ⟨f0,f1,f2,f3,f4,f5⟩:=hf it (by simp)
    have ai:a≠it:=fun z=> by
      obtain ⟨o1,e1,c1,_⟩:=tp
      obtain ⟨o2,e2,c2,_⟩:=hit
      rw [z,e2] at e1
      cases e1
      rw [c2] at c1
      exact absurd (Value.type.inj c1) (by decide)
    have hn:its.toArray[i]? =none:=by
      have:=rv.length
      rw [Array.getElem?_eq_none_iff]
      simp
      omega
    have D:Draws X.prog X.w X.A.in1 it [it,a] i (fun _ _=> False) (fun j h=> j=i∧h.IsTupleIter it a i∧h.IsTuple a its.toArray):=
      ⟨fun j h ⟨_,⟨o,ho,_⟩,_⟩=> ⟨o,ho⟩,fun j h h' ⟨e,x1,x2⟩ k=> ⟨e,x1.at fun o q=> k it (by simp) o q,x2.at fun o q=> k a (by simp) o q⟩,fun j t Q E lt ⟨e,_⟩=> absurd lt (by rw [e];exact Nat.lt_irrefl _),
        fun t Q E ⟨_,x1,x2⟩ hE=> wpAny_nextOf_tuple_end (show X.A.in1.handled=none from I.ok.hd hc) x1 x2 hn hE⟩
    exact wpAny_pyNext_enum_endD D g ⟨rfl,hit,tp⟩ fun h' eb=> ⟨rfl,I.turned (t':=s.toks) (fun b o hb q=> eb b o hb q) f0 f1 f3 f4 f5⟩
  self:=fun A i s Q E ⟨⟨_,g⟩,_⟩ q=> wpAny_pyIter_enum g q
def C4c (K:PySem.W.Frag) (ta:TA):TI:=fun σ H R=> ta σ H fun vs H1=> ∃a xs,vs=[.ref a]∧((SqT K H1 a xs∧R (B0S K a) H1)∨(SqL K H1 a xs∧R (Ite K a) H1))
theorem B4M {X:Cx} {e:Expr} {ta:TA} {p pos tpos:Pos} {elts:List Expr} {kk:Nat} (hg:Gl X "enumerate") (hm:X.mg "enumerate"=none) (ha:PA X [e] ta) (hs:starEach [e] X.env=[(false,eval e X.env)]:=by rfl):
    PI X (.Tuple elts kk tpos) (.Call (.Name "enumerate" p) [e] [] pos) (C4c X.K ta):=by
  refine ⟨fun pins s σ H R I h=> ?_⟩
  refine Call_ (ld_blt I hg hm boot_enumerate (PyProof.Rows.callWith_type1 (thn (ha.run pos pins s σ H _ I h) fun us s1 ⟨vs,H1,I1,r1,a,xs,ex,hqq⟩=> ?_) hs rfl))
  subst ex
  cases r1 with
  | cons r rr=>
    cases rr
    cases r
    rcases hqq with ⟨hq,q⟩ | ⟨hq,q⟩
    · obtain ⟨its,rv,tp,hz⟩:=I1.tuple hq
      refine B3r (B8U a its.toArray) tp fun h' eh g=> wpAny_pyIter_enum g ?_
      have sz:(s1.heap.push { cls:= .type "tuple_iterator",data:= .fields #[.ref a,.int 0 0] }).objs.size=s1.heap.objs.size+1:=Heap.size_push ..
      have I2:Inv X pins σ H1 { s1 with heap:=h' }:=I1.kept (t':=s1.toks) fun b o y=> by rw [eh];exact Heap.get?_push_of_some _ (Heap.get?_push_of_some _ y)
      have hit:h'.IsTupleIter s1.heap.objs.size a 0:=⟨_,by rw [eh];exact Heap.get?_push_of_some _ (Heap.get?_push_size _ rfl),rfl,rfl⟩
      rw [sz] at g ⊢
      refine ⟨s1.heap.objs.size+1,[s1.heap.objs.size+1,s1.heap.objs.size],_,_,H1,rfl,I2,B9M a (s1.heap.objs.size+1) s1.heap.objs.size,⟨⟨.none,g⟩,hit,Nat.succ_ne_self _⟩,fun b hb=> ?_,q⟩
      have le:s1.heap.objs.size≤b:=by
        rcases (show b=s1.heap.objs.size+1∨b=s1.heap.objs.size by simpa using hb) with z | z
        · rw [z];exact Nat.le_succ _
        · rw [z];exact Nat.le_refl _
      exact I1.fpOk le (I1.hok.fresh le)
    · obtain ⟨its,rv,tp,hz⟩:=I1.list hq
      refine B3r (B84 a its.toArray) tp.isList fun h' eh g=> wpAny_pyIter_enum g ?_
      have sz:(s1.heap.push { cls:= .type "list_iterator",data:= .fields #[.ref a,.int 0 0] }).objs.size=s1.heap.objs.size+1:=Heap.size_push ..
      have I2:Inv X pins σ H1 { s1 with heap:=h' }:=I1.kept (t':=s1.toks) fun b o y=> by rw [eh];exact Heap.get?_push_of_some _ (Heap.get?_push_of_some _ y)
      have hit:h'.IsListIter s1.heap.objs.size a 0:=⟨_,by rw [eh];exact Heap.get?_push_of_some _ (Heap.get?_push_size _ rfl),rfl,rfl⟩
      rw [sz] at g ⊢
      refine ⟨s1.heap.objs.size+1,[s1.heap.objs.size+1,s1.heap.objs.size],_,_,H1,rfl,I2,turn_enum a (s1.heap.objs.size+1) s1.heap.objs.size,⟨⟨.none,g⟩,hit,Nat.succ_ne_self _⟩,fun b hb=> ?_,q⟩
      have le:s1.heap.objs.size≤b:=by
        rcases (show b=s1.heap.objs.size+1∨b=s1.heap.objs.size by simpa using hb) with z | z
        · rw [z];exact Nat.le_succ _
        · rw [z];exact Nat.le_refl _
      exact I1.fpOk le (I1.hok.fresh le)
section
variable {K:PySem.W.Frag}
def U0 (ws:List W):List W:=(List.range ws.length).map fun (i:Nat)=> W.tup [.int (i:Int),ws.getD i .non]
theorem A8z {ws:List W} {i:Nat} {w:W} (h:(U0 ws)[i]? =some w):∃u,ws[i]? =some u∧w= .tup [.int i,u]:=by
  unfold U0 at h
  rw [List.getElem?_map] at h
  cases q:(List.range ws.length)[i]? with
  | none=> rw [q] at h;cases h
  | some j=>
    rw [q] at h
    obtain ⟨hj,e⟩:=List.getElem?_eq_some_iff.mp q
    simp at hj e
    subst e
    cases h
    exact ⟨ws[i],List.getElem?_eq_getElem hj,by simp [List.getD_eq_getElem?_getD,hj]⟩
theorem A89 {ws:List W}:(U0 ws).length=ws.length:=by simp [U0]
theorem A8Z {H:Hp} {a:Addr} {ws:List W} {vs:List V} (l:SqT K H a vs) (r:RepL K H ws vs):A1h K (B0S K a) H (U0 ws):=fun H' k i=> by
  refine ⟨fun h=> ⟨vs,k.sqT l,by rw [←r.length];rw [A89] at h;exact h⟩,fun w e=> ?_⟩
  obtain ⟨u,eu,rfl⟩:=A8z e
  obtain ⟨v,ev,rv⟩:=r.get eu
  refine ⟨⟨vs,v,k.sqT l,ev⟩,fun x H2 ⟨T,y,ex,nT,e2,f⟩=> ?_⟩
  subst ex e2
  have ey:y=v:=Option.some.inj ((f vs (k.sqT l)).symm.trans ev)
  subst ey
  have nw:New H' (upd H' T (.tup [.int (i:Nat),y])):=New.upd nT
  exact ⟨nw,.tup (.inl upd_same) (.cons .int (.cons (Rep.mono (k.trans nw.keeps) _ _ rv) .nil))⟩
theorem B2N {H:Hp} {a:Addr} {ws:List W} {vs:List V} (l:LsF H a vs) (r:RepL K H ws vs):A1h K (Ite K a) H (U0 ws):=fun H' k i=> by
  have l':=(k.lsF l).sq (K:=K)
  refine ⟨fun h=> ⟨vs,l',by rw [←r.length];rw [A89] at h;exact h⟩,fun w e=> ?_⟩
  obtain ⟨u,eu,rfl⟩:=A8z e
  obtain ⟨v,ev,rv⟩:=r.get eu
  refine ⟨⟨vs,v,l',ev⟩,fun x H2 ⟨T,y,ex,nT,e2,f⟩=> ?_⟩
  subst ex e2
  have ey:y=v:=Option.some.inj ((f vs l').symm.trans ev)
  subst ey
  have nw:New H' (upd H' T (.tup [.int (i:Nat),y])):=New.upd nT
  exact ⟨nw,.tup (.inl upd_same) (.cons .int (.cons (Rep.mono (k.trans nw.keeps) _ _ rv) .nil))⟩
end
def iEn (t:C3):U2:=fun env h Q=> t env h fun w env' h'=> match w with
  | .tup ws=> Q (U0 ws) env' h'
  | .lst ws=> Q (U0 ws) env' h'
  | .emp=> Q [] env' h'
  | _=> False
section
variable {X:Cx} {G:Gx} {e:Expr} {tv:C3} {p pos tpos:Pos} {elts:List Expr} {kk:Nat}
theorem iEn.mono (m:A9 tv):A9 (iEn tv):=fun env h Q Q' k q=> m env h _ _ (fun w e g z=> by
  split at z
  · exact k _ _ _ z
  · exact k _ _ _ z
  · exact k _ _ _ z
  · exact z) q
theorem B3T (gk:G.K=X.K) (hg:Gl X "enumerate") (hm:X.mg "enumerate"=none) (ha:AV X G e tv) (hs:starEach [e] X.env=[(false,eval e X.env)]:=by rfl):AI X G (.Tuple elts kk tpos) (.Call (.Name "enumerate" p) [e] [] pos) (iEn tv):=by
  have pa:PA X [e] (cA G (aCons tv aNil)):=(B7 (es:=[]) ha D7 hs).pa
  refine ⟨iEn.mono ha.mono,PI.imp (B4M hg hm pa hs) fun σ H R ⟨env,h,S,q⟩=> ⟨env,h,S,ha.mono env h _ _ (fun w e g z vs H1 S1 x1 r1=> ?_) q⟩⟩
  obtain ⟨v,t,rfl,r2,r3⟩:=r1.of_cons
  rw [r3.of_nil]
  split at z
  · obtain ⟨a,xs,ev,hq,rl⟩:=Rep.of_tup (K:=G.K) (H:=H1) r2
    subst ev
    exact ⟨a,xs,rfl,.inl ⟨gk▸hq,z _ H1 S1 x1 (gk▸A8Z hq rl)⟩⟩
  · obtain ⟨a,xs,ev,hq,rl⟩:=Rep.of_lst (K:=G.K) (H:=H1) r2
    subst ev
    exact ⟨a,xs,rfl,.inr ⟨hq.sq,z _ H1 S1 x1 (gk▸B2N hq rl)⟩⟩
  · obtain ⟨a,ev,eq⟩:=Rep.of_emp (K:=G.K) (H:=H1) r2
    subst ev
    exact ⟨a,[],rfl,.inl ⟨gk▸eq.sq,z _ H1 S1 x1 (gk▸A8Z (ws:=[]) eq.sq .nil)⟩⟩
  · exact z.elim
end
end Ab
namespace Ab
open PySem PySem.Spec PyProof.Rows L2 RZ
open Sem (wp)
section
variable {P:Program} {w:World} {A:Around} {E:Value→Shared→Prop} {s:Shared} {z TI TO i1 i2:Addr} {fp1 fp2:List Addr} {n1 n2 i:Nat} {P1 P2:Nat→Value→Prop} {St1 St2:Nat→Heap→Prop} {a1 a2 f0 f1:Value}
end
end Ab
namespace Ab
open PySem PySem.Spec PyProof.Rows L2 RZ
open Sem (wp)
section
variable {P:Program} {w:World} {A:Around} {E:Value→Shared→Prop} {s:Shared} {en it:Addr} {old:Value} {ch:List Addr}
end
section
variable {P:Program} {w:World} {A:Around} {E:Value→Shared→Prop} {s:Shared} {z TI TO i1 i2:Addr} {fp1 fp2:List Addr} {n1 n2 i:Nat} {P1 P2:Nat→Value→Prop} {St1 St2:Nat→Heap→Prop} {a1 a2 f0 f1:Value}
end
end Ab
namespace Ab
open PySem PySem.Spec PyProof.Rows L2 RZ
open Sem (wp)
def ItAt (k:Bool) (h:Heap) (it a:Addr) (i:Nat):Prop:=if k=true then h.IsTupleIter it a i else h.IsListIter it a i
def HpAt (k:Bool) (h:Heap) (a:Addr) (xs:Array Value):Prop:=if k=true then h.IsTuple a xs else h.IsList a xs
theorem ItAt.keep {k:Bool} {h h':Heap} {it a:Addr} {i:Nat} (x:ItAt k h it a i) (y:∀o,h.get? it=some o→h'.get? it=some o):ItAt k h' it a i:=by
  cases k with
  | true=> exact Heap.IsTupleIter.at (show h.IsTupleIter it a i from x) y
  | false=> exact Heap.IsListIter.at (show h.IsListIter it a i from x) y
theorem ItAt.obj {k:Bool} {h:Heap} {it a:Addr} {i:Nat} (x:ItAt k h it a i):∃o,h.get? it=some o∧∀v,o.data≠ .cell v:=by
  cases k with
  | true=>
    obtain ⟨o,e,_,d⟩:h.IsTupleIter it a i:=x
    exact ⟨o,e,fun v q=> by rw [d] at q;cases q⟩
  | false=>
    obtain ⟨o,e,_,d⟩:h.IsListIter it a i:=x
    exact ⟨o,e,fun v q=> by rw [d] at q;cases q⟩
theorem HpAt.keep {k:Bool} {h h':Heap} {a:Addr} {xs:Array Value} (x:HpAt k h a xs) (y:∀o,h.get? a=some o→h'.get? a=some o):HpAt k h' a xs:=by
  cases k with
  | true=> exact Heap.IsTuple.at (show h.IsTuple a xs from x) y
  | false=> exact Heap.IsList.at (show h.IsList a xs from x) y
theorem HpAt.lt {k:Bool} {h:Heap} {a:Addr} {xs:Array Value} (x:HpAt k h a xs):a < h.objs.size:=by
  cases k with
  | true=> obtain ⟨o,e,_⟩:h.IsTuple a xs:=x;exact Heap.lt_size e
  | false=> obtain ⟨o,e,_⟩:h.IsList a xs:=x;exact Heap.lt_size e
structure EzSep (en z TI TO i1 i2 a b:Addr):Prop where
  S:ZipSep2 z TI TO i1 i2 [i1,a] [i2,b]
  ez:en≠z
  eT:en≠TI
  eO:en≠TO
  e1:en≠i1
  e2:en≠i2
  a1:a≠i1
  b2:b≠i2
def ezW (ws us:List W):List W:=U0 (List.zipWith (fun a b=> W.tup [a,b]) ws us)
def W.items:W→Option (List W)
  | .tup xs=> some xs
  | .lst xs=> some xs
  | _=> none
def iEz (t:E5):U2:=fun env h Q=> t env h fun ws env' h'=> match ws with
  | [a,b]=> match a.items,b.items with
    | some xs,some ys=> Q (ezW xs ys) env' h'
    | _,_=> False
  | _=> False
section
variable {X:Cx} {G:Gx} {e e2:Expr} {ta:E5} {p p2 pos pos2 tpos:Pos} {elts:List Expr} {kk:Nat}
theorem iEz.mono (m:A9 ta):A9 (iEz ta):=fun env h Q Q' k q=> m env h _ _ (fun ws e g z=> by
  split at z
  · split at z
    · exact k _ _ _ z
    · exact z
  · exact z) q
end
end Ab
namespace Ab
open PySem PySem.Spec PyProof.Rows L2 RZ
section
variable {X:Cx} {G:Gx} {a b:Expr} {ta tb:AT} {pos:Pos}
end
def aAugS (f:Int→Int→Int) (to ti te:AT):C0:=fun D env h=> to env h fun ro env1 h1=> ti env1 h1 fun ri env2 h2=> match view env2 h2 ri with
  | .wv (.int k)=> (0≤k∧k < 2 ^ 62)∧(match Q6 env2 h2 ro with
    | some (.seq xs)=> (match xs[k.toNat]? with
      | some (.int x)=> te env2 h2 fun re env3 h3=> (match view env3 h3 re with
        | .wv (.int y)=> (match Q6 env3 h3 ro with
          | some (.seq ys)=> k.toNat < ys.length∧D.nx (A0b env3 ro (.seq (ys.set k.toNat (.int (f x y))))) (A0a h3 ro (.seq (ys.set k.toNat (.int (f x y)))))
          | _=> False)
        | _=> False)
      | _=> False)
    | _=> False)
  | _=> False
section
variable {X:Cx} {G:Gx} {o i e:Expr} {to ti te:AT} {tpos pos:Pos} {op:Operator} {f:Int→Int→Int}
theorem aAugS.mono (mo:A9 to) (mi:A9 ti) (me:A9 te):n8 (aAugS f to ti te):=fun D D' env h l q=> mo env h _ _ (fun ro e g z=> mi e g _ _ (fun ri e g z=> by
  split at z
  · refine ⟨z.1,?_⟩
    have z:=z.2
    split at z
    · split at z
      · refine me e g _ _ (fun re e g z=> ?_) z
        split at z
        · split at z
          · exact ⟨z.1,l.nx _ _ z.2⟩
          · exact z
        · exact z
      · exact z
    · exact z
  · exact z) z) q
end
section
variable {X:Cx} {G:Gx} {a b:Expr} {ta tb:AT} {pos p p2 pos2:Pos}
end
def aExt (to te:AT):AT:=fun env h Q=> to env h fun ro env1 h1=> A9r (Q6 env1 h1 ro)∧te env1 h1 fun re env2 h2=> match view env2 h2 re with
  | .cv (.seq ys)=> (match Q6 env2 h2 ro with
    | some (.seq xs)=> xs.length+ys.length≤sizeLine∧Q (.val .non) (A0b env2 ro (.seq (xs++ys))) (A0a h2 ro (.seq (xs++ys)))
    | _=> False)
  | _=> False
section
variable {X:Cx} {G:Gx} {o e:Expr} {to te:AT} {apos cpos:Pos}
theorem aExt.mono (mo:A9 to) (me:A9 te):A9 (aExt to te):=fun env h Q Q' k q=> mo env h _ _ (fun ro e g ⟨i,z⟩=> ⟨i,me e g _ _ (fun re e g z=> by
  split at z
  · split at z
    · exact ⟨z.1,k _ _ _ z.2⟩
    · exact z
  · exact z) z⟩) q
theorem C1v (ho:AE X G o to) (he:AE X G e te)
    (hbase:attributeBase o "extend" X.env (eval o X.env)=eval o X.env:=by rfl)
    (hfew:((backTo cpos (starEach [e] X.env)).all (fun x=> !x.1) && (backToKw cpos (keywordEach [] X.env)).all (fun x=> x.1.isSome)
      && decide ([e].length+([]:List Keyword).length+(if ([]:List Keyword).isEmpty then 0 else 1) < 30))=true:=by rfl)
    (hline:(apos.endLine==cpos.line)=true:=by rfl) (hs:starEach [e] X.env=(false,eval e X.env)::starEach [] X.env:=by rfl) (hplain:(backTo cpos (starEach [] X.env)).any (·.1)=false:=by rfl):
    AE X G (.Call (.Attribute o "extend" apos) [e] [] cpos) (aExt to te):=by
  refine ⟨aExt.mono ho.mono he.mono,PE.imp (pe_bm PySem.F.plainAttrs_list PySem.F.slot_list_extend PySem.F.type_list_extend mt_extend ho.pe (G0 (es:=[]) he K2 hs).pa hbase hfew hline hs hplain) fun σ H Q ⟨env,h,S,q⟩=> ?_⟩
  refine ⟨env,h,S,ho.mono env h _ _ (fun ro env1 h1 ⟨is,z⟩ x H1 S1 x1 r1 f1=> ?_) q⟩
  have ty:tyV X.K "list" x H1:=by
    cases e:Q6 env1 h1 ro with
    | none=> rw [e] at is;exact is.elim
    | some c=>
      cases c with
      | map _=> rw [e] at is;exact is.elim
      | seq xs=>
        obtain ⟨p,rfl,⟨vs,l,_⟩,_⟩:=A2Y S1 r1 e
        exact .inl ⟨rfl,_,.inl (.inl l)⟩
  refine ⟨ty,env1,h1,S1,he.mono env1 h1 _ _ (fun re env2 h2 z vs H2 S2 x2 r2=> ?_) z⟩
  cases r2 with
  | cons rb rr=>
    cases rr
    have rv:=rb.vr S2
    split at z
    · rename_i ys ey
      rw [ey] at rv
      obtain ⟨b,rfl,vb,lb,rlb⟩:=rv
      split at z
      · rename_i xs ex
        obtain ⟨p,rfl,⟨us,lu,rlu⟩,put⟩:=A2Y S2 (r1.xt S1 x2) ex
        refine ⟨p,b,us,vb,rfl,rfl,lu,lb,by rw [←rlu.length,←rlb.length];exact z.1,?_⟩
        obtain ⟨S3,x3⟩:=put (.lst (us++vb)) (.seq (xs++ys)) fun kk=> ⟨_,upd_same,RepL.mono kk _ _ (rlu.append rlb)⟩
        exact z.2 .non _ S3 (x1.trans (x2.trans x3)) (show Rep G.K _ _ _ from .non) trivial
      · exact z.elim
    · exact z.elim
end
end Ab
namespace Ab
open PySem PySem.Spec PyProof.Rows L2 RZ
def A9a (i:Nat) (t:AT):C0:=fun D env h=> t env h fun r env1 h1=> match r with
  | .own c=> D.nx (env1.set i (some (.own c))) h1
  | _=> False
section
variable {X:Cx} {G:Gx} {i:Nat} {y:Str} {py:Pos} {elt tg iter:Expr} {ifs:List Expr} {scope:Scope} {own:List (Str×Nat)} {pos spos:Pos} {ti:U2} {g:G5} {tt:G7} {te:C3} {sl:List Nat}
theorem B9E (hc:X.calm=true) (hN:X.N.Nodup) (hy:X.N[i]? =some y) (hk:X.env.scope.kind= .function) (hyl:X.env.scope.names.lookup y=some .local) (hi:AI X G tg iter ti) (ok:BlkOk X.N X.env.scope scope own) (hsl:∀i∈sl,i∈own.map (·.2))
    (hg:∀(s:Shared) (H:Hp) (C:Addr) (cl:List (Str×Addr)) (fp:List Addr),AG (X.blk s H scope (compEnvC scope cl C X.env) fp) G tg sl g) (ht:∀(s:Shared) (H:Hp) (C:Addr) (cl:List (Str×Addr)) (fp:List Addr),APs (X.blk s H scope (compEnvC scope cl C X.env) fp) G ifs tt)
    (he:∀(s:Shared) (H:Hp) (C:Addr) (cl:List (Str×Addr)) (fp:List Addr),AV (X.blk s H scope (compEnvC scope cl C X.env) fp) G elt te)
    (hl:(py.line==pos.line)=true:=by rfl) (hany:(scope.names.any fun (n,k)=> n==y && (k== .local || k== .cell))=false:=by rfl) (hs:∀x,foldedSetIterable iter X.env x=pure x:=by intro _;rfl):
    AS X G (.Assign [.Name y py] (.ListComp elt [⟨tg,iter,ifs,0⟩] scope pos) spos) (A9a i (o7 (own.map (·.2)) ti g tt te)):=by
  have mg:=(hg X.s_0 X.H_0 0 [] []).mono
  have mt:=(ht X.s_0 X.H_0 0 [] []).mono
  have me:=(he X.s_0 X.H_0 0 [] []).mono
  have mo:A9 (o7 (own.map (·.2)) ti g tt te):=fun env h Q Q' k q=> hi.mono env h _ _ (fun ws e1 h1 z=> lcLoop.mono mg mt me (fun a e h q=> k _ _ _ q) ws [] e1 h1 z) q
  refine ⟨fun D D' env h l q=> mo env h _ _ (fun r e k z=> ?_) q,PS.imp (ps_setLc hc hN hy hyl (sw_true hk hyl hl hany) hi.pi ok (fun s H C cl fp=> (hg s H C cl fp).pg) (fun s H C cl fp=> (ht s H C cl fp).pts) (fun s H C cl fp=> (he s H C cl fp).pe) hs) fun D σ H ⟨env,h,Da,S,q,l⟩=> ?_⟩
  · split at z
    · exact l.nx _ _ z
    · exact z
  · refine B3G hi hsl mg mt me ⟨env,h,S,mo env h _ _ (fun r env1 h1 z v H1 S1 x1 r1 f1=> ?_) q⟩
    split at z
    · exact l.nx _ _ _ _ (S1.set i r1 trivial) (x1.keeps S) z
    · exact z.elim
end
end Ab
namespace Ab
open PySem PySem.Spec PyProof.Rows L2 RZ
section
variable {X:Cx} {G:Gx} {es:List Expr} {k n:Nat} {u:A1F} {sl:List Nat} {pos:Pos}
theorem PG.or {tg:Expr} {t t':TG} (a:PG X tg t) (b:PG X tg t'):PG X tg (fun v σ H Q=> t v σ H Q∨t' v σ H Q):=⟨fun pins s σ H v u Q I r q=> q.elim (fun z=> a.run pins s σ H v u Q I r z) fun z=> b.run pins s σ H v u Q I r z⟩
end
end Ab
namespace Ab
open PySem PySem.Spec PyProof.Rows L2 RZ
section
variable (l:Addr) (items:Array Value) (n:Nat) (dd:Option Addr) (sl:Array (Option Value)) (x:Int) (u:Tok)
abbrev B5h:Obj:={ cls:= .type "tuple",dict:=dd,data:= .seq items n,slots:=sl }
theorem B89 (u:Tok):Meets (Builtin.«tuple.__mul__» ⟨[.ref l,.int 1 u],[]⟩)
    (fun _ R s=> s.heap.get? l=some (B5h items n dd sl)∧R (.ok (.ret (Value.ref l))) s):=
  .of_wp fun prog w A R s h=> by
    obtain ⟨hp,g,d,tk,os⟩:=s
    obtain ⟨hl,h⟩:=h
    have f1:=AutoSeq1.idx_int
    have c0:(decide ((1:Int) < -(2 ^ 63)) || decide ((1:Int)≥2 ^ 63))=false:=by decide
    have c1:(items.isEmpty || (1:Int)==1)=true:=by simp
    wp_walk using wpAny_loadPart' hl
    repeat (first
      | (apply wpAny_ite_false (decide_eq_false (by rw [c0];decide));wp_walk using wpAny_loadPart' hl)
      | (apply wpAny_ite_true (decide_eq_true c1);wp_walk using wpAny_loadPart' hl))
    all_goals first | exact ⟨_,rfl,h⟩ | skip
theorem B9K (hx:x≤0) (hx2: -(2 ^ 63)≤x) (hi:items.isEmpty=false):Meets (Builtin.«tuple.__mul__» ⟨[.ref l,.int x u],[]⟩)
    (fun _ R s=> s.heap.get? l=some (B5h items n dd sl)∧
      R (.ok (.ret (Value.ref s.heap.objs.size))) { s with heap:=s.heap.push { cls:=Value.type "tuple",data:=Data.seq #[] },toks:=s.toks }):=
  .of_wp fun prog w A R s h=> by
    obtain ⟨hp,g,d,tk,os⟩:=s
    obtain ⟨hl,h⟩:=h
    have f1:=AutoSeq1.idx_int
    have c0:(decide (x < -(2 ^ 63)) || decide (x≥2 ^ 63))=false:=by
      rw [decide_eq_false (by omega),decide_eq_false (by omega)]
      rfl
    have c1:(items.isEmpty || x==1)=false:=by
      rw [hi,Bool.false_or]
      exact beq_eq_false_iff_ne.mpr (by omega)
    have c2:(decide (x≤0) || items.isEmpty)=true:=by
      rw [decide_eq_true hx]
      rfl
    wp_walk using wpAny_loadPart' hl
    repeat (first
      | (apply wpAny_ite_false (decide_eq_false (by rw [c0];decide));wp_walk using wpAny_loadPart' hl)
      | (apply wpAny_ite_false (decide_eq_false (by rw [c1];decide));wp_walk using wpAny_loadPart' hl)
      | (apply wpAny_ite_true (decide_eq_true c2);wp_walk using wpAny_loadPart' hl))
    all_goals first | exact ⟨_,rfl,h⟩ | skip
end
def B4t (K:PySem.W.Frag):R2:=fun x y H Q=> ∃l k xs,x= .ref l∧y= .int k∧SqT K H l xs∧xs≠[]∧ -(2 ^ 63)≤k∧k≤1000∧xs.length≤1000∧
  (k=1→Q (.ref l) H)∧(k≠1→∀p,H p=none→Q (.ref p) (upd H p (.tup (List.replicate k.toNat xs).flatten)))
theorem C1I {X:Cx}:OpR X (binaryOp .Mult) (B4t X.K):=by
  intro pins s σ H x y v u Q I rx ry h
  obtain ⟨l,k,xs,rfl,rfl,hT,hne,h1,h2,hz,q1,q⟩:=h
  by_cases k2:2≤k
  · exact op_repT pins s σ H _ _ v u Q I rx ry ⟨l,k,xs,rfl,rfl,hT,hne,k2,h2,hz,q (by omega)⟩
  cases rx
  obtain ⟨t,rfl⟩:=ry
  obtain ⟨its,r,⟨⟨cls,dd,data,sl⟩,ho,hc,n,hd⟩,hs⟩:=I.tuple hT
  simp only at hc hd
  subst hc hd
  have hle:its.length=xs.length:=r.length.symm
  have hi:its.toArray.isEmpty=false:=by
    cases its with
    | nil=> exact absurd (List.eq_nil_of_length_eq_zero hle.symm) hne
    | cons a b=> rfl
  have road:∀{R:Value→Shared→Prop} {E:Value→Shared→Prop},wpAny (model X.prog X.w) X.A (call (.builtin "tuple.__mul__") [.ref l,.int k t]) R E s→wpAny (model X.prog X.w) X.A (binaryOp .Mult (.ref l) (.int k t)) R E s:=fun {R E} z=>
    wpAny_binaryOp_repeat_ref (T:="tuple") (U:="int") (by decide) ⟨_,ho,rfl⟩ (fun s'=> typeIs_int s' k t) noFill_tuple_mul F.fills_int_mul F.slot_int_rmul repeat_tuple F.slot_int_index.lookup
      (call_meets F.slot_int_rmul (typeIs_int s k t) F.entry_int_rmul (F.args_int_rmul_2 _ _) (int_rmul_tuple k t l its.toArray n dd sl) ⟨ho,rfl,⟨_,ho,rfl⟩,z⟩)
  by_cases k1:k=1
  · subst k1
    exact road (call_meets F.slot_tuple_mul ⟨_,ho,rfl⟩ F.entry_tuple_mul (F.args_tuple_mul_2 _ _) (B89 l its.toArray n dd sl t) ⟨ho,.ref l,H,I,rfl,q1 rfl⟩)
  · refine road (call_meets F.slot_tuple_mul ⟨_,ho,rfl⟩ F.entry_tuple_mul (F.args_tuple_mul_2 _ _) (B9K l its.toArray n dd sl k t (by omega) h1 hi) ⟨ho,?_⟩)
    have ek:k.toNat=0:=by omega
    have z:=q k1 s.heap.objs.size (I.hok.fresh (Nat.le_refl _))
    rw [ek] at z
    exact ⟨.ref s.heap.objs.size,_,I.laid (t':=s.toks) (o:= .tup []) (fun b ob q=> Heap.get?_push_of_some _ q) (Nat.le_refl _) ⟨by decide,_,.nil,IsTup.new _ _⟩,rfl,z⟩
def oMulT:L7:=fun a b Q=> match b with
  | .wv (.int j)=> match a with
    | .wv (.int i)=> CMulW i j∧Q (.val (.int (i*j)))
    | .cv (.seq xs)=> (-(2 ^ 63)≤j∧j < 2 ^ 63∧xs.length*j.toNat≤sizeLine)∧Q (.own (.seq (List.replicate j.toNat xs).flatten))
    | .wv (.tup xs)=> (-(2 ^ 63)≤j∧j≤1000∧1≤xs.length∧xs.length≤1000)∧Q (.val (.tup (List.replicate j.toNat xs).flatten))
    | _=> False
  | _=> False
theorem oMulT.mono (a b:Vw) (Q Q':RV→Prop) (k:∀r,Q r→Q' r) (q:oMulT a b Q):oMulT a b Q':=by
  unfold oMulT at q ⊢
  split at q
  · split at q
    · exact ⟨q.1,k _ q.2⟩
    · exact ⟨q.1,k _ q.2⟩
    · exact ⟨q.1,k _ q.2⟩
    · exact q
  · exact q
theorem B88 {K:PySem.W.Frag}:OpA K (fun x y H Q=> (rI CMulW (fun i j=> .int (i*j)) x y H Q∨rRep x y H Q)∨B4t K x y H Q) oMulT:=
  ⟨oMulT.mono,fun a b x y H Q0 Q ra rb q k=> by
    unfold oMulT at q
    split at q
    · rename_i j
      have ey:y= .int j:=rb.int
      split at q
      · rename_i i
        have ex:x= .int i:=ra.int
        exact .inl (.inl ⟨i,j,ex,ey,q.1,k _ _ (.val q.2 .int)⟩)
      · rename_i xs
        obtain ⟨p,ex,vs,l,rl⟩:=ra
        exact .inl (.inr ⟨p,j,vs,ex,ey,l,q.1.1,q.1.2.1,by rw [←rl.length];exact q.1.2.2,fun p' n=> k _ _ (.lst n q.2 (rl.rep _))⟩)
      · rename_i xs
        obtain ⟨p,vs,ex,l,rl⟩:=Rep.of_tupT (K:=K) (H:=H) ra
        refine .inr ⟨p,j,vs,ex,ey,l.sq,fun e=> ?_,q.1.1,q.1.2.1,by rw [←rl.length];exact q.1.2.2.2,fun e=> ?_,fun _ p' n=> k _ _ (.tup n q.2 (rl.rep _))⟩
        · have:=rl.length
          rw [e] at this
          have:=q.1.2.2.1
          simp_all
        · subst e
          have q2:=q.2
          rw [show (1:Int).toNat=1 from rfl] at q2
          simp only [List.replicate,List.flatten_cons,List.flatten_nil,List.append_nil] at q2
          exact k _ _ (.val q2 (.tup l rl))
      · exact q.elim
    · exact q.elim⟩
theorem l9 {X:Cx} {G:Gx} {a b:Expr} {ta tb:AT} {pos:Pos} (gk:G.K=X.K) (ha:AE X G a ta) (hb:AE X G b tb):AE X G (.BinOp a .Mult b pos) (aOp2 oMulT ta tb):=A3O ((op_mulW.or op_rep).or C1I) (gk▸B88) ha hb
end Ab
namespace HT
open PySem PySem.Spec PyProof.Rows
section
variable {prog:Program} {w:World} {A:Around} {E:Value→Shared→Prop} {s:Shared}
end
end HT
namespace Ab
open PySem PySem.Spec PyProof.Rows L2 RZ
section
variable {X:Cx} {e st:Expr} {te ts:TE} {pos p2:Pos}
end
theorem RepL.reverse {K:PySem.W.Frag} {H:Hp}:∀{ws:List W} {vs:List V},RepL K H ws vs→RepL K H ws.reverse vs.reverse
  | [],vs,h=> by rw [h.of_nil];exact .nil
  | w::ws,vs,h=> by
    obtain ⟨v,r,rfl,a,t⟩:=h.of_cons
    rw [List.reverse_cons,List.reverse_cons]
    exact t.reverse.append (.cons a .nil)
def oBack:L4:=fun as Q=> match as with
  | [.wv (.tup xs),.wv (.int i)]=> i= -1∧Q (.val (.tup xs.reverse))
  | _=> False
theorem oBack.mono {as:List Vw} {Q Q':RV→Prop} (k:∀r,Q r→Q' r) (q:oBack as Q):oBack as Q':=by
  unfold oBack at q ⊢
  split at q
  · exact ⟨q.1,k _ q.2⟩
  · exact q.elim
section
variable {X:Cx} {G:Gx} {a st:Expr} {ta ts:AT} {pos p2:Pos}
end
end Ab
namespace Ab
open PySem PySem.Spec PyProof.Rows L2 RZ
def ins (a:Int):List Int→List Int
  | []=> [a]
  | b::r=> if a≤b then a::b::r else b::ins a r
def srt:List Int→List Int
  | []=> []
  | a::r=> ins a (srt r)
def B30:L4:=oInts fun ns Q=> Q (.own (.seq ((srt ns).map W.int)))
end Ab
namespace Ab
open PySem PySem.Spec PyProof.Rows L2 RZ
section
variable {G:Gx} {env env' env2:A0} {h h':AH} {σ:L2.St} {H H1 H2:Hp} {p:Addr}
end
def B0B {α:Type}:List (α×α)→List α
  | []=> []
  | p::r=> p.1::p.2::B0B r
structure AD (X:Cx) (G:Gx) (pos:Pos) (keys:List (Option Expr)) (values:List Expr) (t:E5):Prop where
  mono:A9 t
  all:keys.all (·.isSome)=true
  len:keys.length=values.length
  pp:∃trs,PPs X pos keys values trs∧∀σ H Q env h,BS G env h σ H→(t env h fun ws env' h'=> ∀ps H',BS G env' h' σ H'→Xt env h σ H env' h' H'→RepL G.K H' ws (B0B ps)→Q ps H')→tPairs trs σ H Q
section
variable {X:Cx} {G:Gx} {pos:Pos}
end
end Ab
namespace Ab
open PySem PySem.Spec PyProof.Rows L2 RZ
def B45 (kvs:List (W×W)) (k:Key) (d:W):W:=((kvs.find? fun p=> decide (A0f p.1=some k)).map (·.2)).getD d
def B4s (kvs:List (W×W)):Prop:=kvs≠[]∧∀p∈kvs,(A0f p.1).isSome=true
def aGetD (i:Nat) (tk td:C3):AT:=fun env h Q=> (∃kvs,env[i]? =some (some (.own (.map kvs))))∧tk env h fun w env1 h1=> td env1 h1 fun d env2 h2=>
  ∃kvs key,env2[i]? =some (some (.own (.map kvs)))∧B4s kvs∧A0f w=some key∧Q (.val (B45 kvs key d)) env2 h2
theorem aGetD.mono {i:Nat} {tk td:C3} (m:A9 tk) (n:A9 td):A9 (aGetD i tk td):=fun env h Q Q' k q=>
  ⟨q.1,m env h _ _ (fun w e g z=> n e g _ _ (fun d e g ⟨kvs,key,z1,z2,z3,z4⟩=> ⟨kvs,key,z1,z2,z3,k _ _ _ z4⟩) z) q.2⟩
section
variable {X:Cx} {G:Gx}
end
end Ab
namespace Ab
open PySem PySem.Spec PyProof.Rows L2 RZ
section
variable {X:Cx} {G:Gx}
def aPrm (t:AT):C3:=fun env h Q=> t env h fun r env' h'=> match r with
  | .own c=> ∀p,h' p=none→Q (.ref p) env' (D6 h' p (.cont c))
  | _=> False
theorem aPrm.mono {t:AT} (m:A9 t):A9 (aPrm t):=fun env h Q Q' k q=> m env h _ _ (fun r e g z=> by
  cases r with
  | own c=> exact fun p n=> k _ _ _ (z p n)
  | val w=> exact z.elim
  | slot i=> exact z.elim) q
theorem B4B {e:Expr} {t:AT} (a:AE X G e t):AV X G e (aPrm t):=by
  refine ⟨aPrm.mono a.mono,PE.imp a.pe fun σ H Q ⟨env,h,S,q⟩=> ?_⟩
  refine ⟨env,h,S,a.mono env h _ _ (fun r env1 h1 z v H1 S1 x1 r1 f1=> ?_) q⟩
  cases r with
  | val w=> exact z.elim
  | slot i=> exact z.elim
  | own c=>
    obtain ⟨p,rfl,cr,n,n0,no⟩:=r1
    have fr:H p=none:=f1 p rfl
    refine z p n (.ref p) H1 ⟨S1.len,S1.val,fun j d z=> ?_,S1.uni,fun a o z=> ?_,S1.fr,fun a o z y=> ?_,S1.tr,S1.tabs⟩ ⟨x1.fr,fun q o z y=> ?_,x1.th,x1.sl⟩ .ref
    · obtain ⟨q,a,b,x,y⟩:=S1.own j d z
      have nq:q≠p:=fun z2=> no ⟨j,d,z,by rw [a,z2]⟩
      exact ⟨q,a,b,by rw [I6 nq];exact x,y⟩
    · by_cases ha:a=p
      · subst ha;rw [R4] at z;cases z;exact cr
      · rw [I6 ha] at z;exact S1.hp a o z
    · by_cases ha:a=p
      · subst ha;exact n0
      · rw [I6 ha] at z;exact S1.ext a o z y
    · by_cases hq:q=p
      · subst hq;exact fr
      · rw [I6 hq] at z;exact x1.hn q o z y
def C1t (h:AH) (p:Addr):AH:=fun b=> if b=p then none else h b
def demL:List W→AH→(List W→AH→Prop)→Prop
  | [],h,Q=> Q [] h
  | w::ws,h,Q=> match w with
    | .ref p=> (match h p with
      | some (.cont c)=> demL ws (C1t h p) fun us h'=> Q (c.fz::us) h'
      | _=> False)
    | _=> False
theorem demL.mono:∀{ws:List W} {h:AH} {Q Q':List W→AH→Prop},(∀us h',Q us h'→Q' us h')→demL ws h Q→demL ws h Q'
  | [],h,Q,Q',k,q=> k _ _ q
  | w::ws,h,Q,Q',k,q=> by
    cases w with
    | ref p=>
      unfold demL at q ⊢
      dsimp only at q ⊢
      split at q
      · exact demL.mono (fun us h' q=> k _ _ q) q
      · exact q.elim
    | _=> exact q.elim
end
end Ab
namespace Ab
open PySem PySem.Spec PyProof.Rows L2 LamX
def A0g (f:Addr) (q:Str) (params:Arguments) (body:Expr) (scope:Scope) (cl:List (Str×Addr)) (c:Addr):HO:=
  .ext fun h=> ∃pm ctv:Value,h.get? f=some (PySem.W.kla_obj "<lambda>" q params body scope cl pm c ctv)
theorem A25 {f c:Addr} {q:Str} {params:Arguments} {body:Expr} {scope:Scope} {cl:List (Str×Addr)}:NT (A0g f q params body scope cl c):=fun ps e=> by
  unfold A0g at e;cases e
theorem A2z {c:Addr} {q:Str}:NT (CodeO c q):=fun ps e=> by
  unfold CodeO at e;cases e
section
variable {X:Cx} {pins:List (Addr×Obj)} {σ:L2.St} {H:Hp} {s:Shared} {T:List (Addr×Str)} {c P:Addr} {params:Arguments} {body:Expr} {scope:Scope} {pos:Pos}
structure Made (X:Cx) (T:List (Addr×Str)) (P:Addr) (params:Arguments) (body:Expr) (scope:Scope) (H H1:Hp) (f c:Addr):Prop where
  but:∀b o,H b=some o→b≠P→H1 b=some o
  tab:∃ps,H1 P=some (.tbl ps)
  tabs:Tabs T H1
  new:H f=none
  lam:H1 f=some (A0g f (X.env.qual++"<lambda>") params body scope (cloFrom X.env.cells scope.names []) c)
  code:H1 c=some (CodeO c (X.env.qual++"<lambda>"))
theorem B2q {h':Heap} {H1:Hp} {c':Addr} {pm ctv:Value} {tk:Nat} {cl:List (Str×Addr)} {q:Str} (I:Inv X pins σ H1 { s with heap:=h',toks:=tk }):
    Inv X pins σ (upd H1 h'.objs.size (A0g h'.objs.size q params body scope cl c')) { s with heap:=h'.push (PySem.W.kla_obj "<lambda>" q params body scope cl pm c' ctv),toks:=tk }:=
  I.laid (a:=h'.objs.size) (t':=tk) (fun b u e=> Heap.get?_push_of_some _ e) (Nat.le_refl _) ⟨⟨pm,ctv,Heap.get?_push_size _ rfl⟩,⟨_,Heap.get?_push_size _ rfl⟩,fun h1 h2 ⟨a,b,e⟩ st=> ⟨a,b,st _ e⟩⟩
theorem C1N {E:Value→Shared→Prop} {Q:Value→Shared→Prop} (I:Inv X pins σ H s) (TB:TabB X.base X.mg c P) (hcode:X.env.code= .ref c)
    (hm:(P,X.env.qual++"<lambda>")∈T) (hu:∀p∈T,p.1=P→p.2=X.env.qual++"<lambda>") (hT:Tabs T H) (hdef:defaultsOf params X.env=([],[])) (hfree:∀y∈scope.names,y.2= .free→∃c,X.env.cells.lookup y.1=some c)
    (h:∀(f c':Addr) (H1:Hp) (s':Shared),Inv X pins σ H1 s'→Made X T P params body scope H H1 f c'→Q (.ref f) s'):
    wpAny (model X.prog X.w) X.A (eval (.Lambda params body scope pos) X.env) Q E s:=by
  obtain ⟨ps,hP,ht,ha⟩:=hT _ hm
  refine PySem.W.kla_eval hdef ?_
  have bP:s.heap.BuiltinsAt X.mg P:=TB.bm.keeps I.bk
  have oP:s.heap.get? P=some { cls:= .none,data:= .fields ps }:=I.hok P _ hP
  have gl:=I.mod.glob.keeps I.bk
  have ch:=TB.code.keeps I.bk
  have clo:=closure_ok hfree
  cases hc:codeAmong pos ps.toList with
  | some cv=>
    obtain ⟨c',e,hco⟩:=ha pos cv hc
    subst e
    refine PySem.W.kla_makeFunctionHit (c:=c) (ps:=ps) clo I.ok.glob gl hcode ch oP ht hc bP fun ctv h' tk hx hsz=> ?_
    have J:=B2q (params:=params) (body:=body) (scope:=scope) (c':=c') (pm:=(X.mg "__name__").getD .none) (ctv:=ctv) (cl:=cloFrom X.env.cells scope.names []) (q:=X.env.qual++"<lambda>") (I.kept (t':=tk) hx)
    have nf:H h'.objs.size=none:=I.hok.fresh hsz
    have st:∀b o,H b=some o→upd H h'.objs.size (A0g h'.objs.size (X.env.qual++"<lambda>") params body scope (cloFrom X.env.cells scope.names []) c') b=some o:=fun b o e=> by
      rw [upd_ne (ne_of_none e nf)];exact e
    exact h _ c' _ _ J ⟨fun b o e _=> st b o e,⟨ps,st _ _ hP⟩,hT.ext st,nf,upd_same,st _ _ hco⟩
  | none=>
    refine PySem.W.kla_makeFunction (c:=c) (ps:=ps) clo I.ok.glob gl hcode ch oP ht hc TB.gP bP fun c' ctv h' tk hx hge hlt hrec htb=> ?_
    obtain ⟨c2,oc,vs,t,e2,hoc,hd,hv⟩:=hrec
    cases e2
    have nC:H c'=none:=I.hok.fresh hge
    have J0:=inv_table (t':=tk) (q:=X.env.qual++"<lambda>") (more:=#[rawInt pos.line,rawInt pos.col,.ref c']) I hP hx htb hge ⟨oc,vs,t,hoc,hd,hv⟩
    have J:=B2q (params:=params) (body:=body) (scope:=scope) (c':=c') (pm:=(X.mg "__name__").getD .none) (ctv:=ctv) (cl:=cloFrom X.env.cells scope.names []) (q:=X.env.qual++"<lambda>") J0
    have sz:s.heap.objs.size≤h'.objs.size:=Nat.le_trans hge (Nat.le_of_lt hlt)
    have nf:H h'.objs.size=none:=I.hok.fresh sz
    have fc:c'≠h'.objs.size:=Nat.ne_of_lt hlt
    have fP:P≠h'.objs.size:=Nat.ne_of_lt (Nat.lt_of_lt_of_le (Heap.lt_size oP) sz)
    have cP:P≠c':=ne_of_none hP nC
    have st:∀b o,H b=some o→b≠P→upd (upd (upd H P (.tbl (ps++#[rawInt pos.line,rawInt pos.col,.ref c']))) c' (CodeO c' (X.env.qual++"<lambda>"))) h'.objs.size (A0g h'.objs.size (X.env.qual++"<lambda>") params body scope (cloFrom X.env.cells scope.names []) c') b=some o:=fun b o e n=> by
      rw [upd_ne (ne_of_none e nf),upd_ne (ne_of_none e nC),upd_ne n];exact e
    have aC:upd (upd (upd H P (.tbl (ps++#[rawInt pos.line,rawInt pos.col,.ref c']))) c' (CodeO c' (X.env.qual++"<lambda>"))) h'.objs.size (A0g h'.objs.size (X.env.qual++"<lambda>") params body scope (cloFrom X.env.cells scope.names []) c') c'=some (CodeO c' (X.env.qual++"<lambda>")):=by
      rw [upd_ne fc,upd_same]
    have aP:upd (upd (upd H P (.tbl (ps++#[rawInt pos.line,rawInt pos.col,.ref c']))) c' (CodeO c' (X.env.qual++"<lambda>"))) h'.objs.size (A0g h'.objs.size (X.env.qual++"<lambda>") params body scope (cloFrom X.env.cells scope.names []) c') P=some (.tbl (ps++#[rawInt pos.line,rawInt pos.col,.ref c'])):=by
      rw [upd_ne fP,upd_ne cP,upd_same]
    refine h _ c' _ _ J ⟨st,⟨_,aP⟩,fun p hp=> ?_,nf,upd_same,aC⟩
    have eL:(ps++#[rawInt pos.line,rawInt pos.col,Value.ref c']).toList=ps.toList++[rawInt pos.line,rawInt pos.col,.ref c']:=by simp
    by_cases hb:p.1=P
    · refine ⟨_,by rw [hb];exact aP,by rw [eL];exact PySem.TriplesOk_snoc _ _ _ _ ht,fun p' cv z=> ?_⟩
      rw [eL] at z
      rw [hu p hp hb]
      rcases among_app _ ht z with z | z
      · obtain ⟨c0,e1,e2⟩:=ha p' cv z
        refine ⟨c0,e1,st _ _ e2 fun y=> ?_⟩
        rw [y,hP] at e2
        exact A2z _ (Option.some.inj e2).symm
      · exact ⟨c',z,aC⟩
    · obtain ⟨ps',a1,a2,a3⟩:=hT p hp
      refine ⟨ps',st _ _ a1 hb,a2,fun p' cv z=> ?_⟩
      obtain ⟨c0,e1,e2⟩:=a3 p' cv z
      refine ⟨c0,e1,st _ _ e2 fun y=> ?_⟩
      rw [y,hP] at e2
      exact A2z _ (Option.some.inj e2).symm
def C3F (X:Cx) (T:List (Addr×Str)) (P:Addr) (params:Arguments) (body:Expr) (scope:Scope):TE:=fun _ H Q=> Tabs T H∧∀f c' H1,Made X T P params body scope H H1 f c'→Q (.ref f) H1
theorem A83 (TB:TabB X.base X.mg c P) (hcode:X.env.code= .ref c) (hm:(P,X.env.qual++"<lambda>")∈T) (hu:∀p∈T,p.1=P→p.2=X.env.qual++"<lambda>") (hdef:defaultsOf params X.env=([],[]))
    (hfree:X.Ok→∀y∈scope.names,y.2= .free→∃c,X.env.cells.lookup y.1=some c):PE X (.Lambda params body scope pos) (C3F X T P params body scope):=
  ⟨fun pins s σ H Q I ⟨hT,h⟩=> C1N I TB hcode hm hu hT hdef (hfree I.ok) fun f c' H1 s' I1 M=> ⟨.ref f,H1,I1,rfl,h f c' H1 M⟩⟩
end
end Ab
namespace Ab
open PySem PySem.Spec PyProof.Rows L2 LamX
abbrev ALT:=A0→AH→(Addr→List W→A0→AH→Prop)→Prop
def C35 (t:ALT):Prop:=∀env h Q Q',(∀f ws e k,Q f ws e k→Q' f ws e k)→t env h Q→t env h Q'
def A2E (t:E5):ALT:=fun env h Q=> ∀f:Addr,t env h fun ws env1 h1=> Q f (.ref f::ws) env1 h1
structure LamD where
  params:Arguments
  body:Expr
  scope:Scope
def LamF (X:Cx) (d:LamD) (H:Hp) (f:Addr):Prop:=
  ∃c,H f=some (A0g f (X.env.qual++"<lambda>") d.params d.body d.scope (cloFrom X.env.cells d.scope.names []) c)∧H c=some (CodeO c (X.env.qual++"<lambda>"))
def cL (X:Cx) (G:Gx) (d:LamD) (t:ALT):TA:=fun σ H Q=> ∃env h,BS G env h σ H∧t env h fun f ws env' h'=> ∀vs H',BS G env' h' σ H'→Xt env h σ H env' h' H'→RepL G.K H' ws vs→LamF X d H' f→Q vs H'
structure AL (X:Cx) (G:Gx) (d:LamD) (es:List Expr) (n:Nat) (t:ALT):Prop where
  mono:C35 t
  pa:PA X es (cL X G d t)
  ln:∀env h (R:Addr→List W→A0→AH→Prop),t env h R→t env h fun f ws e g=> ws.length=n∧R f ws e g
theorem BS.nmu {G:Gx} {env:A0} {h:AH} {σ:L2.St} {H:Hp} (S:BS G env h σ H) {p:Addr} {o:HO} (e:H p=some o) (i:¬Mu o):h p=none∧¬OwnAt env σ p:=by
  refine ⟨?_,fun ⟨j,c,a,b⟩=> ?_⟩
  · cases q:h p with
    | none=> rfl
    | some u=>
      obtain ⟨o',e',m⟩:=(S.hp p u q).there
      rw [e] at e';cases e'
      exact absurd m i
  · obtain ⟨p',b',cr,_⟩:=S.own j c a
    rw [b] at b';cases b'
    exact i (cr.mu_at e)
theorem BS.but {G:Gx} {env:A0} {h:AH} {σ:L2.St} {H H1:Hp} (S:BS G env h σ H) (b:∀p o,H p=some o→NT o→H1 p=some o) (th:∀p o,H p=some o→∃u,H1 p=some u) (t:TabsK G.K H1):
    BS G env h σ H1∧Xt env h σ H env h H1:=by
  have k:Keeps H H1:=fun p o e i=> b p o e i.nt
  refine ⟨⟨S.len,fun i w e=> ?_,fun i c e=> ?_,S.uni,fun a o e=> ?_,fun p o e n y=> b p o (S.fr p o e n y) y,S.ext,fun p o e=> ?_,t⟩,⟨fun p o e _ _ y=> b p o e y,fun p o e n=> (by rw [n] at e;cases e),th,fun i c e=> ⟨c,e⟩⟩⟩
  · obtain ⟨v,x,y⟩:=S.val i w e
    exact ⟨v,x,Rep.mono k w v y⟩
  · obtain ⟨p,x,y,n,n0⟩:=S.own i c e
    obtain ⟨o,eo,m⟩:=y.there
    exact ⟨p,x,y.mono k ((b p o eo m.nt).trans eo.symm),n,n0⟩
  · obtain ⟨u,eu,m⟩:=(S.hp a o e).there
    exact (S.hp a o e).mono k ((b a u eu m.nt).trans eu.symm)
  · obtain ⟨u,y⟩:=S.tr p o e
    exact th p u y
section
variable {X:Cx} {G:Gx} {d:LamD} {e:Expr} {es:List Expr} {c P:Addr} {pos:Pos} {n:Nat}
theorem A56 {f c:Addr} {q:Str} {params:Arguments} {body:Expr} {scope:Scope} {cl:List (Str×Addr)}:¬Mu (A0g f q params body scope cl c):=fun z=> z
theorem A8L {c:Addr} {q:Str}:¬Mu (CodeO c q):=fun z=> z
theorem LamF.xt {env env':A0} {h h':AH} {σ:L2.St} {H H':Hp} {f:Addr} (S:BS G env h σ H) (x:Xt env h σ H env' h' H') (l:LamF X d H f):LamF X d H' f:=by
  obtain ⟨c,a,b⟩:=l
  obtain ⟨a1,a2⟩:=S.nmu a A56
  obtain ⟨b1,b2⟩:=S.nmu b A8L
  exact ⟨c,x.fr _ _ a a1 a2 A25,x.fr _ _ b b1 b2 A2z⟩
structure LamAt (X:Cx) (d:LamD) (c P:Addr):Prop where
  TB:TabB X.base X.mg c P
  code:X.env.code= .ref c
  mem:(P,X.env.qual++"<lambda>")∈A1Z X.K
  uni:∀p∈A1Z X.K,p.1=P→p.2=X.env.qual++"<lambda>"
  dfl:defaultsOf d.params X.env=([],[])
  free:X.Ok→∀y∈d.scope.names,y.2= .free→∃c,X.env.cells.lookup y.1=some c
theorem C1L {t:E5} (gk:G.K=X.K) (L:LamAt X d c P) (b:AN X G es n t) (hs:starEach (.Lambda d.params d.body d.scope pos::es) X.env=(false,eval (.Lambda d.params d.body d.scope pos) X.env)::starEach es X.env:=by rfl):
    AL X G d (.Lambda d.params d.body d.scope pos::es) (n+1) (A2E t):=by
  refine ⟨fun env h Q Q' k q f=> b.aa.mono env h _ _ (fun ws e g z=> k _ _ _ _ z) (q f),PA.imp (pa_cons (A83 (T:=A1Z X.K) L.TB L.code L.mem L.uni L.dfl L.free) b.aa.pa hs) fun σ H Q ⟨env,h,S,q⟩=> ?_,fun env h R q f=> b.aa.mono env h _ _ (fun ws e g ⟨l,z⟩=> ⟨by rw [List.length_cons,l],z⟩) (b.ln env h _ (q f))⟩
  have tb:TabsK X.K H:=gk▸S.tabs
  obtain ⟨ps,hP,_⟩:=tb _ L.mem
  refine ⟨tb,fun f c' H1 M=> ?_⟩
  have bt:∀p o,H p=some o→NT o→H1 p=some o:=fun p o e y=> M.but p o e fun z=> by
    rw [z,hP] at e
    exact y ps (Option.some.inj e).symm
  have th:∀p o,H p=some o→∃u,H1 p=some u:=fun p o e=> by
    by_cases z:p=P
    · obtain ⟨ps',y⟩:=M.tab
      exact ⟨_,z▸y⟩
    · exact ⟨o,M.but p o e z⟩
  have tb1:TabsK G.K H1:=gk▸M.tabs
  obtain ⟨S1,x1⟩:=S.but bt th tb1
  refine ⟨env,h,S1,b.aa.mono env h _ _ (fun ws env2 h2 z vs H2 S2 x2 r2=> ?_) (q f)⟩
  exact z (.ref f::vs) H2 S2 (x1.trans x2) (.cons .ref r2) (LamF.xt S1 x2 ⟨c',M.lam,M.code⟩)
end
structure LamP (sc scope:Scope) (N ps:List Str):Prop where
  kind:scope.kind= .function
  co:scope.isCoroutine=false
  gen:scope.isGenerator=false
  own:∀y∈scope.names,y.2≠ .cell∧(y.2= .local→y.1∈ps)
  par:∀x∈ps,scope.names.lookup x=some .local∧x∉N
  nd:ps.Nodup
  free:∀y∈scope.names,y.2= .free→sc.names.lookup y.1=some .cell∨sc.names.lookup y.1=some .free
theorem LamP.has {X:Cx} {scope:Scope} {N ps:List Str} (L:LamP X.env.scope scope N ps) (ok:X.Ok):∀y∈scope.names,y.2= .free→∃c,X.env.cells.lookup y.1=some c:=fun y hy e=>
  (L.free y hy e).elim (fun k=> ok.has _ (.inl k)) fun k=> ok.has _ (.inr k)
abbrev Z0 (X:Cx) (A:Around) (outer:List Env) (s:Shared) (H:Hp) (E:XK) (scope:Scope) (f c:Addr) (ps:List Str):Cx:={ lamCx X A outer s H E scope f c with N:=X.N++ps }
theorem B22 {us:List Value}:∀{ps:List Str} {us:List Value} {j:Nat} {x:Str} {u:Value},ps.Nodup→ps[j]? =some x→us[j]? =some u→(ps.zip us).reverse.lookup x=some u
  | [],_,_,_,_,_,e,_=> by simp at e
  | p::ps,[],_,_,_,_,_,e=> by simp at e
  | p::ps,v::us,0,x,u,nd,e1,e2=> by
    simp at e1 e2
    subst e1 e2
    have z:(ps.zip us).reverse.lookup p=none:=by
      rw [List.lookup_eq_none_iff]
      intro y hy
      have m:=List.of_mem_zip (List.mem_reverse.mp hy)
      rw [bne_iff_ne]
      intro e
      exact (List.nodup_cons.mp nd).1 (e▸m.1)
    rw [List.zip_cons_cons,List.reverse_cons,List.lookup_append,z]
    simp
  | p::ps,v::us,j+1,x,u,nd,e1,e2=> by
    rw [List.zip_cons_cons,List.reverse_cons,List.lookup_append,B22 (us:=us) (List.nodup_cons.mp nd).2 (by simpa using e1) (by simpa using e2)]
    rfl
end Ab
namespace Ab
open PySem PySem.Spec PyProof.Rows L2 LamX
section
variable {X:Cx} {pins:List (Addr×Obj)} {σ:L2.St} {H HZ:Hp} {s s1:Shared}
theorem l7 {scope:Scope} {N ps:List Str} (L:LamP X.env.scope scope N ps) (ok:X.Ok) {y:Str} {c:Addr} (e:(cloFrom X.env.cells scope.names []).lookup y=some c):X.env.cells.lookup y=some c:=by
  rcases cloFrom_mem (PySem.mem_of_lookup e) with m | ⟨a,b⟩
  · cases m
  · obtain ⟨c1,k⟩:=L.has ok _ a rfl
    have k:X.env.cells.lookup y=some c1:=k
    have z:c=c1:=by rw [b,k] <;> rfl
    rw [z];exact k
theorem A6I {scope:Scope} {y:Str} (h:scope.names.lookup y=some .free):∃c,(cloFrom X.env.cells scope.names []).lookup y=some c:=by
  have m:(y,NameKind.free)∈scope.names:=PySem.mem_of_lookup h
  exact mem_lookup (cloFrom_has (cells:=X.env.cells) (acc:=[]) m)
theorem B82 {A:Around} {outer:List Env} {E:XK} {scope:Scope} {f c:Addr} {ps:List Str} {g:Heap} {tk:Nat} {us:List Value} {vs:List V} (I:Inv X pins σ H s) (L:LamP X.env.scope scope X.N ps) (e0:Env0 X.prog X.w X.K X.mg X.base A outer s1 HZ) (hd:A.handled=none)
    (un:Un (frs X.stack) [] H HZ s.heap s1.heap) (hns:g.Ns s1.heap.objs.size fun y=> (ps.zip us).reverse.lookup y) (kp:∀b o,s1.heap.get? b=some o→g.get? b=some o) (rv:Vals vs us) (hl:vs.length=ps.length):
    Inv (Z0 X A outer s1 HZ E scope f c ps) [] (σ++vs.map some) HZ { s1 with heap:=g,toks:=tk }:=by
  have cellK:∀{b:Addr} {v:Option Value},H b=none→s.heap.IsCell b v→g.IsCell b v:=fun {b v} n ⟨o,ho,hd⟩=> by
    obtain ⟨sl,q⟩:=un.any ho n (by simp)
    exact ⟨_,kp _ _ q,hd⟩
  have noA:∀b:Addr,b∉(Z0 X A outer s1 HZ E scope f c ps).ex:=fun b z=> by
    have z:b∈([]:List Addr):=z
    cases z
  have okX:(Z0 X A outer s1 HZ E scope f c ps).Ok:=
    { mod:=e0.mod,kind:=L.kind,glob:=rfl,blt:=rfl,above:=Nat.le_refl _
      inj:=fun y z b e1 e2=> I.ok.inj y z b (l7 L I.ok e1) (l7 L I.ok e2)
      has:=fun y hy=> by
        have hy:scope.names.lookup y=some .cell∨scope.names.lookup y=some .free:=hy
        rcases hy with hy | hy
        · exact absurd rfl (L.own _ (PySem.mem_of_lookup hy)).1
        · exact A6I hy
      cab:=fun y b z _=> by
        have z:false=true:=z
        cases z
      hd:=fun _=> hd,frames:=Around.frames_deeper e0.frames,stk:= .inr ⟨rfl,rfl⟩,exf:=fun b z=> absurd z (noA b),bs:=e0.bs,bsz:=e0.bsz,noex:=fun b _ _=> noA b,exfs:=fun b z=> absurd z (noA b),funs:=e0.funs,frf:=e0.frf }
  refine { ok:=okX,os:=rfl,bare:=e0.bare,base:=Un.kept kp,loc:=⟨_,hns,fun i y v e1 e2 e3=> ?_⟩,cell:=fun y b e=> ?_,free:=e0.hok.fresh (Nat.le_refl _),freeC:=fun y b e=> ?_,pin:=fun q hq=> ?_,hok:=e0.hok.kept kp,len:= ?_ }
  · have e1:(X.N++ps)[i]? =some y:=e1
    have e3:Vis scope y:=e3
    have own:scope.names.lookup y=some .local→y∈ps:=fun k=> (L.own _ (PySem.mem_of_lookup k)).2 rfl
    by_cases hi:i < X.N.length
    · rw [List.getElem?_append_left hi] at e1
      rw [List.getElem?_append_left (by rw [I.len];exact hi)] at e2
      have nP:y∉ps:=fun z=> (L.par y z).2 (List.mem_of_getElem? e1)
      rcases e3 with k | k | k
      · exact absurd (own k) nP
      · exact absurd rfl (L.own _ (PySem.mem_of_lookup k)).1
      · obtain ⟨m,hn,lk⟩:=I.loc
        have vis:Vis X.env.scope y:=(L.free _ (PySem.mem_of_lookup k) rfl).elim (fun k=> .inr (.inl k)) fun k=> .inr (.inr k)
        obtain ⟨w,r,q⟩:=lk i y v e1 e2 vis
        obtain ⟨c2,h2⟩:=A6I (X:=X) k
        have c1:=l7 L I.ok h2
        refine ⟨w,r,.inr ⟨.inr k,c2,h2,?_⟩⟩
        rcases q with ⟨k',_⟩ | ⟨_,c3,e',z⟩
        · have k':X.env.scope.names.lookup y=some .local:=k'
          rcases L.free _ (PySem.mem_of_lookup k) rfl with k2 | k2
          · rw [show X.env.scope.names.lookup y=_ from k2] at k';cases k'
          · rw [show X.env.scope.names.lookup y=_ from k2] at k';cases k'
        · rw [c1] at e'
          cases e'
          exact cellK (I.freeC y _ c1) z
    · rw [List.getElem?_append_right (by omega)] at e1
      rw [List.getElem?_append_right (by rw [I.len];omega),I.len,List.getElem?_map] at e2
      cases q:vs[i - X.N.length]? with
      | none=> rw [q] at e2;cases e2
      | some v0=>
        rw [q] at e2
        cases e2
        obtain ⟨u,hu,ru⟩:=rv.get q
        exact ⟨u,ru,.inl ⟨(L.par y (List.mem_of_getElem? e1)).1,B22 (us:=us) L.nd e1 hu⟩⟩
  · obtain ⟨w,z⟩:=I.cell y b (l7 L I.ok e)
    exact ⟨w,cellK (I.freeC y b (l7 L I.ok e)) z⟩
  · obtain ⟨v,o,ho,hd⟩:=I.cell y b (l7 L I.ok e)
    exact un.free b o ho (I.freeC y b (l7 L I.ok e)) (by simp)
  · have hq:q∈([]:List (Addr×Obj))++[]:=hq
    cases hq
  · show (σ++vs.map some).length=(X.N++ps).length
    rw [List.length_append,List.length_append,List.length_map,I.len,hl]
end
structure LamHas (Z:Cx) (G:Gx) (f:Addr) (n:Nat) (sp:B8):Prop where
  m:L6 sp
  fn:∀(s:Shared) (H:Hp),(∀p o,G.H0 p=some o→G.h0 p=none→NT o→H p=some o)→HOk Z.prog Z.w H s.heap→PySem.W.FnAt f s.heap
  run:∀(s:Shared) (H:Hp) (us:List Value) (vs:List V) (Q:VK) (E:XK),(∀p o,G.H0 p=some o→G.h0 p=none→NT o→H p=some o)→Un Z.fs [] Z.H_0 H Z.s_0.heap s.heap→Env0 Z.prog Z.w Z.K Z.mg Z.base Z.A Z.stack s H→Vals vs us→R9 Z.K n sp vs H Q E→
    codeAny (model Z.prog Z.w) Z.A (.call (.ref f) ⟨us,[]⟩) (CR (L2.CX Z.prog Z.w) Z.stack Z.prog Z.w H s Q E) s
def A1X (env:A0) (ws:List W):A0:=env.map (fun o=> match o with
  | some (.val w)=> some (.val w)
  | _=> none)++ws.map fun w=> some (.val w)
theorem A8G {env:A0} {ws:List W} {i:Nat} {sv:SV} (e:(A1X env ws)[i]? =some (some sv)):(∃w,sv= .val w∧env[i]? =some (some (.val w))∧i < env.length)∨∃w,sv= .val w∧env.length≤i∧ws[i - env.length]? =some w:=by
  unfold A1X at e
  by_cases hi:i < env.length
  · rw [List.getElem?_append_left (by simpa using hi),List.getElem?_map] at e
    cases q:env[i]? with
    | none=> rw [q] at e;cases e
    | some o=>
      rw [q] at e
      cases o with
      | none=> cases e
      | some sv'=>
        cases sv' with
        | val w=> cases e;exact .inl ⟨w,rfl,rfl,hi⟩
        | own c=> cases e
  · rw [List.getElem?_append_right (by simpa using hi),List.length_map,List.getElem?_map] at e
    cases q:ws[i - env.length]? with
    | none=> rw [q] at e;cases e
    | some w=> rw [q] at e;cases e;exact .inr ⟨w,rfl,by omega,rfl⟩
theorem BS.lam {K:PySem.W.Frag} {G:Gx} {env:A0} {h0 h:AH} {σ:L2.St} {H0 H:Hp} {ws:List W} {vs:List V} (gk:G.K=K) (S:BS G env h0 σ H0) (k:Keeps H0 H) (hp:∀a o,h a=some o→ORep K H a o) (tb:TabsK K H) (r:RepL K H ws vs):
    BS ⟨K,h,H⟩ (A1X env ws) h (σ++vs.map some) H:=by
  subst gk
  refine ⟨?_,fun i w e=> ?_,fun i c e=> ?_,fun i j c c' p e=> ?_,hp,fun p o e _ _=> e,fun a o e n=> (by have n:h a=none:=n;rw [n] at e;cases e),fun p o e=> ⟨o,e⟩,tb⟩
  · unfold A1X
    rw [List.length_append,List.length_map,List.length_map,List.length_append,List.length_map,S.len,r.length]
  · rcases A8G e with ⟨w',z,y,hi⟩ | ⟨w',z,hi,y⟩
    · cases z
      obtain ⟨v,ev,rv⟩:=S.val i w y
      exact ⟨v,by rw [List.getElem?_append_left (by rw [←S.len];exact hi)];exact ev,Rep.mono k w v rv⟩
    · cases z
      obtain ⟨v,ev,rv⟩:=r.get y
      refine ⟨v,?_,rv⟩
      rw [List.getElem?_append_right (by rw [←S.len];exact hi),←S.len,List.getElem?_map,ev]
      rfl
  · rcases A8G e with ⟨w',z,_⟩ | ⟨w',z,_⟩ <;> cases z
  · rcases A8G e with ⟨w',z,_⟩ | ⟨w',z,_⟩ <;> cases z
def u7 (t:(AExc→A0→AH→Prop)→AT) (env:A0):B8:=fun ws h Qa Ea=> ∃Ein:AExc→A0→AH→Prop,(∀x e k,Ein x e k→C7 Ea x e k)∧t Ein (A1X env ws) h (C2 Qa).rt
section
variable {X:Cx} {G:Gx} {env:A0} {h:AH} {σ:L2.St} {H:Hp} {s:Shared} {pins:List (Addr×Obj)} {d:LamD} {f g c:Addr} {cdg:Value} {Ng:List Str} {qg:Str} {sg:Scope} {ps:List Str} {k:Nat} {t:(AExc→A0→AH→Prop)→AT} {Eg:XK}
theorem C0t (gk:G.K=X.K) (I:Inv X pins σ H s) (S:BS G env h σ H) (lf:LamF X d H f) (L:LamP X.env.scope d.scope X.N ps)
    (hbind:∀(q:Str) (cl:List (Str×Addr)) (pm cv ctv:Value) (us:List Value),us.length=ps.length→bindArgs (PySem.W.kla_fn "<lambda>" q d.params d.body d.scope cl pm cv ctv) ⟨us,[]⟩=pure (ps.zip us))
    (hr:Room (k+1) (X.A.deeper (envOfC qg sg s.heap.objs.size g cdg)))
    (hbody:∀(A:Around) (outer:List Env) (s:Shared) (H:Hp) (E:XK) (f c:Addr) (G:Gx) (E':AExc→A0→AH→Prop),Room k (A.deeper (lamEnv X d.scope s.heap.objs.size f c))→G.K=X.K→Takes (Z0 X A outer s H E d.scope f c ps) (cW G E')→AE (Z0 X A outer s H E d.scope f c ps) G d.body (t E')):
    LamHas (bx X.prog X.w X.K X.mg X.base Ng qg sg g cdg X.A X.stack s H Eg) ⟨X.K,h,H⟩ f ps.length (u7 t env):=by
  obtain ⟨c,hf,hc⟩:=lf
  have mt:∀E',A9 (t E'):=fun E'=> (hbody (X.A.deeper (envOfC qg sg s.heap.objs.size g cdg)) [] s H (fun _ _ _=> True) f c ⟨X.K,h,H⟩ E' (hr.deeper _) rfl (Takes.imp (W:=fun _ _ _ _=> True) (takes_of rfl rfl rfl rfl) fun _ _ _ _ _=> trivial)).mono
  have nf:=(S.nmu hf A56).1
  have nc:=(S.nmu hc A8L).1
  refine ⟨fun ws h' Q Q' E E' k k' ⟨Ein,ke,q⟩=> ⟨Ein,fun x e g z=> (by obtain ⟨g',le,z⟩:=ke x e g z;exact ⟨g',le,k' _ _ z⟩),?_⟩,fun s2 H2 fr hok=> ?_,fun s2 H2 us vs Q E fr un e0 rv sp=> ?_⟩
  · refine mt _ _ _ _ _ (fun r e g z=> ?_) q
    obtain ⟨h2,le,z⟩:=z
    refine ⟨h2,le,?_⟩
    cases r with
    | val w=> exact k _ _ z
    | own c=> exact k _ _ z
    | slot i=>
      have z:match e[i]? with
        | some (some (.val w))=> Q (.val w) h2
        | some (some (.own c))=> Q (.own c) h2
        | _=> False:=z
      show match e[i]? with
        | some (some (.val w))=> Q' (.val w) h2
        | some (some (.own c))=> Q' (.own c) h2
        | _=> False
      split at z
      · exact k _ _ z
      · exact k _ _ z
      · exact z
  · have hf2:=fr _ _ hf nf A25
    obtain ⟨⟨pm,ctv,e⟩,_,_⟩:=hok f _ hf2
    exact ⟨_,_,_,_,e⟩
  · have hf2:=fr _ _ hf nf A25
    have hc2:=fr _ _ hc nc A2z
    obtain ⟨⟨pm,ctv,of⟩,_,_⟩:=e0.hok f _ hf2
    obtain ⟨⟨oc,fs,tk,hoc,hdc,hvc⟩,_,_⟩:=e0.hok c _ hc2
    obtain ⟨ws,h2,Qa,Ea,wl,hp,tb,rl,⟨Ein,kx,q⟩,kq,ke⟩:=sp
    have un:Un (frs X.stack) [] H H2 s.heap s2.heap:=un
    have hl:vs.length=ps.length:=by rw [←rl.length,wl]
    have hu:us.length=ps.length:=by rw [←rv.length];exact hl
    show codeAny (model X.prog X.w) (X.A.deeper (envOfC qg sg s.heap.objs.size g cdg)) _ _ s2
    refine PySem.W.kla_callFunE hr.depth of rfl L.co L.gen rfl ⟨c,oc,fs,tk,rfl,hoc,hdc,hvc⟩ ?_
    rw [hbind _ _ _ _ _ us hu]
    refine wpAny_pure (wpAny_newFunctionEnv (fun y hy=> (L.own y hy).1) (fun y hy=> (L.par y.1 (List.of_mem_zip hy).1).1) (fun h₁ hns hsb=> ⟨?_,?_⟩) L.kind)
    · have nl:s2.heap.NoLimit:=e0.mod.nolimit.keeps fun b o e=> (e0.bs b o e).1
      exact nl.fresh _ hsb
    · show codeAny _ _ (.expr d.body (lamEnv X d.scope s2.heap.objs.size f c)) _ _
      have kp:∀b o,s2.heap.get? b=some o→h₁.get? b=some o:=fun b o e=> hsb.extBut b o (Nat.ne_of_lt (Heap.lt_size e)) (Heap.get?_push_of_some _ e)
      have J:=B82 (A:=X.A.deeper (envOfC qg sg s.heap.objs.size g cdg)) (outer:=envOfC qg sg s.heap.objs.size g cdg::X.stack) (E:=E) (f:=f) (c:=c) (tk:=s2.toks+(ps.zip us).length) I L e0 hr.hd un hns kp rv hl
      have kk:Keeps H H2:=fun p o e i=> fr p o e (S.imm e i).1 i.nt
      have S2:BS ⟨X.K,h2,H2⟩ (A1X env ws) h2 (σ++vs.map some) H2:=BS.lam gk S kk hp tb rl
      have tkl:Takes (Z0 X (X.A.deeper (envOfC qg sg s.heap.objs.size g cdg)) (envOfC qg sg s.heap.objs.size g cdg::X.stack) s2 H2 E d.scope f c ps) (cW ⟨X.K,h2,H2⟩ Ein):=
        Takes.imp (W:=fun cls d _ H'=> E cls d H') (takes_of rfl rfl rfl rfl) fun cls d σ' H' ⟨x,e',g',SB,xr,z⟩=> (by obtain ⟨g2,le,z⟩:=kx x e' g' z;exact ke x g2 cls d H' z (SB.hs.le le) xr)
      have rn:=(hbody _ _ s2 H2 E f c ⟨X.K,h2,H2⟩ Ein (hr.deeper _) rfl tkl).pe.run [] _ _ H2 Q J ⟨_,h2,S2,mt _ _ _ _ _ (fun r env3 h3 z v H3 S3 x3 r3 f3=> ?_) q⟩
      · refine PySem.W.kla_codeExpr (wpAny_mono rn (fun v s' hq=> ?_) fun e s' hq=> hq)
        obtain ⟨w',H',J',rv',q'⟩:=hq
        exact ⟨w',H',J'.os,J'.bare,J'.base,J'.hok,rv',q'⟩
      · obtain ⟨h4,le,z⟩:=z
        have hs:HS ⟨X.K,h2,H2⟩ h4 H3:=S3.hs.le le
        have own_end:∀{p:Addr} {c:Cont},v= .ref p→CRep X.K H3 p c→h3 p=none→H2 p=none→A0U ⟨X.K,h2,H2⟩ h4 H3 (.own c) v:=fun {p c} e1 e2 e3 e4=> by
          have e5:h4 p=none:=by
            cases z:h4 p with
            | none=> rfl
            | some u=> rw [le p u z] at e3;cases e3
          exact ⟨p,e1,e2,e5,e4⟩
        cases r with
        | val w=> exact kq (.val w) h4 v H3 z hs r3
        | own c=>
          obtain ⟨p,e1,cr,a,b,_⟩:=r3
          exact kq (.own c) h4 v H3 z hs (own_end e1 cr a b)
        | slot i=>
          have es:(σ++vs.map some)[i]? =some (some v):=r3
          have z:match env3[i]? with
            | some (some (.val w))=> Qa (.val w) h4
            | some (some (.own c))=> Qa (.own c) h4
            | _=> False:=z
          split at z
          · rename_i w ei
            obtain ⟨u,e3,rv⟩:=S3.val i w ei
            rw [es] at e3;cases e3
            exact kq (.val w) h4 v H3 z hs rv
          · rename_i c ei
            obtain ⟨p,e3,cr,a,b⟩:=S3.own i c ei
            rw [es] at e3;cases e3
            exact kq (.own c) h4 _ H3 z hs (own_end rfl cr a b)
          · exact z.elim
end
end Ab
namespace Ab
open PySem PySem.Spec PyProof.Rows L2 LamX
def A7i (E:AExc→A0→AH→Prop) (i:Nat) (f:Addr) (sp:B8) (t:E5):AT:=fun env h Q=> env[i]? =some (some (.val (.ref f)))∧aCall E sp t env h Q
section
variable {X:Cx} {G:Gx} {sp:B8} {n i:Nat} {f:Addr} {a:Str} {p pos:Pos} {e:Expr} {es:List Expr} {t:E5} {E:AExc→A0→AH→Prop}
theorem B3U (hL:LamHas X G f 0 sp) (gk:G.K=X.K) (hex:X.ex=[]) (hN:X.N[i]? =some a) (hv:Vis X.env.scope a) (tk:Takes X (cW G E))
    (hd:(a==("__debug__":Str))=false:=by decide) (hcd:(a==("__classdict__":Str))=false:=by decide):
    AE X G (.Call (.Name a p) [] [] pos) (A7i E i f sp aNil):=by
  refine ⟨fun env h Q Q' k ⟨e,q⟩=> ⟨e,aCall.mono hL.m aNil.mono env h _ _ k q⟩,⟨fun pins s σ H Q I ⟨env,h,S,hs,q⟩=> ?_⟩⟩
  obtain ⟨v,ev,rv⟩:=S.val i _ hs
  have rv:=Rep.of_ref (K:=G.K) (H:=H) rv
  subst rv
  refine wpAny_Call_Name_kw (thn ((pe_var (pos:=p) hN hv hd hcd).run pins s σ H (fun v H1=> v= .ref f∧H1=H) I ⟨.ref f,ev,rfl,rfl⟩) fun u s1 ⟨v,H1,I1,r1,q1⟩=> ?_)
  obtain ⟨e1,e2⟩:=q1
  subst e1
  rw [e2] at I1
  obtain rfl:u=Value.ref f:=r1
  have fr1:=hL.fn s1 H (fun p o x y z=> S.fr p o x y z) I1.hok
  have arg:cA G aNil σ H (fun vs H1=> (∃env1 h1,BS G env1 h1 σ H1)∧R9 G.K 0 sp vs H1 Q (WE (cW G E) σ)):=by
    refine ⟨env,h,S,aNil.mono env h _ _ (fun ws env1 h1 ⟨hl,z⟩ vs H1 S1 x1 r1=> ⟨⟨env1,h1,S1⟩,ws,h1,_,_,hl,S1.hp,S1.tabs,r1,z,fun r h' v H' y c rr=> ?_,fun x h' cls d H' y c xr=> (by obtain ⟨S2,x2⟩:=S1.after c;exact ⟨x,env1,h',S2,xr,y⟩)⟩) (B3y _ _ _ q)⟩
    obtain ⟨S2,x2⟩:=S1.after c
    cases r with
    | val w=> exact y v H' S2 (x1.trans x2) rr trivial
    | own c0=>
      obtain ⟨p,e,cr,a,b⟩:=rr
      have nw:H1 p=none:=b
      obtain ⟨_,g0,no⟩:=S1.noAt nw
      exact y v H' S2 (x1.trans x2) ⟨p,e,cr,a,g0,no⟩ fun p' e'=> by
        rw [e] at e';cases e';exact x1.fresh nw
  refine PySem.W.callWith_F0 fr1 ?_
  have arg:=arg
  obtain ⟨env',h',S',arg⟩:=arg
  obtain ⟨⟨env2,h2,S2⟩,c2⟩:=arg [] H S' .refl .nil
  have I2:=I1
  have r:Vals ([]:List V) ([]:List Value):= .nil
  · have fr2:∀p o,G.H0 p=some o→G.h0 p=none→NT o→H p=some o:=fun p o x y z=> S2.fr p o x y z
    have un:Un X.fs [] X.H_0 H X.s_0.heap s1.heap:=hex▸I2.base
    refine wpAny_call (codeAny_mono (hL.run s1 H [] [] Q (WE (cW G E) σ) fr2 un I2.env0 r (gk▸c2)) fun r s' hq=> ?_)
    cases r with
    | error e=> exact passAt tk σ pins H s1 e s' I2 hq
    | ok fl=>
      cases fl with
      | ret u=> exact I2.after hq
      | next=> exact False.elim hq
      | brk=> exact False.elim hq
      | cont=> exact False.elim hq
end
def A2G (E:AExc→A0→AH→Prop) (n m:Nat) (tc:Addr→B8→(AExc→A0→AH→Prop)→C0) (tb:(AExc→A0→AH→Prop)→AT) (t:ALT):AT:=fun env h Q=> t env h fun f ws env1 h1=> ∃Qa Ea,
  (∀r h2,Qa r h2→match r with
    | RR.val w=> Q (.val w) env1 h2
    | RR.own c=> Q (.own c) env1 h2)∧(∀x h2,Ea x h2→E x env1 h2)∧(ws.length=n→tc f (u7 tb env1) (C7 Ea) (C2 Qa) (F8 m ws) h1)
section
variable {X:Cx} {G:Gx} {d:LamD} {n kg kl:Nat} {g:Addr} {fd:FuncData} {x:Str} {st:Stmt} {Ng psg ps:List Str} {p pos:Pos} {e:Expr} {es:List Expr} {t:ALT} {tb:(AExc→A0→AH→Prop)→AT} {tc:Addr→B8→(AExc→A0→AH→Prop)→C0} {E:AExc→A0→AH→Prop}
theorem A50 (gk:G.K=X.K) (FD:FunD X.K x x (defArgs st) (defBody st) (defScope st) [] [] g fd) (hm:X.mg x=some (.ref g)) (bd:T2 x st psg) (Sg:FnScope Ng psg (defScope st)) (hn:psg.length=n) (hg:Gl X x) (tk:Takes X (cW G E)) (hr:Room (kg+1) X.A)
    (al:AL X G d (e::es) n t) (L:LamP X.env.scope d.scope X.N ps) (hk:kl+1≤kg)
    (hbind:∀(q:Str) (cl:List (Str×Addr)) (pm cv ctv:Value) (us:List Value),us.length=ps.length→bindArgs (PySem.W.kla_fn "<lambda>" q d.params d.body d.scope cl pm cv ctv) ⟨us,[]⟩=pure (ps.zip us))
    (hbody:∀(A:Around) (outer:List Env) (s:Shared) (H:Hp) (E:XK) (f c:Addr) (G:Gx) (E':AExc→A0→AH→Prop),Room kl (A.deeper (lamEnv X d.scope s.heap.objs.size f c))→G.K=X.K→Takes (Z0 X A outer s H E d.scope f c ps) (cW G E')→AE (Z0 X A outer s H E d.scope f c ps) G d.body (tb E'))
    (hb:∀(cdv:Value) (s:Shared) (H:Hp) (EX:XK) (G':Gx) (E':AExc→A0→AH→Prop) (f:Addr) (sp:B8),Room kg (X.A.deeper (envOfC x (defScope st) s.heap.objs.size g cdv))→G'.K=X.K→
      Takes (bx X.prog X.w X.K X.mg X.base Ng x (defScope st) g cdv X.A X.stack s H EX) (cW G' E')→LamHas (bx X.prog X.w X.K X.mg X.base Ng x (defScope st) g cdv X.A X.stack s H EX) G' f ps.length sp→
      ASs (bx X.prog X.w X.K X.mg X.base Ng x (defScope st) g cdv X.A X.stack s H EX) G' (defBody st) (tc f sp E'))
    (hdb:(x==("__debug__":Str))=false:=by decide) (he:starEach (e::es) X.env=(false,eval e X.env)::starEach es X.env:=by rfl) (hpl:(backTo pos (starEach es X.env)).any (·.1)=false:=by rfl):
    AE X G (.Call (.Name x p) (e::es) [] pos) (A2G E n Ng.length tc tb t):=by
  refine ⟨fun env h Q Q' k q=> al.mono env h _ _ (fun f ws e g ⟨Qa,Ea,a,b,z⟩=> ⟨Qa,Ea,fun r h2 y=> by
    have y:=a r h2 y
    cases r with
    | val w=> exact k _ _ _ y
    | own c=> exact k _ _ _ y,b,z⟩) q,⟨fun pins s σ H Q I ⟨env,h,S,q⟩=> ?_⟩⟩
  · refine wpAny_Call_Name_kw (ld_glob I hg hm ?_ hdb)
    refine PySem.W.callWith_K (h₀:=X.base) I.ok.mod.kin FD.kp (thn (al.pa.run pos pins s σ H (fun vs H1=> ∃f ws env1 h1,BS G env1 h1 σ H1∧Xt env h σ H env1 h1 H1∧RepL G.K H1 ws vs∧LamF X d H1 f∧ws.length=n∧∃(Qa:RR→AH→Prop) (Ea:AExc→AH→Prop),
        (∀r h2,Qa r h2→match r with
          | .val w=> ∀v H',BS G env1 h2 σ H'→Xt env h σ H env1 h2 H'→RvRep G env1 h2 σ H' (.val w) v→Q9 H (.val w) v→Q v H'
          | .own c=> ∀v H',BS G env1 h2 σ H'→Xt env h σ H env1 h2 H'→RvRep G env1 h2 σ H' (.own c) v→Q9 H (.own c) v→Q v H')∧(∀x h2,Ea x h2→E x env1 h2)∧tc f (u7 tb env1) (C7 Ea) (C2 Qa) (F8 Ng.length ws) h1)
      I ⟨env,h,S,al.mono env h _ _ (fun f ws env1 h1 ⟨wl,Qa,Ea,qa,ea,z⟩ vs H1 S1 x1 r1 lf=> ⟨f,ws,env1,h1,S1,x1,r1,lf,wl,Qa,Ea,fun r h2 y=> by cases r <;> exact qa _ _ y,ea,z wl⟩) (al.ln _ _ _ q)⟩)
      fun us s1 ⟨vs,H1,I1,r,f,ws,env1,h1,S1,x1,r1,lf,wl,Qa,Ea,qa,ea,z⟩=> ⟨I1.kIn,?_⟩) he hpl
    have hlv:vs.length=psg.length:=by rw [←r1.length,wl,hn]
    have hlu:us.length=psg.length:=by rw [←r.length];exact hlv
    have b:=FD.bindsA (ps:=psg) bd s1 us hlu
    obtain ⟨oc,od,dV,kV,doc,pm,an,cdv,ct,osl,rfl,lk,hcd,_,_⟩:=FD.ex
    have hwN:ws.length≤Ng.length:=by
      have z:=congrArg List.length Sg.pre
      rw [List.length_take] at z
      omega
    have ke:∀x h' cls d H',Ea x h'→HS ⟨G.K,h1,H1⟩ h' H'→XRep G.K H' x cls d→WE (cW G E) σ cls d H':=fun x h' cls d H' y c xr=> by
      obtain ⟨S2,x2⟩:=S1.after c
      exact ⟨x,env1,h',S2,xr,ea _ _ y⟩
    have kq:∀r h' v H',Qa r h'→HS ⟨G.K,h1,H1⟩ h' H'→A0U ⟨G.K,h1,H1⟩ h' H' r v→Q v H':=fun r h' v H' y c rr=> by
      obtain ⟨S2,x2⟩:=S1.after c
      have y:=qa r h' y
      cases r with
      | val w=> exact y v H' S2 (x1.trans x2) rr trivial
      | own c0=>
        obtain ⟨p,e,cr,a,b⟩:=rr
        have nw:H1 p=none:=b
        obtain ⟨_,g0,no⟩:=S1.noAt nw
        exact y v H' S2 (x1.trans x2) ⟨p,e,cr,a,g0,no⟩ fun p' e'=> by
          rw [e] at e';cases e';exact x1.fresh nw
    have rr1:RepL X.K H1 ws vs:=gk▸r1
    have tb1:TabsK X.K H1:=gk▸S1.tabs
    have hp1:∀a o,h1 a=some o→ORep X.K H1 a o:=gk▸S1.hp
    rw [gk] at ke kq
    refine wpAny_call (codeAny_mono (run_ofS (CX:=L2.CX X.prog X.w) (N:=Ng) (ps:=psg) (vs:=vs) (k:=kg) (Q:=Q) (E:=WE (cW G E) σ) lk hcd Sg hr I1.env0 b r hlv fun hr'=> ?_) fun r s' hq=> ?_)
    · have tk':Takes (bx X.prog X.w X.K X.mg X.base Ng x (defScope st) g cdv X.A X.stack s1 H1 (WE (cW G E) σ)) (cW ⟨X.K,h1,H1⟩ (C7 Ea)):=
        Takes.imp (W:=fun cls d _ H'=> WE (cW G E) σ cls d H') (takes_of rfl rfl rfl rfl) fun cls d σ' H' ⟨x,env,h',SB,xr,h'',le,e⟩=> ke x h'' cls d H' e (HS.le (G:=⟨X.K,h1,H1⟩) SB.hs le) xr
      have lh:=C0t (Ng:=Ng) (qg:=x) (sg:=defScope st) (g:=g) (cdg:=cdv) (k:=kl) (Eg:=WE (cW G E) σ) gk I1 S1 lf L hbind (hr'.mono hk) hbody
      refine ⟨_,(hb cdv s1 H1 (WE (cW G E) σ) ⟨X.K,h1,H1⟩ (C7 Ea) f (u7 tb env1) hr' rfl tk' lh).ps,F8 Ng.length ws,h1,C2 Qa,BS.begin hp1 tb1 rr1 hwN,z,?_⟩
      refine ⟨fun env h' σ' H' SB _ ⟨h'',le,e⟩=> kq (.val .non) h'' .non H' e (SB.hs.le le) (show Rep X.K H' .non .non from .non),fun r0 env h' σ' H' v SB _ rr ⟨h'',le,e⟩=> ?_,fun _ _ _ _ _ _ z=> z.elim,fun _ _ _ _ _ _ z=> z.elim⟩
      have own_end:∀{p:Addr} {c:Cont},v= .ref p→CRep X.K H' p c→h' p=none→H1 p=none→A0U ⟨X.K,h1,H1⟩ h'' H' (.own c) v:=fun {p c} e1 e2 e3 e4=> by
        have e5:h'' p=none:=by
          cases z:h'' p with
          | none=> rfl
          | some u=> rw [le p u z] at e3;cases e3
        exact ⟨p,e1,e2,e5,e4⟩
      cases r0 with
      | val w0=> exact kq (.val w0) h'' v H' e (SB.hs.le le) rr
      | own c=>
        obtain ⟨p,e1,cr,a,b,_⟩:=rr
        exact kq (.own c) h'' v H' e (SB.hs.le le) (own_end e1 cr a b)
      | slot i=>
        have es:σ'[i]? =some (some v):=rr
        have e:match env[i]? with
          | some (some (.val w))=> Qa (.val w) h''
          | some (some (.own c))=> Qa (.own c) h''
          | _=> False:=e
        split at e
        · rename_i w0 ei
          obtain ⟨u,e3,rv⟩:=SB.val i w0 ei
          rw [es] at e3;cases e3
          exact kq (.val w0) h'' v H' e (SB.hs.le le) rv
        · rename_i c ei
          obtain ⟨p,e3,cr,a,b⟩:=SB.own i c ei
          rw [es] at e3;cases e3
          exact kq (.own c) h'' _ H' e (SB.hs.le le) (own_end rfl cr a b)
        · exact e.elim
    · cases r with
      | error e=> exact passAt tk σ pins H1 s1 e s' I1 hq
      | ok fl=>
        cases fl with
        | ret u=> exact I1.after hq
        | next=> exact False.elim hq
        | brk=> exact False.elim hq
        | cont=> exact False.elim hq
end
end Ab
namespace Ab
open PySem PySem.Spec PyProof.Rows L2 LamX
def N6 (sc scope:Scope) (N ps:List Str):Bool:=
  decide (scope.kind= .function) && !scope.isCoroutine && !scope.isGenerator && (scope.names.all fun y=> !decide (y.2= .cell) && (!decide (y.2= .local) || decide (y.1∈ps)) && (!decide (y.2= .free) || decide (sc.names.lookup y.1=some .cell) || decide (sc.names.lookup y.1=some .free))) &&
    (ps.all fun x=> decide (scope.names.lookup x=some .local) && !decide (x∈N)) && decide ps.Nodup
theorem O7 {sc scope:Scope} {N ps:List Str} (h:N6 sc scope N ps=true):LamP sc scope N ps:=by
  unfold N6 at h
  simp only [Bool.and_eq_true,Bool.or_eq_true,Bool.not_eq_true',decide_eq_true_eq,decide_eq_false_iff_not,List.all_eq_true] at h
  obtain ⟨⟨⟨⟨⟨h1,h2⟩,h3⟩,h4⟩,h5⟩,h6⟩:=h
  refine ⟨h1,h2,h3,fun y hy=> ⟨(h4 y hy).1.1,fun e=> ?_⟩,h5,h6,fun y hy e=> ?_⟩
  · rcases (h4 y hy).1.2 with z | z
    · exact absurd e z
    · exact z
  · rcases (h4 y hy).2 with (z | z) | z
    · exact absurd e z
    · exact .inl z
    · exact .inr z
structure MakesL (K:PySem.W.Frag) (mg:Str→Option Value) (base:Heap) (q:Str) (cdv:Value):Prop where
  ex:∃c P,cdv= .ref c∧TabB base mg c P∧(P,q)∈A1Z K∧∀p∈A1Z K,p.1=P→p.2=q
def A3F (K:PySem.W.Frag) (f:Addr) (cdv:Value):Prop:=∃oc od fd osl,K.lookup f=some ⟨oc,od,.func fd,osl⟩∧fd.code=cdv
section
variable {P:Program} {w:World} {K:PySem.W.Frag} {mg:Str→Option Value} {base:Heap} {x qual:Str} {params:Arguments} {body:List Stmt} {scope:Scope} {f:Addr} {fd:FuncData} {N ps:List Str} {k n:Nat} {sp:B8} {st:Stmt}
theorem B3P {t:C0} {cdv:Value} {A:Around} {outer:List Env} {s:Shared} {H:Hp} {vs:List V} {Q:VK} {E:XK} {ws:List W} {h:AH} {Qa:RR→AH→Prop} (hwN:ws.length≤N.length)
    (hb:ASs (bx P w K mg base N qual scope f cdv A outer s H E) ⟨K,h,H⟩ body t) (hp:∀a o,h a=some o→ORep K H a o) (tb:TabsK K H) (r:RepL K H ws vs) (q:t (C2 Qa) (F8 N.length ws) h)
    (kq:∀r h' v H',Qa r h'→HS ⟨K,h,H⟩ h' H'→A0U ⟨K,h,H⟩ h' H' r v→Q v H'):
    ∃t,PSs (cxOf (L2.CX P w) P w K mg base N qual scope f cdv A outer s H E) body t∧t { nx:=fun _ H'=> Q .non H',rt:=Q } (start N vs) H:=by
  refine ⟨_,hb.ps,F8 N.length ws,h,C2 Qa,BS.begin hp tb r hwN,q,?_⟩
  refine ⟨fun env h' σ' H' SB _ ⟨h'',le,e⟩=> kq (.val .non) h'' .non H' e (SB.hs.le le) (show Rep K H' .non .non from .non),fun r0 env h' σ' H' v SB _ rr ⟨h'',le,e⟩=> ?_,fun _ _ _ _ _ _ z=> z.elim,fun _ _ _ _ _ _ z=> z.elim⟩
  have own_end:∀{p:Addr} {c:Cont},v= .ref p→CRep K H' p c→h' p=none→H p=none→A0U ⟨K,h,H⟩ h'' H' (.own c) v:=fun {p c} e1 e2 e3 e4=> by
    have e5:h'' p=none:=by
      cases z:h'' p with
      | none=> rfl
      | some u=> rw [le p u z] at e3;cases e3
    exact ⟨p,e1,e2,e5,e4⟩
  cases r0 with
  | val w0=> exact kq (.val w0) h'' v H' e (SB.hs.le le) rr
  | own c=>
    obtain ⟨p,e1,cr,a,b,_⟩:=rr
    exact kq (.own c) h'' v H' e (SB.hs.le le) (own_end e1 cr a b)
  | slot i=>
    have es:σ'[i]? =some (some v):=rr
    have e:match env[i]? with
      | some (some (.val w))=> Qa (.val w) h''
      | some (some (.own c))=> Qa (.own c) h''
      | _=> False:=e
    split at e
    · rename_i w0 ei
      obtain ⟨u,e3,rv⟩:=SB.val i w0 ei
      rw [es] at e3;cases e3
      exact kq (.val w0) h'' v H' e (SB.hs.le le) rv
    · rename_i c ei
      obtain ⟨p,e3,cr,a,b⟩:=SB.own i c ei
      rw [es] at e3;cases e3
      exact kq (.own c) h'' _ H' e (SB.hs.le le) (own_end rfl cr a b)
    · exact e.elim
theorem B2V {cdv:Value} {A:Around} {outer:List Env} {s:Shared} {H:Hp} {h:AH} {E:XK} {Ea:AExc→AH→Prop} (ke:∀x h' cls d H',Ea x h'→HS ⟨K,h,H⟩ h' H'→XRep K H' x cls d→E cls d H'):
    Takes (bx P w K mg base N qual scope f cdv A outer s H E) (cW ⟨K,h,H⟩ (C7 Ea)):=
  Takes.imp (W:=fun cls d _ H'=> E cls d H') (takes_of rfl rfl rfl rfl) fun cls d σ H' ⟨x,env,h',SB,xr,h'',le,e⟩=> ke x h'' cls d H' e (HS.le (G:=⟨K,h,H⟩) SB.hs le) xr
theorem Ok.mkL {t:(AExc→A0→AH→Prop)→C0} (sm:L6 sp) (hm:mg x=some (.ref f)) (F:FunD K x x (defArgs st) (defBody st) (defScope st) [] [] f fd) (S:FnScope N ps (defScope st)) (hn:ps.length=n)
    (lm:∀cdv,A3F K f cdv→MakesL K mg base (x++".<locals>."++"<lambda>") cdv)
    (hb:∀(cdv:Value) (A:Around) (outer:List Env) (s:Shared) (H:Hp) (E:XK) (G:Gx) (E':AExc→A0→AH→Prop),MakesL K mg base (x++".<locals>."++"<lambda>") cdv→Room k (A.deeper (envOfC x (defScope st) s.heap.objs.size f cdv))→G.K=K→Takes (bx P w K mg base N x (defScope st) f cdv A outer s H E) (cW G E')→
      ASs (bx P w K mg base N x (defScope st) f cdv A outer s H E) G (defBody st) (t E'))
    (hq:∀ws h Qa Ea,ws.length=n→sp ws h Qa Ea→t (C7 Ea) (C2 Qa) (F8 N.length ws) h):Ok P w K mg base x st (k+1) n ps sp:=by
  refine ⟨sm,f,fd,hm,F,?_⟩
  obtain ⟨oc,od,dV,kV,doc,pm,an,cdv,ct,osl,rfl,lk,hcd,_,_⟩:=F.ex
  refine fn_of lk hcd S (fun vs H Q E ⟨ws,h,Qa,Ea,hl,_,_,r,_⟩=> by rw [←r.length,hl,hn]) fun A outer s H vs Q E hr ⟨ws,h,Qa,Ea,hl,hp,tb,r,q,kq,ke⟩=> ?_
  have hwN:ws.length≤N.length:=by
    have z:=congrArg List.length S.pre
    rw [List.length_take] at z
    omega
  exact B3P hwN (hb cdv A outer s H E ⟨K,h,H⟩ (C7 Ea) (lm cdv ⟨oc,od,_,osl,lk,rfl⟩) hr rfl (B2V ke)) hp tb r (hq ws h Qa Ea hl q) kq
end
section
variable {X:Cx} {G:Gx} {d:LamD} {e:Expr} {es:List Expr} {pos:Pos} {n:Nat} {q:Str} {N ps:List Str}
theorem A6O {t:E5} {params:Arguments} {body:Expr} {scope:Scope} (gk:G.K=X.K) (lm:MakesL X.K X.mg X.base q X.env.code) (hq:q=X.env.qual++"<lambda>") (L:LamP X.env.scope scope N ps) (b:AN X G es n t) (dfl:defaultsOf params X.env=([],[]):=by rfl)
    (hs:starEach (.Lambda params body scope pos::es) X.env=(false,eval (.Lambda params body scope pos) X.env)::starEach es X.env:=by rfl):AL X G ⟨params,body,scope⟩ (.Lambda params body scope pos::es) (n+1) (A2E t):=by
  obtain ⟨c,P,e,tb,m,u⟩:=lm.ex
  subst hq
  exact C1L (d:=⟨params,body,scope⟩) gk ⟨tb,e,m,u,dfl,fun ok=> L.has ok⟩ b hs
end
end Ab
namespace Ab
open PySem PySem.Spec PyProof.Rows L2 RZ
def A3X (o:Obj):Bool:=match o.cls with
  | .type c=> decide (c="list")
  | _=> false
def frK (g:Addr→Option Obj) (as:List Addr):PySem.W.Frag:=He.frG (fun a=> (g a).bind fun o=> if A3X o=true then none else some o) as
theorem C1j {as:List Addr} {h:Heap}:(frK h.get? as).In h:=fun a o e=> by
  have z:=He.frG_at (g:=fun a=> (h.get? a).bind fun o=> if A3X o=true then none else some o) as e
  cases q:h.get? a with
  | none=> rw [q] at z;cases z
  | some u=>
    rw [q] at z
    have z:(if A3X u=true then none else some u)=some o:=z
    split at z
    · cases z
    · exact z
def A7d (K:PySem.W.Frag):Prop:=∀a o,K.lookup a=some o→o.cls≠ .type "list"
theorem C2o {g:Addr→Option Obj} {as:List Addr}:A7d (frK g as):=fun a o e c=> by
  have z:=He.frG_at (g:=fun a=> (g a).bind fun o=> if A3X o=true then none else some o) as e
  cases q:g a with
  | none=> rw [q] at z;cases z
  | some u=>
    rw [q] at z
    have z:(if A3X u=true then none else some u)=some o:=z
    split at z
    · cases z
    · rename_i n
      cases z
      exact n (by unfold A3X;rw [c];rfl)
def A7T (g:Addr→Option Obj) (a:Addr):List Addr:=match g a with
  | some o=> match o.data with
    | .seq its _=> its.toList.flatMap He.refV
    | .dict es _=> es.toList.flatMap fun e=> He.refV e.val
    | .func fd=> He.refV fd.code++He.refV fd.defaults++He.refV fd.kwdefaults++fd.closure.map (·.2)
    | .cls cd=> [cd.ns]
    | .cell (some v)=> He.refV v
    | _=> []
  | none=> []
def asK (g:Addr→Option Obj):List Addr:=
  let l1:=A7T g mainGlobals
  let l2:=l1.flatMap (A7T g)
  let l3:=l2.flatMap (A7T g)
  let l4:=l3.flatMap (A7T g)
  mainGlobals::(l1++l2++l3++l4)
def asL (g:Addr→Option Obj) (ls:List (Str×Option Str)):List Addr:=match ls with
  | []=> asK g
  | l::r=> asK g++B5E::(l::r).map fun x=> He.codeOf (frK g (asK g)) x
abbrev AlK:Type:=He.AlD×Bool
def B5k (g:Addr→Option Obj) (K:PySem.W.Frag):Bool:=(g9 K).all fun p=> PySem.W.codeHdIn K p.1.1 p.1.2 && (match K.lookup p.1.2 with
  | none=> true
  | some _=> false) && (match g p.1.2 with
  | some o=> He.emptyTab o
  | none=> false)
def B0E (K:PySem.W.Frag) (h:Heap):Prop:=∀p∈g9 K,PySem.W.codeHdIn K p.1.1 p.1.2=true∧K.lookup p.1.2=none∧h.get? p.1.2=some { cls:= .none,data:= .fields #[] }
theorem C0K {h:Heap} {K:PySem.W.Frag} (e:B5k h.get? K=true):B0E K h:=fun p hp=> by
  have z:=List.all_eq_true.mp e p hp
  simp only [Bool.and_eq_true] at z
  obtain ⟨⟨z1,z2⟩,z3⟩:=z
  refine ⟨z1,?_,?_⟩
  · cases q:K.lookup p.1.2 with
    | none=> rfl
    | some o=> rw [q] at z2;cases z2
  · cases q:h.get? p.1.2 with
    | none=> rw [q] at z3;cases z3
    | some o=> rw [q] at z3;rw [He.emptyTab_eq z3]
def B0J (fa:List He.Fa) (fn:List He.DefD) (ex:PySem.W.Frag→Bool) (ls:List (Str×Option Str)) (g:Addr→Option Obj):AlK:=
  let K:=frK g (asL g ls)
  (He.obsD fa fn K,ex K && B5k g K)
def B47 (fa:List He.Fa) (fn:List He.DefD) (ex:PySem.W.Frag→Bool) (ls:List (Str×Option Str)):PySem.W.Hook where
  α:=AlK
  obs:=fun s=> B0J fa fn ex ls s.heap.get?
  val:=fun _=> (He.valD fn,true)
  says:=fun _ h=> ∃K:PySem.W.Frag,K.In h∧(He.SaysD fa fn K∧ex K=true)∧A7d K∧B0E K h
  of:=fun _ _ e=> by
    have z:=congrArg Prod.snd e
    have z:=Bool.and_eq_true_iff.mp z
    exact ⟨_,C1j,⟨congrArg Prod.fst e,z.1⟩,C2o,C0K z.2⟩
  keeps:=fun _ _ _ ⟨K,hK,c,n,t⟩ k=> ⟨K,PySem.W.Frag.In.keeps hK k,c,n,fun p hp=> ⟨(t p hp).1,(t p hp).2.1,k _ _ (t p hp).2.2⟩⟩
theorem C09 {fa:List He.Fa} {fn:List He.DefD} {ex:PySem.W.Frag→Bool} {ls:List (Str×Option Str)} {g:Addr→Option Obj} {s:Shared} (h:∀a,g a=s.heap.get? a):B0J fa fn ex ls g=(B47 fa fn ex ls).obs s:=by
  have e:g=s.heap.get?:=funext h
  rw [e] <;> rfl
theorem FunD.one {K:PySem.W.Frag} {x q x' q':Str} {a a':Arguments} {b b':List Stmt} {sc sc':Scope} {d d':List V} {k k':List (Str×V)} {f:Addr} {fd fd':FuncData} (F:FunD K x q a b sc d k f fd) (F':FunD K x' q' a' b' sc' d' k' f fd'):fd=fd':=by
  obtain ⟨oc,od,dV,kV,doc,pm,an,cdv,ct,osl,_,lk,_⟩:=F.ex
  obtain ⟨oc',od',dV',kV',doc',pm',an',cdv',ct',osl',_,lk',_⟩:=F'.ex
  rw [lk] at lk'
  cases lk'
  rfl
def A7j (K:PySem.W.Frag) (x:Str×Option Str) (q:Str):Bool:=match K.lookup (He.fAd K x) with
  | some ⟨_,_,.func fd,_⟩=> (match fd.code with
    | .ref c=> (g9 K).any fun p=> decide (p.1.1=c) && decide (p.2=q++".<locals>."++"<lambda>")
    | _=> false)
  | _=> false
def B5a (K:PySem.W.Frag):Bool:=(g9 K).all fun p=> (g9 K).all fun p'=> !decide (p.1.2=p'.1.2) || decide (p.2=p'.2)
theorem B20 {K:PySem.W.Frag} {mg:Str→Option Value} {base:Heap} {x:Str×Option Str} {q:Str} (h:A7j K x q=true) (u:B5a K=true) (tb:∀p∈(g9 K).map (·.1),LamX.TabB base mg p.1 p.2):∀cdv,A3F K (He.fAd K x) cdv→MakesL K mg base (q++".<locals>."++"<lambda>") cdv:=fun cdv ⟨oc,od,fd,osl,lk,ec⟩=> by
  unfold A7j at h
  rw [lk] at h
  have h:(match fd.code with
    | .ref c=> (g9 K).any fun p=> decide (p.1.1=c) && decide (p.2=q++".<locals>."++"<lambda>")
    | _=> false)=true:=h
  rw [ec] at h
  cases cdv with
  | ref c=>
    have h:((g9 K).any fun p=> decide (p.1.1=c) && decide (p.2=q++".<locals>."++"<lambda>"))=true:=h
    obtain ⟨p,hp,z⟩:=List.any_eq_true.mp h
    simp only [Bool.and_eq_true,decide_eq_true_eq] at z
    obtain ⟨z1,z2⟩:=z
    refine ⟨c,p.1.2,rfl,z1▸tb p.1 (List.mem_map.mpr ⟨p,hp,rfl⟩),List.mem_map.mpr ⟨p,hp,by rw [z2]⟩,fun t ht e=> ?_⟩
    obtain ⟨p',hp',rfl⟩:=List.mem_map.mp ht
    have y:=List.all_eq_true.mp (List.all_eq_true.mp u p' hp') p hp
    simp only [Bool.or_eq_true,Bool.not_eq_true',decide_eq_true_eq,decide_eq_false_iff_not] at y
    rcases y with y | y
    · exact absurd e y
    · exact y.trans z2
  | _=> cases h
def A90 (sp:B8):Prop:=∀(ns:List Int),ns.length≤63→sp [W.lst (ns.map .int)] (fun _=> none) (fun r _=> r= .val (.bl true)) fun _ _=> False
def B5n (K:PySem.W.Frag):Sp:=fun vs H Q _=> ∃(a:Addr) (ns:List Int),vs=[.ref a]∧ns.length≤63∧SqL K H a (ns.map V.int)∧(∀p∈g9 K,H p.1.2=some (.tbl #[]))∧(∀H',Q (.bl true) H')
theorem B4Z {K:PySem.W.Frag} {sp:B8} (ls:A90 sp) {H:Hp} {a:Addr} {ns:List Int} {Q:VK} {E:XK} (hl:ns.length≤63) (hS:LsF H a (ns.map V.int)) (hT:TabsK K H) (q:∀H',Q (.bl true) H'):R9 K 1 sp [.ref a] H Q E:=
  ⟨[.lst (ns.map .int)],fun _=> none,_,_,rfl,(fun _ _ e=> nomatch e),hT,.cons (.lst hS .ints) .nil,ls ns hl,fun r h' v H' e _ rr=> by
    subst e
    have z:=Rep.of_bl (K:=K) (H:=H') rr
    rw [z];exact q H',fun _ _ _ _ _ z _ _=> z.elim⟩
theorem B3H {K:PySem.W.Frag} {H:Hp} (h:∀p∈g9 K,H p.1.2=some (.tbl #[])):TabsK K H:=fun p hp=> by
  obtain ⟨q,hq,rfl⟩:=List.mem_map.mp hp
  exact LamX.TabS.nil (h q hq)
theorem C1h {P:Program} {w:World} {K:PySem.W.Frag} {mg:Str→Option Value} {base:Heap} {k:Nat} {f:Addr} {fd:FuncData} {ps:List Str} {sp:B8} (ls:A90 sp) (no:A7d K) (F:FnOk P w K mg base (L2.CX P w) k f fd ps (R9 K 1 sp)) (hp:ps.length=1):
    FnOk P w K mg base (L2.CX P w) k f fd ps (B5n K):=by
  refine ⟨fun vs H Q E ⟨a,ns,e,_⟩=> by rw [e,hp];rfl,fun A outer s H args us vs Q E hr e0 hb hv ⟨a,ns,ev,hl,hS,hT,q⟩=> ?_⟩
  subst ev
  rcases hS with (h | h) | ⟨o,its,n,l,c,_⟩
  ·
    obtain ⟨l1,its,n,rv,ho⟩:=e0.hok a _ h
    have keep:∀b o,H b=some o→(∀xs,o≠ .lst xs)→upd H a (.frz { cls:= .type "list",data:= .seq its.toArray n } (.lst (ns.map V.int))) b=some o:=fun b o e m=> by
      have ne:b≠a:=fun z=> by
        rw [z,h] at e
        exact m _ (Option.some.inj e).symm
      rw [upd_ne ne];exact e
    have non:∀b,H b=none→upd H a (.frz { cls:= .type "list",data:= .seq its.toArray n } (.lst (ns.map V.int))) b=none:=fun b e=> by
      have ne:b≠a:=fun z=> by rw [z,h] at e;cases e
      rw [upd_ne ne];exact e
    have sub:∀b o,ObjOk P w H s.heap b o→ObjOk P w (upd H a (.frz { cls:= .type "list",data:= .seq its.toArray n } (.lst (ns.map V.int)))) s.heap b o:=by
      intro b o
      induction o with
      | dT kvs=>
        rintro ⟨a1,a2,xs,a3,a4⟩
        exact ⟨a1,a2,xs,a3.mono fun x y ⟨b1,b2,b3⟩=> ⟨b1,keep _ _ b2 (fun xs z=> by cases z),b3⟩,a4⟩
      | ins C dx fs=>
        rintro ⟨a1,a2⟩
        exact ⟨keep _ _ a1 (fun xs z=> by cases z),a2⟩
      | frz o u ih=> rintro ⟨a1,a2⟩;exact ⟨a1,ih a2⟩
      | _=> exact id
    have hok:HOk P w (upd H a (.frz { cls:= .type "list",data:= .seq its.toArray n } (.lst (ns.map V.int)))) s.heap:=fun b o e=> by
      by_cases hb:b=a
      · subst hb
        rw [upd_same] at e
        cases e
        exact ⟨ho,l1,its,n,rv,ho⟩
      · rw [upd_ne hb] at e
        exact sub b o (e0.hok b o e)
    have hT2:TabsK K (upd H a (.frz { cls:= .type "list",data:= .seq its.toArray n } (.lst (ns.map V.int)))):=B3H fun p m=> keep _ _ (hT p m) fun xs z=> by cases z
    have run:=F.run A outer s _ args us [.ref a] Q E hr ⟨e0.frames,e0.mod,fun b o e=> ⟨(e0.bs b o e).1,non b (e0.bs b o e).2⟩,e0.bsz,e0.funs,fun b m=> non b (e0.frf b m),hok,e0.bare⟩ hb hv (B4Z ls hl ⟨_,upd_same⟩ hT2 q)
    refine codeAny_mono run fun r s' z=> ?_
    cases r with
    | error e=>
      obtain ⟨a',B,H',cls,d,e1,e2,e3,e4,e5,e6,e7,e8⟩:=z
      have nn:∀b,upd H a (.frz { cls:= .type "list",data:= .seq its.toArray n } (.lst (ns.map V.int))) b=none→H b=none:=fun b e=> by
        by_cases hb:b=a
        · subst hb;rw [upd_same] at e;cases e
        · rw [upd_ne hb] at e;exact e
      exact ⟨a',B,H',cls,d,e1,e2,e3,⟨fun b o x y=> e4.keep b o x (non b y),e4.slot,fun b o x y=> e4.free b o x (non b y),e4.there,fun b xs x=> e4.tups b xs (keep _ _ x fun xs z=> by cases z),fun b o u x=> e4.frzs b o u (keep _ _ x fun xs z=> by cases z),fun b ps x=> e4.tbls b ps (keep _ _ x fun xs z=> by cases z)⟩,e5,e6,e7,e8⟩
    | ok fl=>
      cases fl with
      | ret u=>
        obtain ⟨v,H',e1,e2,e3,e4,e5,e6⟩:=z
        exact ⟨v,H',e1,e2,⟨fun b o x y=> e3.keep b o x (non b y),fun b o x y=> e3.slot b o x (non b y),fun b o x y=> e3.free b o x (non b y),e3.there,fun b xs x=> e3.tups b xs (keep _ _ x fun xs z=> by cases z),fun b o u x=> e3.frzs b o u (keep _ _ x fun xs z=> by cases z),fun b ps x=> e3.tbls b ps (keep _ _ x fun xs z=> by cases z)⟩,e4,e5,e6⟩
      | next=> exact z
      | brk=> exact z
      | cont=> exact z
  · exact F.run A outer s H args us [.ref a] Q E hr e0 hb hv (B4Z ls hl h (B3H hT) q)
  · exact absurd c (no a o l)
theorem C3T {P:Program} {w:World} (H:Hp) (s:Shared) (e:Value) (s':Shared) (z:L2.CX P w [] H s (fun _ _ _=> False) e s'):False:=by
  obtain ⟨_,_,_,_,_,_,_,_,_,_,_,_,z⟩:=z
  exact z
theorem walk_end {l:PySem.W.OpenLaw} {j:Nat} {vw:Program} {lo:List Str} {A:(Str→Option Value)→Heap→Prop} {B:World→Heap→Prop} {d:DefRec} {y:Str} (h1:l.most=some 63) (h3:d.params.defaults=[]) (h4:Room j callerA)
    (F:∀(u:World) (g:Str→Option Value) (at_:Addr) (hp:Heap),B u hp→hp.Ns mainGlobals g→g d.name=some (.ref at_)→∃(K:PySem.W.Frag) (fd:FuncData) (sp:B8),K.In hp∧A7d K∧B0E K hp∧A90 sp∧(∀(t:Shared) (z:Value),BindsTo t fd ⟨[z],[]⟩ [(y,z)])∧
      ∀base:Heap,(∀p∈(g9 K).map (·.1),LamX.TabB base g p.1 p.2)→FnOk l.prog u K g base (L2.CX l.prog u) j at_ fd [y] (R9 K 1 sp)):
    PySem.W.WalkO vw lo A B l.row.toRowW d [] (fun f vs=> PySem.call f vs):=
  LamX.walk_ofTsE h1 (by decide) h3 h4 (fun u g at_ hp yb ns named=>
    let ⟨K,fd,sp,inK,no,te,ls,bind,ok⟩:=F u g at_ hp yb ns named
    ⟨K,inK,fd,(g9 K).map (·.1),B5n K,fun p m=> (by obtain ⟨q,hq,rfl⟩:=List.mem_map.mp m;exact (te q hq).2.2),fun p m=> (by obtain ⟨q,hq,rfl⟩:=List.mem_map.mp m;exact (te q hq).2.1),
      fun p m=> (by obtain ⟨q,hq,rfl⟩:=List.mem_map.mp m;exact PySem.W.codeHd_of_K inK (te q hq).1),bind,
      fun H b is few _ hT seq=> ⟨b,is,rfl,few,seq,fun p m=> hT p.1 (List.mem_map.mpr ⟨p,m,rfl⟩),fun _=> rfl⟩,fun base _ _ tb=> C1h ls no (ok base tb) rfl⟩) fun u H s e s'=> C3T H s e s'
end Ab
namespace Ab
open PySem PySem.Spec PyProof.Rows L2 RZ
def A4p (tl:List Value):List Value→Bool
  | .ref _::r=> A4p tl r
  | l=> l==tl
abbrev tlV:List Value:=[.type "ValueError",.type "Exception",.type "BaseException",.type "object"]
abbrev tlL:List Value:=[.type "LookupError",.type "Exception",.type "BaseException",.type "object"]
abbrev tlI:List Value:=[.type "IndexError",.type "LookupError",.type "Exception",.type "BaseException",.type "object"]
def xcTab:List (Str×List Str):=
  [("BadSizes",["HideError"]),("BadCounts",["HideError"]),("BadStand",["HideError"]),("BadDeed",["HideError"]),("BadRow",["HideError"]),("BadTimes",["HideError"]),("BadName",["HideError"]),("BadText",["HideError"]),("Taken",["HideError"]),
   ("InUse",["HideError"]),("Tapped",["HideError"]),("TooLong",["HideError"]),("TooMany",["HideError"]),("Unlike",["HideError"]),("NoRound",["Missing"]),("NoDrop",["Missing"]),("NoCask",["Missing"]),("NothingLeft",[])]
def K4 (n c:Str):Bool:=decide (n=c) || decide (c∈(xcTab.lookup n).getD [])
def A97 (n:String) (bm:List Value):Bool:=(decide (n="ValueError.__new__") && A4p tlV bm) || ((decide (n="LookupError.__new__") && A4p tlL bm) || (decide (n="IndexError.__new__") && A4p tlI bm))
def B0L (K:PySem.W.Frag) (C:Addr):Bool:=match K.lookup C with
  | some ⟨.type t,_,.cls cd,sl⟩=> decide (t="type") && (match cd.mro,sl.toList with
    | .ref C'::bm,[_,_,_,_,some (.builtin n),_]=> decide (C'=C) && (A97 n bm && (!cd.hasDel && cd.hasDict))
    | _,_=> false)
  | _=> false
def v8 (K:PySem.W.Frag) (x:Str) (fs:List Str):Bool:=
  B0L K (He.ga K x) && (decide (PySem.W.findIn K (.ref (He.ga K x)) "__setattr__"=some (some (.builtin "object.__setattr__"))) && (decide (PySem.W.subIn K (.ref (He.ga K x)) (.type "BaseException")=some true) &&
    (decide (PySem.W.typeIn K (.ref (He.ga K x))=some (.type "type")) && (PySem.W.keepIn K (.ref (He.ga K x)) && (decide (PySem.W.findIn K (.ref (He.ga K x)) "__init__"=some (some (.ref (He.ma K (He.ga K x) "__init__")))) &&
      (decide (PySem.W.typeIn K (.ref (He.ma K (He.ga K x) "__init__"))=some (.type "function")) && (xfB K (He.ga K x) && (("word":Str)::fs).all fun f=> decide (PySem.W.findIn K (.ref (He.ga K x)) f=some none))))))))
def A0h (K:PySem.W.Frag) (ks:List Str) (c:Str):Bool:=ks.all fun k=> decide (PySem.W.exmOne K (.ref (He.ga K k)) (.ref (He.ga K c))=some (K4 k c))
def A3b (K:PySem.W.Frag) (ks:List Str) (f:Str):Bool:=ks.all fun c=> xfB K (He.ga K c) && decide (PySem.W.findIn K (.ref (He.ga K c)) f=some none)
def V3 (i:Nat):Stmt:=PySem.Challenge.pw_hidelater_k26_what_a_book_refuses.main.body.getD i (.Pass ⟨0,0,0,0⟩)
def meth (i j:Nat):Stmt:=match V3 i with
  | .ClassDef _ _ _ b _ _ _ _ _ _ _=> b.getD j (.Pass ⟨0,0,0,0⟩)
  | _=> .Pass ⟨0,0,0,0⟩
abbrev A8r:Stmt:=V3 0
abbrev a9:Stmt:=V3 16
abbrev b5:Stmt:=V3 21
abbrev b7:Stmt:=V3 22
abbrev b9:Stmt:=V3 23
abbrev X7:Stmt:=V3 30
abbrev T1:Stmt:=V3 31
abbrev b4:Stmt:=V3 32
abbrev b8:Stmt:=V3 35
abbrev U5:Stmt:=V3 36
abbrev b6:Stmt:=V3 37
abbrev W6:Stmt:=V3 38
abbrev X6:Stmt:=V3 39
abbrev X4:Stmt:=V3 40
abbrev Z6:Stmt:=V3 41
abbrev X5:Stmt:=V3 42
abbrev Z3:Stmt:=meth 33 11
abbrev Z4:Stmt:=meth 33 10
abbrev T0:Stmt:=meth 33 6
abbrev Z2:Stmt:=meth 33 8
abbrev X3:Stmt:=meth 33 9
abbrev W3:Stmt:=meth 33 12
abbrev V5:Stmt:=meth 33 14
abbrev W4:Stmt:=meth 33 15
abbrev W2:Stmt:=meth 33 7
abbrev W5:Stmt:=meth 33 13
abbrev M3:Stmt:=V3 43
abbrev Z5:Stmt:=meth 33 0
abbrev Z9:Stmt:=meth 33 5
abbrev Z8:Stmt:=meth 33 1
abbrev T9:Stmt:=V3 44
abbrev A53:Stmt:=meth 7 0
abbrev A6C:Stmt:=meth 6 0
abbrev A5p:Stmt:=meth 5 0
abbrev A6M:Stmt:=meth 9 0
abbrev A54:Stmt:=meth 12 0
abbrev A5c:Stmt:=meth 4 0
abbrev A6J:Stmt:=meth 8 0
abbrev A52:Stmt:=meth 10 0
abbrev A55:Stmt:=meth 11 0
def B3F:He.DefD:=⟨("_wall",none),"_wall","_wall",defArgs A8r,defBody A8r,defScope A8r,[],[]⟩
def B1T:He.DefD:=⟨("look_sizes",none),"look_sizes","look_sizes",defArgs a9,defBody a9,defScope a9,[],[]⟩
def B1t:He.DefD:=⟨("has_count",none),"has_count","has_count",defArgs b5,defBody b5,defScope b5,[],[]⟩
def B1s:He.DefD:=⟨("first_bad",none),"first_bad","first_bad",defArgs b7,defBody b7,defScope b7,[],[]⟩
def B13:He.DefD:=⟨("fault_of",none),"fault_of","fault_of",defArgs b9,defBody b9,defScope b9,[],[]⟩
def B2O:He.DefD:=⟨("is_name",none),"is_name","is_name",defArgs X7,defBody X7,defScope X7,[],[]⟩
def B2B:He.DefD:=⟨("is_call",none),"is_call","is_call",defArgs T1,defBody T1,defScope T1,[],[]⟩
def B1Z:He.DefD:=⟨("call_fault",none),"call_fault","call_fault",defArgs b4,defBody b4,defScope b4,[],[]⟩
def B1i:He.DefD:=⟨("_law_open",none),"_law_open","_law_open",defArgs b8,defBody b8,defScope b8,[],[]⟩
def B1e:He.DefD:=⟨("_law_take",none),"_law_take","_law_take",defArgs U5,defBody U5,defScope U5,[],[]⟩
def B1o:He.DefD:=⟨("_law_pick",none),"_law_pick","_law_pick",defArgs b6,defBody b6,defScope b6,[],[]⟩
def B1g:He.DefD:=⟨("_law_same",none),"_law_same","_law_same",defArgs W6,defBody W6,defScope W6,[],[]⟩
def B1u:He.DefD:=⟨("_law_word",none),"_law_word","_law_word",defArgs X6,defBody X6,defScope X6,[],[]⟩
def B1P:He.DefD:=⟨("_law_sizes",none),"_law_sizes","_law_sizes",defArgs X4,defBody X4,defScope X4,[],[]⟩
def B04:He.DefD:=⟨("_law_any_sizes",none),"_law_any_sizes","_law_any_sizes",defArgs Z6,defBody Z6,defScope Z6,[],[]⟩
def B1Y:He.DefD:=⟨("_law_field",none),"_law_field","_law_field",defArgs X5,defBody X5,defScope X5,[],[]⟩
def B1x:He.DefD:=⟨("_law_asks",none),"_law_asks","_law_asks",defArgs M3,defBody M3,defScope M3,[],[]⟩
def B4o:He.DefD:=⟨("law",none),"law","law",defArgs T9,defBody T9,defScope T9,[],[]⟩
def B01:He.DefD:=⟨("Book",some "look_new"),"look_new",(("Book":Str)++"."++"look_new"),defArgs Z3,defBody Z3,defScope Z3,[],[]⟩
def B06:He.DefD:=⟨("Book",some "laid_out"),"laid_out",(("Book":Str)++"."++"laid_out"),defArgs Z4,defBody Z4,defScope Z4,[],[]⟩
def B1N:He.DefD:=⟨("Book",some "there"),"there",(("Book":Str)++"."++"there"),defArgs T0,defBody T0,defScope T0,[],[]⟩
def B0v:He.DefD:=⟨("Book",some "look_step"),"look_step",(("Book":Str)++"."++"look_step"),defArgs Z2,defBody Z2,defScope Z2,[],[]⟩
def B1F:He.DefD:=⟨("Book",some "length"),"length",(("Book":Str)++"."++"length"),defArgs X3,defBody X3,defScope X3,[],[]⟩
def B1J:He.DefD:=⟨("Book",some "write"),"write",(("Book":Str)++"."++"write"),defArgs W3,defBody W3,defScope W3,[],[]⟩
def B07:He.DefD:=⟨("Book",some "callers"),"callers",(("Book":Str)++"."++"callers"),defArgs V5,defBody V5,defScope V5,[],[]⟩
def B1U:He.DefD:=⟨("Book",some "drop"),"drop",(("Book":Str)++"."++"drop"),defArgs W4,defBody W4,defScope W4,[],[]⟩
def B1G:He.DefD:=⟨("Book",some "steps"),"steps",(("Book":Str)++"."++"steps"),defArgs W2,defBody W2,defScope W2,[],[]⟩
def B1Q:He.DefD:=⟨("Book",some "flat"),"flat",(("Book":Str)++"."++"flat"),defArgs W5,defBody W5,defScope W5,[],[]⟩
def B02:He.DefD:=⟨("Book",some "__init__"),"__init__",(("Book":Str)++"."++"__init__"),defArgs Z5,defBody Z5,defScope Z5,[],[]⟩
def B1M:He.DefD:=⟨("Book",some "names"),"names",(("Book":Str)++"."++"names"),defArgs Z9,defBody Z9,defScope Z9,[],[]⟩
def B09:He.DefD:=⟨("Book",some "__len__"),"__len__",(("Book":Str)++"."++"__len__"),defArgs Z8,defBody Z8,defScope Z8,[],[]⟩
def B1y:He.DefD:=⟨("BadName",some "__init__"),"__init__","BadName.__init__",defArgs A53,defBody A53,defScope A53,[],[]⟩
def B2L:He.DefD:=⟨("BadRow",some "__init__"),"__init__","BadRow.__init__",defArgs A6C,defBody A6C,defScope A6C,[],[]⟩
def B1k:He.DefD:=⟨("BadSizes",some "__init__"),"__init__","BadSizes.__init__",defArgs A5p,defBody A5p,defScope A5p,[],[]⟩
def B2o:He.DefD:=⟨("InUse",some "__init__"),"__init__","InUse.__init__",defArgs A6M,defBody A6M,defScope A6M,[],[]⟩
def B18:He.DefD:=⟨("NoRound",some "__init__"),"__init__","NoRound.__init__",defArgs A54,defBody A54,defScope A54,[],[]⟩
def B1D:He.DefD:=⟨("NothingLeft",some "__init__"),"__init__","NothingLeft.__init__",defArgs A5c,defBody A5c,defScope A5c,[],[]⟩
def B2u:He.DefD:=⟨("Taken",some "__init__"),"__init__","Taken.__init__",defArgs A6J,defBody A6J,defScope A6J,[],[]⟩
def B12:He.DefD:=⟨("TooLong",some "__init__"),"__init__","TooLong.__init__",defArgs A52,defBody A52,defScope A52,[],[]⟩
def B10:He.DefD:=⟨("TooMany",some "__init__"),"__init__","TooMany.__init__",defArgs A55,defBody A55,defScope A55,[],[]⟩
def hFn:List He.DefD:=[B3F,B1T,B1t,B1s,B13,B2O,B2B,B1Z,B1i,B1e,B1o,B1g,B1u,B1P,B04,B1Y,B1x,B4o,B1y,B2L,B1k,B2o,B18,B1D,B2u,B12,B10,B01,B06,B1N,B0v,B1F,B1J,B07,B1U,B1G,B1Q,B02,B1M,B09]
def hFa:List He.Fa:=[.glo "_wall",.glo "look_sizes",.glo "has_count",.glo "first_bad",.glo "fault_of",.glo "is_name",.glo "is_call",.glo "call_fault",.glo "_law_open",.glo "_law_take",.glo "_law_pick",.glo "_law_same",.glo "_law_word",.glo "_law_sizes",.glo "_law_any_sizes",.glo "_law_field",.glo "_law_asks",.glo "law",.free "all",.free "any",.free "bool",.free "enumerate",.free "int",.free "isinstance",.free "len",.free "list",.free "range",.free "str",.free "sum",.free "tuple",.int "GREAT" 1000000000000000000000000000000,.str "LETTERS" ("abcdefghijklmnopqrstuvwxyz":Str),.int "LONGEST" 8,.int "MOST_CALLS" 9,.int "MOST_CASKS" 6,.int "MOST_FLAT" 200,.int "MOST_ROUNDS" 12,.int "MOST_SIZE" 40,.glo "PATHS",.glo "PLAIN",.glo "BadName",.glo "BadRow",.glo "BadSizes",.glo "InUse",.glo "NoRound",.glo "NothingLeft",.glo "Taken",.glo "TooLong",.glo "TooMany",.glo "HideError",.glo "Missing",.glo "Book",.cls "Book",.noat "Book" "casks",.noat "Book" "laid",.noat "Book" "written",.meth "Book" "look_new",.meth "Book" "laid_out",.meth "Book" "there",.meth "Book" "look_step",.meth "Book" "length",.meth "Book" "write",.meth "Book" "callers",.meth "Book" "drop",.meth "Book" "steps",.meth "Book" "flat",.meth "Book" "__init__",.meth "Book" "names",.meth "Book" "__len__",.mkr "Book"]
def hEx:PySem.W.Frag→Bool:=fun K=> He.tupB K "PATHS" [.str ("over":Str),.str ("down":Str)] && He.tupB K "PLAIN" [.str ("swap":Str),.str ("tap":Str),.str ("drain":Str)] && A7j K ("_law_asks",none) "_law_asks" && A7j K ("law",none) "law" && B5a K && v8 K "BadName" [] && v8 K "BadRow" ["step","place"] && v8 K "BadSizes" ["cask"] && v8 K "InUse" ["name"] && v8 K "NoRound" ["name"] && v8 K "NothingLeft" [] && v8 K "Taken" ["name"] && v8 K "TooLong" ["most"] && v8 K "TooMany" ["most"] && A0h K ["BadName","BadRow","BadSizes","InUse","NoRound","NothingLeft","Taken","TooLong","TooMany"] "BadRow" && A0h K ["BadName","BadRow","BadSizes","InUse","NoRound","NothingLeft","Taken","TooLong","TooMany"] "HideError" && A0h K ["BadName","BadRow","BadSizes","InUse","NoRound","NothingLeft","Taken","TooLong","TooMany"] "InUse" && A0h K ["BadName","BadRow","BadSizes","InUse","NoRound","NothingLeft","Taken","TooLong","TooMany"] "Missing" && A0h K ["BadName","BadRow","BadSizes","InUse","NoRound","NothingLeft","Taken","TooLong","TooMany"] "NoRound" && A0h K ["BadName","BadRow","BadSizes","InUse","NoRound","NothingLeft","Taken","TooLong","TooMany"] "NothingLeft" && A0h K ["BadName","BadRow","BadSizes","InUse","NoRound","NothingLeft","Taken","TooLong","TooMany"] "Taken" && A0h K ["BadName","BadRow","BadSizes","InUse","NoRound","NothingLeft","Taken","TooLong","TooMany"] "TooLong" && A0h K ["BadName","BadRow","BadSizes","InUse","NoRound","NothingLeft","Taken","TooLong","TooMany"] "TooMany" && A3b K ["BadName","BadRow","BadSizes","InUse","NoRound","NothingLeft","Taken","TooLong","TooMany"] "most" && A3b K ["BadName","BadRow","BadSizes","InUse","NoRound","NothingLeft","Taken","TooLong","TooMany"] "name" && A3b K ["BadName","BadRow","BadSizes","InUse","NoRound","NothingLeft","Taken","TooLong","TooMany"] "place" && A3b K ["BadName","BadRow","BadSizes","InUse","NoRound","NothingLeft","Taken","TooLong","TooMany"] "step" && A3b K ["BadName","BadRow","BadSizes","InUse","NoRound","NothingLeft","Taken","TooLong","TooMany"] "word"
def hLs:List (Str×Option Str):=[("_law_asks",none),("law",none)]
def C4Y:List Str:=["_wall","__name__","HideError","Missing","NothingLeft","BadSizes","BadRow","BadName","Taken","InUse","TooLong","TooMany","NoRound","MOST_CASKS","MOST_SIZE","look_sizes","GREAT","PATHS","PLAIN","has_count","first_bad","fault_of","MOST_ROUNDS","MOST_FLAT","MOST_CALLS","LONGEST","LETTERS","is_name","is_call","call_fault"]
def C4H:List Str:=["Book","_law_open","_law_take","_law_pick","_law_same","_law_word","_law_sizes","_law_any_sizes","_law_field","_law_asks"]
def hNms:List Str:=C4Y++C4H
abbrev hR:PySem.W.OpenRow:=PySem.W.OpenLaw.row PySem.Challenge.rw_hidelater_k26_what_a_book_refuses
abbrev hHk:PySem.W.Hook:=B47 hFa hFn hEx hLs
def hOb (s:PySem.W.SharedT):AlK:=B0J hFa hFn hEx hLs (HandSHeadRun.getT s)
theorem hOb_eq (s:PySem.W.SharedT):hOb s=hHk.obs s.abs:=C09 (HandSHeadRun.getT_eq s)
theorem hRun (w:World):HandSHeadRun.RunEq hR (PySem.W.view hR.prog [44]) hHk hOb 5000 hNms w:=by
  intro os
  kernel_rfl
end Ab
namespace Ab
open PySem PySem.Spec PyProof.Rows L2
open Builtin Builtin.ObjectAttr in
structure MroG (bm bmB:List Value):Prop where
  cont:∀X:String,bm.contains (.type X)=bmB.contains (.type X)
  pass:∀self:Value,refuseLoop self "__setattr__" bm=pure ()
  ne:bm.isEmpty=false
  ob:bmB.contains (.type "object")=true
open Builtin Builtin.ObjectAttr in
theorem MroG.cons {bm bmB:List Value} (m:MroG bm bmB) (c:Addr):MroG (.ref c::bm) bmB:=
  ⟨fun X=> by rw [List.contains_cons,m.cont];rfl,fun s=> by rw [refuseLoop_ref];exact m.pass s,rfl,m.ob⟩
theorem A8V {tl:List Value} (m:MroG tl tl):∀l:List Value,A4p tl l=true→MroG l tl:=by
  intro l
  induction l with
  | nil=> exact fun e=> (show ([]:List Value)=tl from beq_iff_eq.mp e)▸m
  | cons a r ih=>
    intro e
    cases a with
    | ref c=> exact (ih e).cons c
    | _=> rw [show (_::r:List Value)=tl from beq_iff_eq.mp e];exact m
theorem C3t:MroG tlV tlV:=⟨fun _=> rfl,fun s=> F.store_ValueError.passes s,rfl,by decide+kernel⟩
theorem C3W:MroG tlL tlL:=⟨fun _=> rfl,fun s=> by kernel_rfl,rfl,by decide+kernel⟩
theorem C3X:MroG tlI tlI:=⟨fun _=> rfl,fun s=> by kernel_rfl,rfl,by decide+kernel⟩
structure OexG (K:PySem.W.Frag) (C:Addr):Prop where
  cls:∃nm q N bs bm bmB B newId initId sn sub ab col dd k0 k1 k2 k3 k5,K.lookup C=some (excClassObj nm q C N bs bm true sn sub ab col dd k0 k1 k2 k3 k5 newId)∧ExcBaseFacts B newId initId bmB∧MroG bm bmB
  sa:PySem.W.findIn K (.ref C) "__setattr__"=some (some (.builtin "object.__setattr__"))
  exC:PySem.W.subIn K (.ref C) (.type "BaseException")=some true
  tyC:PySem.W.typeIn K (.ref C)=some (.type "type")
  kC:PySem.W.keepIn K (.ref C)=true
section
open Builtin Builtin.ObjectAttr
variable {prog:Program} {w:World} {A:Around} {E:Value→Shared→Prop} {R:Result→Shared→Prop} {hp:Heap} {g:Array GenState} {d:Drawn} {t:Nat} {os:OsState}
theorem B9t {K:PySem.W.Frag} {name:Str} {tk:Tok} {v:Value} {x C:Addr} {fv:Array Value} {cd:ClassData} {bmB:List Value} (X:K.In hp) (hx:hp.get? x=some { cls:= .ref C,data:= .fields fv }) (hcd:PySem.W.clsIn K C=some cd) (hm:MroG cd.mro bmB)
    (hh:cd.hasDict=true) (ha:PySem.W.findIn K (.ref C) name=some none)
    (hq:∀h' tk' dx,(∀b o,b≠x→hp.get? b=some o→h'.get? b=some o)→hp.objs.size≤dx→dx≠x→h'.get? x=some { cls:= .ref C,dict:=some dx,data:= .fields fv }→
      h'.Ns1 dx (fun y=> if y=name then some v else none)→R (.ok (.ret .none)) ⟨h',g,d,tk',os⟩):
    codeAny (model prog w) A (.call (.builtin "object.__setattr__") ⟨[.ref x,.str name tk,v],[]⟩) R ⟨hp,g,d,t,os⟩:=by
  have I:PySem.W.InstAt hp x { cls:= .ref C,data:= .fields fv } C none:=⟨hx,rfl,rfl,trivial⟩
  have SF:=F.store_object
  have ne:=hm.ne
  have hob:cd.mro.contains (.type "object")=true:=(hm.cont "object").trans hm.ob
  have hxs:x≠hp.objs.size:=Nat.ne_of_lt (Heap.lt_size hx)
  have sub:PySem.W.Looks (model prog w) hp (isInstance (.ref x) (.type "object")) true:=I.type.andThen (PySem.W.looks_mroIn X (by unfold PySem.W.mroIn;rw [hcd,Option.bind_some,if_neg (by rw [ne];decide),hob]))
  refine codeAny_call_builtin SF.slot.plain SF.entry (@PySem.W.check_slot (model prog w) _ _ ⟨hp,g,d,t,os⟩ "object.__setattr__" "object" "__setattr__" (.ref x) [.str name tk,v] [] _ SF.kind SF.split sub (SF.args (.ref x) (.str name tk) v) ?_)
  have hmr:PySem.W.Looks (model prog w) hp (mroOf (.ref C)) cd.mro:=(PySem.W.looks_clsIn X hcd).andThen .now
  have L3:PySem.W.Looks (model prog w) hp (storeTaker? none) none:= .now
  have hcls:PySem.W.Looks (model prog w) hp (classData C) cd:=PySem.W.looks_clsIn X hcd
  rw [PySem.W.osa_eq,refuse_eq]
  refine wpAny_bind (wpAny_bind (I.type.at (wpAny_bind (hmr.at ?_))))
  rw [hm.pass]
  refine wpAny_pure (wpAny_bind (I.type.at (wpAny_bind ((PySem.W.looks_findIn X ha).at (wpAny_bind (L3.at ?_))))))
  show wpAny _ _ (storeInOwnDict (.ref x) (.ref C) (.str name tk) name v false) _ _ _
  obtain ⟨nm,bs,mro,ns,qn,hd,sn,sb,ab,col,del⟩:=cd
  dsimp only at hh
  subst hh
  unfold storeInOwnDict ownDictForStores
  repeat (first | with_reducible refine PySem.HandSPX.store_in_new ?_ ?_ | with_reducible refine wpAny_loadPart_at hx ?_ | with_reducible refine hcls.at ?_ | wp_step)
  · exact ⟨_,#[],_,(Heap.get?_update_ne _ _ _ _ hxs.symm).trans (Heap.get?_push_at rfl rfl),rfl,fun e he=> absurd he (by simp),fun _=> rfl⟩
  · intro h' tk' hn' hs
    have hx₁:(hp.push { cls:= .type "dict",data:= .dict #[] }).get? x=some { cls:= .ref C,data:= .fields fv }:=Heap.get?_push_of_some _ hx
    refine hq h' tk' hp.objs.size (fun b o hb ho=> ?_) (Nat.le_refl _) hxs.symm ?_ hn'
    · exact (hs.2 b (Nat.ne_of_lt (Heap.lt_size ho))).trans ((Heap.get?_update_ne _ _ _ _ hb).trans (Heap.get?_push_of_some _ ho))
    · exact (hs.2 x hxs).trans (Heap.get?_update_self _ hx₁ rfl)
theorem B90 {K:PySem.W.Frag} {name:Str} {tk:Tok} {v:Value} {x C dx:Addr} {fv:Array Value} {cd:ClassData} {bmB:List Value} {m0:Str→Option Value} {nl:List Str} (X:K.In hp) (hx:hp.get? x=some { cls:= .ref C,dict:=some dx,data:= .fields fv }) (hns:hp.Ns1 dx m0)
    (hw:Within m0 nl) (hz:nl.length≤1000) (hcd:PySem.W.clsIn K C=some cd) (hm:MroG cd.mro bmB) (hh:cd.hasDict=true) (ha:PySem.W.findIn K (.ref C) name=some none)
    (hq:∀h' tk',(∀b o,b≠dx→hp.get? b=some o→h'.get? b=some o)→h'.Ns1 dx (fun y=> if y=name then some v else m0 y)→R (.ok (.ret .none)) ⟨h',g,d,tk',os⟩):
    codeAny (model prog w) A (.call (.builtin "object.__setattr__") ⟨[.ref x,.str name tk,v],[]⟩) R ⟨hp,g,d,t,os⟩:=by
  obtain ⟨oD,esD,epD,hoD,hdD,_⟩:=hns.count hw
  have I:PySem.W.InstAt hp x { cls:= .ref C,dict:=some dx,data:= .fields fv } C (some oD):=⟨hx,rfl,rfl,hoD⟩
  have SF:=F.store_object
  have ne:=hm.ne
  have hob:cd.mro.contains (.type "object")=true:=(hm.cont "object").trans hm.ob
  have sub:PySem.W.Looks (model prog w) hp (isInstance (.ref x) (.type "object")) true:=I.type.andThen (PySem.W.looks_mroIn X (by unfold PySem.W.mroIn;rw [hcd,Option.bind_some,if_neg (by rw [ne];decide),hob]))
  refine codeAny_call_builtin SF.slot.plain SF.entry (@PySem.W.check_slot (model prog w) _ _ ⟨hp,g,d,t,os⟩ "object.__setattr__" "object" "__setattr__" (.ref x) [.str name tk,v] [] _ SF.kind SF.split sub (SF.args (.ref x) (.str name tk) v) ?_)
  have hmr:PySem.W.Looks (model prog w) hp (mroOf (.ref C)) cd.mro:=(PySem.W.looks_clsIn X hcd).andThen .now
  have L3:PySem.W.Looks (model prog w) hp (storeTaker? none) none:= .now
  have hcls:PySem.W.Looks (model prog w) hp (classData C) cd:=PySem.W.looks_clsIn X hcd
  rw [PySem.W.osa_eq,refuse_eq]
  refine wpAny_bind (wpAny_bind (I.type.at (wpAny_bind (hmr.at ?_))))
  rw [hm.pass]
  refine wpAny_pure (wpAny_bind (I.type.at (wpAny_bind ((PySem.W.looks_findIn X ha).at (wpAny_bind (L3.at ?_))))))
  show wpAny _ _ (storeInOwnDict (.ref x) (.ref C) (.str name tk) name v false) _ _ _
  obtain ⟨nm,bs,mro,ns,qn,hd,sn,sb,ab,col,del⟩:=cd
  dsimp only at hh
  subst hh
  unfold storeInOwnDict ownDictForStores
  repeat (first | with_reducible refine PySem.OEX.store_in_old hns hw hz ?_ | with_reducible refine wpAny_loadPart_at hx ?_ | with_reducible refine hcls.at ?_ | wp_step)
  intro h' tk' hn' hs
  exact hq h' tk' (fun b o hb ho=> (hs.2 b hb).trans ho) hn'
end
section
variable {X:Cx} {pins:List (Addr×Obj)} {σ:L2.St} {H:Hp} {s:Shared} {a C dx:Addr} {f:Str} {y:V} {u:Value} {fs:List (Str×V)} {Q:Unit→Shared→Prop} {E:Value→Shared→Prop} {A:Around}
theorem OexG.data {K:PySem.W.Frag} (T:OexG K C):∃cd bmB,PySem.W.clsIn K C=some cd∧MroG cd.mro bmB∧cd.hasDict=true:=by
  obtain ⟨nm,q,N,bs,bm,bmB,B,ni,ii,sn,sub,ab,col,dd,k0,k1,k2,k3,k5,hC,_,hm⟩:=T.cls
  exact ⟨{ name:=nm,bases:=bs,mro:= .ref C::bm,ns:=N,qualname:=q,hasDict:=true,slotNames:=sn,subclasses:=sub,abstract:=ab,collection:=col,hasDel:=false },bmB,by unfold PySem.W.clsIn;rw [hC] <;> rfl,hm.cons C,rfl⟩
theorem B9V (T:OexG X.K C) (I:L2.Inv X pins σ H s) (e:H a=some (exo a C none)) (hno:PySem.W.findIn X.K (.ref C) f=some none) (ry:RelV y u)
    (h:∀dx s',H dx=none→dx≠a→L2.Inv X pins σ (upd (upd H dx (exd dx [(f,y)])) a (exo a C (some dx))) s'→Q () s'):wpAny (model X.prog X.w) A (setAttr (.ref a) f u) Q E s:=by
  obtain ⟨cd,bmB,hcl,hm,hh⟩:=T.data
  obtain ⟨t1,ho⟩:=exo_at I.hok e
  obtain ⟨hp,g,d,t,os⟩:=s
  refine PySem.W.set_plain I.kIn (ox:={ cls:= .ref C,dict:=none,data:= .fields #[.ref t1,.none,.none,.none,.bool false,.none] }) (od:=none) ⟨ho,rfl,rfl,trivial⟩ T.sa ?_
  refine B9t I.kIn ho hcl hm hh hno (fun h' tk' dx k dn dne hx hn=> ?_)
  have hnd:H dx=none:=I.hok.fresh dn
  have nd:∀{b:Addr} {o:Obj},hp.get? b=some o→b≠dx:=fun {b o} q=> Nat.ne_of_lt (Nat.lt_of_lt_of_le (Heap.lt_size q) dn)
  have na:∀{b:Addr},H b=none→b≠a:=fun {b} n z=> by
    rw [z,e] at n
    cases n
  have U1:Un X.fs [] H (upd (upd H dx (exd dx [(f,y)])) a (exo a C (some dx))) hp h':={
    keep:=fun b o q n _ _=> k b o (na n) q
    slot:=fun b o q n _ _=> ⟨o.slots,k b o (na n) q⟩
    free:=fun b o q n _=> by rw [upd_ne (na n),upd_ne (nd q)];exact n
    there:=fun b o q _=> by
      by_cases hb:b=a
      · exact ⟨_,by rw [hb];exact hx⟩
      · exact ⟨o,k b o hb q⟩
    tups:=fun b xs q=> by rw [upd_ne (at_ne e q exo_tup),upd_ne (ne_of_none q hnd)];exact q
    frzs:=fun b o v q=> by rw [upd_ne (at_ne e q exo_frz),upd_ne (ne_of_none q hnd)];exact q
    tbls:=fun b ps q=> ⟨#[],by rw [upd_ne (at_ne e q exo_tbl),upd_ne (ne_of_none q hnd),q];simp⟩ }
  refine h dx _ hnd dne (I.un (t':=tk') U1 fun b o q=> ?_)
  by_cases hb:b=a
  · subst hb
    rw [upd_same] at q
    cases q
    exact exo_ok hx
  rw [upd_ne hb] at q
  by_cases hd:b=dx
  · subst hd
    rw [upd_same] at q
    cases q
    exact exd_ok hn (relO_put (fs:=[]) ry fun g=> True.intro)
  rw [upd_ne hd] at q
  exact (I.hok b o q).stay (fun c v hc z=> k c v (by
      rcases hc with hc | hc
      · rw [hc];exact hb
      · exact at_ne e hc exo_own) z)
    (fun c hc=> by rw [upd_ne (at_ne e hc exo_own),upd_ne (ne_of_none hc hnd)];exact hc) (fun c xs hc=> by rw [upd_ne (at_ne e hc exo_tup),upd_ne (ne_of_none hc hnd)];exact hc)
theorem B9A (T:OexG X.K C) (I:L2.Inv X pins σ H s) (e:H a=some (exo a C (some dx))) (ed:H dx=some (exd dx fs)) (hl:fs.length≤900) (hno:PySem.W.findIn X.K (.ref C) f=some none) (ry:RelV y u)
    (h:∀s',L2.Inv X pins σ (upd H dx (exd dx ((f,y)::fs))) s'→Q () s'):wpAny (model X.prog X.w) A (setAttr (.ref a) f u) Q E s:=by
  obtain ⟨cd,bmB,hcl,hm,hh⟩:=T.data
  obtain ⟨t1,ho⟩:=exo_at I.hok e
  obtain ⟨mA,hns,rel⟩:=exd_at I.hok ed
  have hw:=within_of rel
  obtain ⟨hp,g,d,t,os⟩:=s
  obtain ⟨oD,_,_,hoD,_,_⟩:=hns.count hw
  refine PySem.W.set_plain I.kIn (ox:={ cls:= .ref C,dict:=some dx,data:= .fields #[.ref t1,.none,.none,.none,.bool false,.none] }) (od:=some oD) ⟨ho,rfl,rfl,hoD⟩ T.sa ?_
  refine B90 I.kIn ho hns hw (by rw [List.length_map];omega) hcl hm hh hno (fun h' tk' k hn=> ?_)
  have hd:∃o,h'.get? dx=some o:=by
    obtain ⟨o,_,_,e',_⟩:=hn
    exact ⟨o,e'⟩
  exact h _ (I.write (t':=tk') (x:=dx) (e:=dx) (o:=exd dx ((f,y)::fs)) (by rw [ed];exact True.intro) (.inl rfl) k hd (exd_ok hn (relO_put ry rel)))
end
def C3A (K:PySem.W.Frag) (f:Str) (to te:TE):TS:=fun D σ H=> te σ H fun y H1=> to σ H1 fun x H2=> ∃a C:Addr,x= .ref a∧OexG K C∧PySem.W.findIn K (.ref C) f=some none∧
  ((H2 a=some (exo a C none)∧∀dx,H2 dx=none→dx≠a→D.nx σ (upd (upd H2 dx (exd dx [(f,y)])) a (exo a C (some dx))))∨
    ∃(dx:Addr) (fs:List (Str×V)),H2 a=some (exo a C (some dx))∧H2 dx=some (exd dx fs)∧fs.length≤900∧D.nx σ (upd H2 dx (exd dx ((f,y)::fs))))
section
variable {X:Cx} {o e:Expr} {es:List Expr} {to te:TE} {ta:TA} {f:Str} {p p' pos:Pos}
theorem A28 (ho:PE X o to) (he:PE X e te) (hs:swapsWith e (some (.Attribute o f p')) pos.line X.env=pure false:=by rfl):PS X (.Assign [.Attribute o f p'] e pos) (C3A X.K f to te):=by
  refine ⟨fun pins s σ H D I h=> ?_⟩
  refine plainObj_wpAny_Assign_Attribute (thn (he.run pins s σ H _ I h) fun v s1 ⟨y,H1,I1,r1,q1⟩=> thn (ho.run pins s1 σ H1 _ I1 q1) fun u s2 ⟨x,H2,I2,r2,a,C,ex,T,hno,q⟩=> ?_) hs
  subst ex
  obtain rfl:u=Value.ref a:=r2
  rcases q with ⟨ea,q⟩ | ⟨dx,fs,ea,ed,hl,q⟩
  · exact B9V T I2 ea hno r1 fun dx s' n ne J=> ⟨σ,_,J,q dx n ne⟩
  · exact B9A T I2 ea ed hl hno r1 fun s' J=> ⟨σ,_,J,q⟩
abbrev MkG (C:Addr) (sp:Sp) (vs:List V) (H1:Hp) (Q:XK):Prop:=vs.length≤1000∧∀a,H1 a=none→sp (.ref a::vs) (upd H1 a (exo a C none))
  (fun v H2=> v= .non∧∃(d:Addr) (fs:List (Str×V)),H2 a=some (exo a C (some d))∧H2 d=some (exd d fs)∧H1 d=none∧Q (.ref C) (some d) (upd (L2.del H2 a) d (.xd fs))) (fun _ _ _=> False)
theorem B4O {CX:CXT} {C fI:Addr} {k:Nat} {fd:FuncData} {ps:List Str} {sp:Sp} {pins:List (Addr×Obj)} {s:Shared} {σ:L2.St} {H:Hp} {us:List Value} {vs:List V} {Q:XK} (T:OexG X.K C) (iC:PySem.W.findIn X.K (.ref C) "__init__"=some (some (.ref fI)))
    (tI:PySem.W.typeIn X.K (.ref fI)=some (.type "function")) (F1:FnOk X.prog X.w X.K X.mg X.base CX k fI fd ps sp) (hr:Room (k+1) X.A) (hb:Binds X.K fd ps []) (hx:Passes CX X (fun _ _ _=> False)) (I1:L2.Inv X pins σ H s) (r1:Vals vs us) (q1:MkG C sp vs H Q):
    wpAny (model X.prog X.w) X.A (call (.ref C) us) (MkP X pins σ Q) X.xe s:=by
  obtain ⟨nm,q,N,bs,bm,bmB,B,ni,ii,sn,sub,ab,col,dd,k0,k1,k2,k3,k5,hC,FB,hm⟩:=T.cls
  obtain ⟨hz,q1⟩:=q1
  obtain ⟨hp,g,dr,tk,os⟩:=s
  have hsz:hp.objs.size≤hp.objs.size+1:=Nat.le_succ _
  have hn:H (hp.objs.size+1)=none:=I1.hok.fresh hsz
  have hq:=q1 (hp.objs.size+1) hn
  have kk:∀b o,hp.get? b=some o→((hp.push (PySem.W.kdv_tup us)).push (PySem.HandSPX.excO C hp.objs.size)).get? b=some o:=fun b o e=> Heap.get?_push_of_some _ (Heap.get?_push_of_some _ e)
  have hget:((hp.push (PySem.W.kdv_tup us)).push (PySem.HandSPX.excO C hp.objs.size)).get? (hp.objs.size+1)=some (PySem.HandSPX.excO C hp.objs.size):=by heap_get
  have I2:L2.Inv X pins σ (upd H (hp.objs.size+1) (exo (hp.objs.size+1) C none)) ⟨(hp.push (PySem.W.kdv_tup us)).push (PySem.HandSPX.excO C hp.objs.size),g,dr,tk,os⟩:=
    I1.laid (t':=tk) (a:=hp.objs.size+1) (o:=exo (hp.objs.size+1) C none) (h':=(hp.push (PySem.W.kdv_tup us)).push (PySem.HandSPX.excO C hp.objs.size)) kk hsz (exo_ok hget)
  have r2:Vals (V.ref (hp.objs.size+1)::vs) (Value.ref (hp.objs.size+1)::us):= .cons rfl r1
  have hl:((Value.ref (hp.objs.size+1)::us)++[]).length=ps.length:=by
    have e:=r2.length
    rw [F1.len _ _ _ _ hq] at e
    rw [List.append_nil]
    exact e.symm
  have hus:us.length≤sizeLine:=by
    rw [←Paired.length r1,sizeLine_eq]
    omega
  have b2:=hb _ (Value.ref (hp.objs.size+1)::us) I2.kIn hl
  rw [List.append_nil] at b2
  refine wpAny_call (PySem.HandSPX.call_own FB hm.cont (I1.kIn _ _ hC) (PySem.W.looks_findIn I1.kIn iC) (fun self=> PySem.W.bind_fn I1.kIn self tI) hus
    (codeAny_mono (F1.run _ X.stack _ _ ⟨Value.ref (hp.objs.size+1)::us,[]⟩ (Value.ref (hp.objs.size+1)::us) _ _ (fun _ _ _=> False) (hr.make C us []) (I2.env0.make C us []) b2 r2 hq) fun r s' hq'=> ?_))
  cases r with
  | error er=> exact hx pins σ _ _ er s' I2 hq'
  | ok fl=>
    cases fl with
    | ret u=>
      obtain ⟨v,H2,os2,bare2,un2,hok2,rv,ev,d,fs,ea,ed,hd1,q2⟩:=hq'
      subst ev
      obtain ⟨h2,g2,d2,t2,os'⟩:=s'
      exact ⟨rv,mk_end (raises_own T.exC T.tyC) I1 hsz kk un2 hok2 os2 bare2 ea ed hd1 q2⟩
    | next=> exact False.elim hq'
    | brk=> exact False.elim hq'
    | cont=> exact False.elim hq'
def B5Q (C:Addr) (sp:Sp) (ta:TA):L2.St→Hp→XK→Prop:=fun σ H Q=> ta σ H fun vs H1=> MkG C sp vs H1 Q
theorem C3H {CX:CXT} {x:Str} {C fI:Addr} {k:Nat} {fd:FuncData} {ps:List Str} {sp:Sp} (T:OexG X.K C) (iC:PySem.W.findIn X.K (.ref C) "__init__"=some (some (.ref fI))) (tI:PySem.W.typeIn X.K (.ref fI)=some (.type "function"))
    (F1:FnOk X.prog X.w X.K X.mg X.base CX k fI fd ps sp) (hr:Room (k+1) X.A) (hb:Binds X.K fd ps []) (hx:Passes CX X (fun _ _ _=> False)) (hg:Gl X x) (hm:X.mg x=some (.ref C)) (ha:PA X (e::es) ta)
    (hdb:(x==("__debug__":Str))=false:=by decide) (he:starEach (e::es) X.env=(false,eval e X.env)::starEach es X.env:=by rfl) (hpl:(backTo pos (starEach es X.env)).any (·.1)=false:=by rfl):
    PMk X (.Call (.Name x p) (e::es) [] pos) (B5Q C sp ta):=by
  intro pins s σ H Q I h
  refine wpAny_Call_Name_kw (ld_glob I hg hm ?_ hdb)
  exact PySem.W.callWith_K (h₀:=X.base) I.ok.mod.kin T.kC (thn (ha.run pos pins s σ H _ I h) fun us s1 ⟨vs,H1,I1,r1,q1⟩=> ⟨I1.kIn,B4O T iC tI F1 hr hb hx I1 r1 q1⟩) he hpl
theorem C2w {CX:CXT} {x:Str} {C fI:Addr} {k:Nat} {fd:FuncData} {ps:List Str} {sp:Sp} (T:OexG X.K C) (iC:PySem.W.findIn X.K (.ref C) "__init__"=some (some (.ref fI))) (tI:PySem.W.typeIn X.K (.ref fI)=some (.type "function"))
    (F1:FnOk X.prog X.w X.K X.mg X.base CX k fI fd ps sp) (hr:Room (k+1) X.A) (hb:Binds X.K fd ps []) (hx:Passes CX X (fun _ _ _=> False)) (hg:Gl X x) (hm:X.mg x=some (.ref C)) (hdb:(x==("__debug__":Str))=false:=by decide):
    PMk X (.Call (.Name x p) [] [] pos) (B5Q C sp fun σ H K=> K [] H):=by
  intro pins s σ H Q I h
  refine wpAny_Call_Name_kw (ld_glob I hg hm ?_ hdb)
  exact PySem.W.callWith_K0 I.kIn T.kC (B4O T iC tI F1 hr hb hx I .nil h)
end
def initF {α:Type} (word:α) (fs:List Str) (vs:List α):List (Str×α):=(fs.zip vs).reverse++[(("word":Str),word)]
def A6s (C:Addr) (word:Str) (fs:List Str):Sp:=fun vs H Q _=> ∃a us,vs= .ref a::us∧us.length=fs.length∧H a=some (exo a C none)∧
  ∀d H2,H d=none→d≠a→H2 a=some (exo a C (some d))→H2 d=some (exd d (initF (V.str word) fs us))→(∀b,b≠a→b≠d→H2 b=H b)→Q .non H2
section
variable {P:Program} {w:World} {K:PySem.W.Frag} {mg:Str→Option Value} {base:Heap} {qual word f g:Str} {params:Arguments} {scope:Scope} {fI C:Addr} {fd:FuncData} {q1 q2 q3 q4 q5 q6 q7 q8 r5 r6 r7 r8:Pos} {j:Nat}
theorem C23 (F:FunD K "__init__" qual params [.Assign [.Attribute (.Name "self" q1) "word" q2] (.Constant (.str word) j q3) q4] scope [] [] fI fd) (S:FnScope ["self"] ["self"] scope)
    (T:OexG K C) (nw:PySem.W.findIn K (.ref C) "word"=some none):
    FnOk P w K mg base (L2.CX P w) 1 fI fd ["self"] (A6s C word []):=by
  have v0:Vis scope "self":=(S.par "self" (by simp)).imp id .inl
  refine F.ok S (fun vs H Q E ⟨a,us,e,l,_⟩=> by rw [e];simpa using l) fun cdv A outer s H vs Q E hr ⟨a,us,e,l,ea,q⟩=> ?_
  subst e
  obtain rfl:us=[]:=List.length_eq_zero_iff.mp l
  refine ⟨_,pss_one (A28 (pe_var (i:=0) rfl v0) pe_str),?_⟩
  refine ⟨.ref a,rfl,a,C,rfl,T,nw,.inl ⟨ea,fun d nd da=> ?_⟩⟩
  exact q d _ nd da upd_same (by rw [upd_ne da,upd_same];rfl) fun b h1 h2=> by rw [upd_ne h1,upd_ne h2]
theorem C3Q (F:FunD K "__init__" qual params [.Assign [.Attribute (.Name "self" q1) "word" q2] (.Constant (.str word) j q3) q4,.Assign [.Attribute (.Name "self" q5) f q6] (.Name f q7) q8] scope [] [] fI fd) (S:FnScope ["self",f] ["self",f] scope)
    (T:OexG K C) (nw:PySem.W.findIn K (.ref C) "word"=some none) (nf:PySem.W.findIn K (.ref C) f=some none) (hd:(f==("__debug__":Str))=false:=by decide) (hcd:(f==("__classdict__":Str))=false:=by decide):
    FnOk P w K mg base (L2.CX P w) 1 fI fd ["self",f] (A6s C word [f]):=by
  have v0:Vis scope "self":=(S.par "self" (by simp)).imp id .inl
  have v1:Vis scope f:=(S.par f (by simp)).imp id .inl
  refine F.ok S (fun vs H Q E ⟨a,us,e,l,_⟩=> by rw [e];simpa using l) fun cdv A outer s H vs Q E hr ⟨a,us,e,l,ea,q⟩=> ?_
  subst e
  obtain ⟨y,rfl⟩:∃y,us=[y]:=by
    match us,l with
    | [y],_=> exact ⟨y,rfl⟩
  refine ⟨_,pss_cons (A28 (pe_var (i:=0) rfl v0) pe_str) (pss_one (A28 (pe_var (i:=0) rfl v0) (pe_var (i:=1) rfl v1 hd hcd))),?_⟩
  refine ⟨.ref a,rfl,a,C,rfl,T,nw,.inl ⟨ea,fun d nd da=> ?_⟩⟩
  refine ⟨y,rfl,.ref a,rfl,a,C,rfl,T,nf,.inr ⟨d,_,upd_same,by rw [upd_ne da,upd_same],by simp,?_⟩⟩
  exact q d _ nd da (by rw [upd_ne (Ne.symm da),upd_same]) (by rw [upd_same];rfl) fun b h1 h2=> by rw [upd_ne h2,upd_ne h1,upd_ne h2]
theorem C2z (F:FunD K "__init__" qual params [.Assign [.Attribute (.Name "self" q1) "word" q2] (.Constant (.str word) j q3) q4,.Assign [.Attribute (.Name "self" q5) f q6] (.Name f q7) q8,.Assign [.Attribute (.Name "self" r5) g r6] (.Name g r7) r8] scope [] [] fI fd) (S:FnScope ["self",f,g] ["self",f,g] scope)
    (T:OexG K C) (nw:PySem.W.findIn K (.ref C) "word"=some none) (nf:PySem.W.findIn K (.ref C) f=some none) (ng:PySem.W.findIn K (.ref C) g=some none) (hd:(f==("__debug__":Str))=false:=by decide) (hcd:(f==("__classdict__":Str))=false:=by decide)
    (hd':(g==("__debug__":Str))=false:=by decide) (hcd':(g==("__classdict__":Str))=false:=by decide):
    FnOk P w K mg base (L2.CX P w) 1 fI fd ["self",f,g] (A6s C word [f,g]):=by
  have v0:Vis scope "self":=(S.par "self" (by simp)).imp id .inl
  have v1:Vis scope f:=(S.par f (by simp)).imp id .inl
  have v2:Vis scope g:=(S.par g (by simp)).imp id .inl
  refine F.ok S (fun vs H Q E ⟨a,us,e,l,_⟩=> by rw [e];simpa using l) fun cdv A outer s H vs Q E hr ⟨a,us,e,l,ea,q⟩=> ?_
  subst e
  obtain ⟨y,z,rfl⟩:∃y z,us=[y,z]:=by
    match us,l with
    | [y,z],_=> exact ⟨y,z,rfl⟩
  refine ⟨_,pss_cons (A28 (pe_var (i:=0) rfl v0) pe_str) (pss_cons (A28 (pe_var (i:=0) rfl v0) (pe_var (i:=1) rfl v1 hd hcd)) (pss_one (A28 (pe_var (i:=0) rfl v0) (pe_var (i:=2) rfl v2 hd' hcd')))),?_⟩
  refine ⟨.ref a,rfl,a,C,rfl,T,nw,.inl ⟨ea,fun d nd da=> ?_⟩⟩
  refine ⟨y,rfl,.ref a,rfl,a,C,rfl,T,nf,.inr ⟨d,_,upd_same,by rw [upd_ne da,upd_same],by simp,?_⟩⟩
  refine ⟨z,rfl,.ref a,rfl,a,C,rfl,T,ng,.inr ⟨d,_,by rw [upd_ne (Ne.symm da),upd_same],upd_same,by simp,?_⟩⟩
  exact q d _ nd da (by rw [upd_ne (Ne.symm da),upd_ne (Ne.symm da),upd_same]) (by rw [upd_same];rfl) fun b h1 h2=> by rw [upd_ne h2,upd_ne h2,upd_ne h1,upd_ne h2]
end
structure XkOk (P:Program) (w:World) (K:PySem.W.Frag) (mg:Str→Option Value) (base:Heap) (x word:Str) (fs:List Str):Prop where
  gl:mg x=some (.ref (He.ga K x))
  cls:OexG K (He.ga K x)
  ini:∃fI fd ps,PySem.W.findIn K (.ref (He.ga K x)) "__init__"=some (some (.ref fI))∧PySem.W.typeIn K (.ref fI)=some (.type "function")∧Binds K fd ps []∧FnOk P w K mg base (L2.CX P w) 1 fI fd ps (A6s (He.ga K x) word fs)
def m7 (E:AExc→A0→AH→Prop) (x word:Str) (fs:List Str) (t:E5):C0:=fun _ env h=> t env h fun ws env1 h1=> E ⟨x,initF (W.str word) fs ws⟩ env1 h1
theorem RepL.initF {K:PySem.W.Frag} {H:Hp} {word:Str}:∀{fs:List Str} {ws:List W} {vs:List V},RepL K H ws vs→ws.length=fs.length→FRep K H (initF (W.str word) fs ws) (initF (V.str word) fs vs):=fun {fs ws vs} r l=> by
  have lv:vs.length=fs.length:=by rw [←r.length,l]
  refine ⟨?_,?_⟩
  · unfold Ab.initF
    rw [List.map_append,List.map_append,List.map_reverse,List.map_reverse,List.map_fst_zip (by omega),List.map_fst_zip (by omega)]
    rfl
  · unfold Ab.initF
    rw [List.map_append,List.map_append,List.map_reverse,List.map_reverse,List.map_snd_zip (by omega),List.map_snd_zip (by omega)]
    refine RepL.append ?_ (.cons .str .nil)
    clear l lv
    induction ws generalizing vs with
    | nil=> rw [r.of_nil];exact .nil
    | cons w ws ih=>
      obtain ⟨v,t,rfl,a,b⟩:=r.of_cons
      rw [List.reverse_cons,List.reverse_cons]
      exact (ih b).append (.cons a .nil)
section
variable {X:Cx} {G:Gx} {x word:Str} {fs:List Str} {t:E5} {e:Expr} {es:List Expr} {E:AExc→A0→AH→Prop} {p pos pos2:Pos} {k:Nat}
theorem A1U (R:XkOk X.prog X.w X.K X.mg X.base x word fs) (gk:G.K=X.K) (hc:X.calm=true) (tk:Takes X (cW G E)) (hr:Room k X.A) (hk:2≤k) (hg:Gl X x) (ha:AN X G (e::es) fs.length t) (hl:fs.length≤900:=by decide)
    (hdb:(x==("__debug__":Str))=false:=by decide) (he:starEach (e::es) X.env=(false,eval e X.env)::starEach es X.env:=by rfl) (hpl:(backTo pos (starEach es X.env)).any (·.1)=false:=by rfl):
    AS X G (.Raise (some (.Call (.Name x p) (e::es) [] pos)) none pos2) (m7 E x word fs t):=by
  obtain ⟨fI,fd,ps,iC,tI,hb,F⟩:=R.ini
  refine ⟨fun D D' env h l q=> q,PS.imp (ps_raise hc tk (C3H R.cls iC tI F (hr.mono hk) hb (passes_call (W:=fun _ _ _ _=> False) takes0 fun _ _ _ _ z=> z) hg R.gl ha.aa.pa hdb he hpl)) fun D σ H ⟨env,h,Da,S,q,l⟩=> ?_⟩
  refine ⟨env,h,S,ha.aa.mono env h _ _ (fun ws env1 h1 ⟨wl,z⟩ vs H1 S1 x1 r1=> ?_) (ha.ln _ _ _ q)⟩
  have lv:vs.length=fs.length:=by rw [←r1.length,wl]
  refine ⟨by omega,fun a na=> ⟨a,vs,rfl,lv,upd_same,fun d H2 nd da e1 e2 e3=> ⟨rfl,d,_,e1,e2,?_,?_⟩⟩⟩
  · rw [upd_ne da] at nd;exact nd
  · have nd1:H1 d=none:=by rw [upd_ne da] at nd;exact nd
    have nw:New H1 (upd (L2.del H2 a) d (.xd (initF (V.str word) fs vs))):=fun p o ep=> by
      have pa:p≠a:=ne_of_none ep na
      have pd:p≠d:=ne_of_none ep nd1
      rw [upd_ne pd,del_ne pa,e3 p pa pd,upd_ne pa]
      exact ep
    refine ⟨⟨x,initF (W.str word) fs ws⟩,env1,h1,nw.bs S1,⟨by rw [gk],d,_,rfl,upd_same,RepL.initF (RepL.mono nw.keeps _ _ r1) wl⟩,z⟩
theorem B8V (R:XkOk X.prog X.w X.K X.mg X.base x word []) (gk:G.K=X.K) (hc:X.calm=true) (tk:Takes X (cW G E)) (hr:Room k X.A) (hk:2≤k) (hg:Gl X x) (hdb:(x==("__debug__":Str))=false:=by decide):
    AS X G (.Raise (some (.Call (.Name x p) [] [] pos)) none pos2) (m7 E x word [] aNil):=by
  obtain ⟨fI,fd,ps,iC,tI,hb,F⟩:=R.ini
  refine ⟨fun D D' env h l q=> q,PS.imp (ps_raise hc tk (C2w R.cls iC tI F (hr.mono hk) hb (passes_call (W:=fun _ _ _ _=> False) takes0 fun _ _ _ _ z=> z) hg R.gl hdb)) fun D σ H ⟨env,h,Da,S,q,l⟩=> ?_⟩
  refine ⟨Nat.zero_le _,fun a na=> ⟨a,[],rfl,rfl,upd_same,fun d H2 nd da e1 e2 e3=> ⟨rfl,d,_,e1,e2,?_,?_⟩⟩⟩
  · rw [upd_ne da] at nd;exact nd
  · have nd1:H d=none:=by rw [upd_ne da] at nd;exact nd
    have nw:New H (upd (L2.del H2 a) d (.xd (initF (V.str word) [] []))):=fun p o ep=> by
      have pa:p≠a:=ne_of_none ep na
      have pd:p≠d:=ne_of_none ep nd1
      rw [upd_ne pd,del_ne pa,e3 p pa pd,upd_ne pa]
      exact ep
    refine ⟨⟨x,initF (W.str word) [] []⟩,env,h,nw.bs S,⟨by rw [gk],d,_,rfl,upd_same,RepL.initF .nil rfl⟩,q⟩
end
end Ab
namespace Ab
open PySem PySem.Spec PyProof.Rows L2
abbrev A1b:=Addr→Value→Option Addr→TS
def A47 (K:PySem.W.Frag) (Wout:WX) (D:Ends):List (Value×Nat×A1b)→WX
  | []=> Wout
  | (c,i,u)::r=> fun cls d σ H=> ∃b,PySem.W.exmOne K cls c=some b∧
      (b=true→∀x,H x=none→u x cls d { nx:=fun σ1 H1=> D.nx (σ1.set i none) H1,rt:=D.rt,bk:=fun σ1 H1=> D.bk (σ1.set i none) H1,ct:=fun σ1 H1=> D.ct (σ1.set i none) H1 } (σ.set i (some (.ref x))) H)∧
      (b=false→A47 K Wout D r cls d σ H)
inductive HdsAs (X:Cx):List ExceptHandler→List (Value×Nat×A1b)→Prop where
  | nil:HdsAs X [] []
  | cons {x n:Str} {c:Value} {i:Nat} {b:Stmt} {suite:List Stmt} {np pos:Pos} {u:A1b} {hds:List ExceptHandler} {l:List (Value×Nat×A1b)} (hi:X.N[i]? =some n) (hln:X.env.kindOf n=some .local) (hc:Names X x c)
      (hsu:∀(a:Addr) (oe:Obj) (cls:Value) (d:Option Addr) (pn:List (Addr×Obj)),Zc cls d oe→(∃vs,oe.data= .fields vs)→PSs (X.suite a ((a,oe)::pn)) (b::suite) (u a cls d)) (t:HdsAs X hds l):
      HdsAs X (.ExceptHandler (some (.Name x np)) (some n) (b::suite) pos::hds) ((c,i,u)::l)
section
variable {X:Cx} {pins:List (Addr×Obj)} {s:Shared} {Wout:WX} {D:Ends}
theorem C3M {B h:Heap} {sI:Shared} {pinsI:List (Addr×Obj)} {σ:L2.St} {H:Hp} {a:Addr} {cls:Value} {d:Option Addr} (stk:X.stack=X.env::X.outer) (fr:X.env.frame=some X.env.locals) (nd:X.N.Nodup) (tk:Takes X Wout) (ok:X.Ok)
    (J:L2.Inv X pins σ H sI) (kb:∀b o,sI.heap.get? b=some o→b∉frs X.stack→B.get? b=some o) (up:sI.heap.UpToSlots s.heap) (na:H a=none) (os:s.os=sI.os) (ag:AllBare s.gens)
    (fl:HandSPX.FlyingZ B (X.env::X.outer) a (Zc cls d) h) (uph:s.heap.UpToSlots h) (hk:X.A.frames=some (X.env::X.outer)):
    ∀{hds:List ExceptHandler} {l:List (Value×Nat×A1b)},HdsAs X hds l→A47 X.K Wout D l cls d σ H→wpAny (model X.prog X.w) X.A (handleBy (.ref a) X.env hds) (SP X pins D) X.xe { s with heap:=h }:=by
  intro hds l hh
  induction hh with
  | nil=>
    intro wish
    have wish:Wout cls d σ H:=wish
    refine wpAny_handleBy_nil ?_
    obtain ⟨_,_,_,ox,xs,T,oT,_,hx,_,hdx,h1x,_⟩:=id fl
    unfold PySem.passOn
    refine wpAny_bind (wpAny_field hx hdx h1x ?_)
    rw [if_neg (by simp:¬((Value.ref T==Value.none)=true))]
    have away:wpAny (model X.prog X.w) X.A (setFlight (.ref a) X.env.frame) (fun _ r=> wpAny (model X.prog X.w) X.A (throw (.ref a):Sem Flow) (SP X pins D) X.xe r) X.xe { s with heap:=h }:=by
      rw [fr]
      refine HandSPX.setFlight_upZ fl fun g hg ug=> wpAny_throw (tk _ _ ?_)
      exact ⟨a,B,sI,pins,σ,H,cls,d,rfl,J,kb,(up.trans uph).trans ug,.inr (.inr (by rw [stk];exact hg)),na,os,ag,wish⟩
    first
      | exact wpAny_bind (wpAny_pure (wpAny_bind away))
      | exact wpAny_bind away
  | cons hi hln hc hsu t ih=>
    rename_i x n c i b suite np pos u hds l
    intro wish
    obtain ⟨y,hy,yes,no⟩:=wish
    have lc:Loc X.env.scope n:= .inl hln
    have J1:L2.Inv X pins σ H { s with heap:=h }:=J.landed kb fl.1 (up.trans uph) os ag
    obtain ⟨ox,xs,hx,hzx,hdx⟩:=fl.there
    have off:∀{g:Heap} {o:Obj} {vs:Array Value},g.FunFrames B (X.env::X.outer)→g.get? a=some o→o.data= .fields vs→a∉frs (X.env::X.outer):=fun {g o vs} ff e dd hm=> by
      obtain ⟨_,o1,e1,nf⟩:=ff.mem hm
      rw [e] at e1;cases e1
      exact nf _ dd
    have offA:=off fl.2.2.1 hx hdx
    have aL:a≠X.env.locals:=fun z=> offA (List.mem_filterMap.mpr ⟨X.env,List.mem_cons_self,by rw [fr,z]⟩)
    have aF:a∉X.fs:=fun hm=> by
      obtain ⟨e,he,q⟩:=List.mem_filterMap.mp hm
      exact offA (List.mem_filterMap.mpr ⟨e,List.mem_cons_of_mem _ he,q⟩)
    have J2:=J1.suite hx hdx na aL aF
    have ty:PySem.W.Looks (model X.prog X.w) h (typeOf (.ref a)) cls:=fun A Q E s k q=> wpAny_typeOf_ref (k _ _ hx) (by rw [hzx.1];exact q)
    have hit:=PySem.W.exm_one (M:=model X.prog X.w) (J1.kIn) ty hy
    have named:∀{Q:Value→Shared→Prop} {E:Value→Shared→Prop},Q c { s with heap:=h }→wpAny (model X.prog X.w) (X.A.mark (some (.ref a))) (eval (.Name x np) X.env) Q E { s with heap:=h }:=fun {Q E} q=> by
      obtain ⟨g1,g2,g3 | ⟨g3,g4,g5⟩⟩:=hc
      · exact ld_glob (X:=X.suite a ((a,ox)::(X.pn++pins))) J2 g1 g3 q g2
      · exact ld_blt (X:=X.suite a ((a,ox)::(X.pn++pins))) J2 g1 g3 g4 q g5 g2
    refine wpAny_handleBy_cons (codeAny_handlers_test (named (hit.here ?_))) (by intro z;cases z)
    cases y with
    | false=> exact ih (no rfl)
    | true=>
      refine codeAny_handlers_suite_as (HandSPX.lands_againZ fl fun g flg ug=> ?_)
      have J3:L2.Inv X pins σ H { s with heap:=g }:=J.landed kb flg.1 ((up.trans uph).trans ug) os ag
      obtain ⟨oy,ys,hoy,hzy,hdy⟩:=flg.there
      have J4:=J3.suite hoy hdy na aL aF
      refine store_ok (X:=X.suite a ((a,oy)::(X.pn++pins))) (v:= .ref a) J4 nd hi lc rfl (fun s5 J5=> ?_) (.inr hln)
      refine wpAny_mono ((hsu a oy cls d (X.pn++pins) hzy ⟨_,hdy⟩).run [] s5 _ H _ J5 (yes rfl a na)) (fun f s6 done=> ?_) (fun _ _ z=> False.elim z)
      have shut:∀{σ6:L2.St} {H6:Hp} {Q:Shared→Prop},L2.Inv (X.suite a ((a,oy)::(X.pn++pins))) [] σ6 H6 s6→(∀s7,L2.Inv X pins (σ6.set i none) H6 s7→Q s7)→
          wpAny (model X.prog X.w) X.A (do bindName X.env n .none;unbindBehindTheSuite X.env n pos) (fun _ s7=> Q s7) X.xe s6:=fun {σ6 H6 Q} J6 hq=> gone_ok (J6.unsuite ok) nd hi hln hq
      cases f with
      | next=>
        obtain ⟨σ6,H6,J6,q6⟩:=done
        exact shut J6 fun s7 J7=> ⟨_,_,J7,q6⟩
      | brk=>
        obtain ⟨σ6,H6,J6,q6⟩:=done
        exact shut J6 fun s7 J7=> ⟨_,_,J7,q6⟩
      | cont=>
        obtain ⟨σ6,H6,J6,q6⟩:=done
        exact shut J6 fun s7 J7=> ⟨_,_,J7,q6⟩
      | ret v=>
        obtain ⟨v6,σ6,H6,J6,r6,q6⟩:=done
        exact shut J6 fun s7 J7=> ⟨_,_,_,J7,r6,q6⟩
theorem C0y {body:List Stmt} {h₀:ExceptHandler} {hds:List ExceptHandler} {l:List (Value×Nat×A1b)} {tb:WX→TS} {pos:Pos} (stk:X.stack=X.env::X.outer) (fr:X.env.frame=some X.env.locals) (nd:X.N.Nodup) (tk:Takes X Wout)
    (hb:∀(W:WX) (pn:List (Addr×Obj)) (xe:Value→Shared→Prop),Takes (X.tr pn xe) W→PSs (X.tr pn xe) body (tb W)) (hh:HdsAs X (h₀::hds) l):
    PS X (.Try body (h₀::hds) [] [] pos) (fun D σ H=> tb (A47 X.K Wout D l) D σ H):=by
  refine ⟨fun pins s σ H D I q=> ?_⟩
  have ok:=I.ok
  have hk:X.A.frames=some (X.env::X.outer):=by rw [ok.frames,stk]
  refine wpAny_Try_except ?_
  have tkb:Takes (X.tr (X.pn++pins) fun e r=> wpAny (model X.prog X.w) X.A (noteFrame e X.env) (fun _ r2=> wpAny (model X.prog X.w) X.A (setFlight e none) (fun _ r3=>
      wpAny (model X.prog X.w) X.A (handleBy e X.env (h₀::hds)) (SP X pins D) X.xe r3) X.xe r2) X.xe r) (A47 X.K Wout D l):=fun e r xx=> by
    obtain ⟨a,B,sI,pinsI,σ1,H1,cls,d,rfl,J1,kb,up,sky,na,os,ag,wish⟩:=xx
    have J:L2.Inv X pins σ1 H1 sI:=J1.ofTry ok
    have sky1:Sky B (X.env::X.outer) a (Zc cls d) X.env.locals r.heap:=by rw [←stk];exact sky
    change wpAny (model X.prog X.w) X.A (noteFrame (.ref a) X.env) _ _ _
    exact Sky.land Zc.steady hk fr sky1 fun h fl uph=> C3M (pinsI:=pinsI) stk fr nd tk ok J kb up na os ag fl uph hk hh wish
  refine wpAny_mono ((hb _ _ _ tkb).run [] s σ H D (I.toTry _) q) (fun f s1 done=> ?_) fun e s1 he=> he
  cases f with
  | next=>
    obtain ⟨σ1,H1,J1,z⟩:=done
    exact wpAny_execs_nil ⟨σ1,H1,J1.ofTry ok,z⟩
  | brk=>
    obtain ⟨σ1,H1,J1,z⟩:=done
    exact ⟨σ1,H1,J1.ofTry ok,z⟩
  | cont=>
    obtain ⟨σ1,H1,J1,z⟩:=done
    exact ⟨σ1,H1,J1.ofTry ok,z⟩
  | ret u=>
    obtain ⟨v,σ1,H1,J1,r,z⟩:=done
    exact ⟨v,σ1,H1,J1.ofTry ok,r,z⟩
end
end Ab
namespace Ab
open PySem PySem.Spec PyProof.Rows L2
abbrev XT:=AExc→(W→Prop)→Prop
def E4 (f:Str):XT:=fun x K=> ∃w,x.fs.lookup f=some w∧K w
abbrev XTs:=AExc→(List W→Prop)→Prop
def O5:XTs:=fun _ K=> K []
def F3 (a:XT) (b:XTs):XTs:=fun x K=> a x fun w=> b x fun ws=> K (w::ws)
def O4 (a:XTs):XT:=fun x K=> a x fun ws=> ws.length≤sizeLine∧K (.tup ws)
def A4u (t:XT):Prop:=∀x K K',(∀w,K w→K' w)→t x K→t x K'
def A4e (t:XTs):Prop:=∀x K K',(∀w,K w→K' w)→t x K→t x K'
structure XS (G:Gx) (i:Nat) (a:Addr) (cls:Value) (d:Option Addr) (x:AExc) (env:A0) (h:AH) (σ:L2.St) (H:Hp):Prop where
  bs:BS G env h σ H
  at_:σ[i]? =some (some (V.ref a))
  rep:XRep G.K H x cls d
theorem XRep.new {K:PySem.W.Frag} {H H':Hp} {x:AExc} {cls:Value} {d:Option Addr} (n:New H H') (r:XRep K H x cls d):XRep K H' x cls d:=by
  obtain ⟨e,dd,vs,ed,ea,f1,f2⟩:=r
  exact ⟨e,dd,vs,ed,n _ _ ea,f1,RepL.mono n.keeps _ _ f2⟩
structure XV (X:Cx) (G:Gx) (i:Nat) (ks:List Str) (e:Expr) (t:XT):Prop where
  mono:A4u t
  pe:∀(a:Addr) (oe:Obj) (cls:Value) (d:Option Addr) (pn:List (Addr×Obj)),Zc cls d oe→(∃vs,oe.data= .fields vs)→PE (X.suite a ((a,oe)::pn)) e (fun σ H Q=> ∃x env h,XS G i a cls d x env h σ H∧x.n∈ks∧
    t x fun w=> ∀v H',New H H'→Rep G.K H' w v→Q v H')
structure XVs (X:Cx) (G:Gx) (i:Nat) (ks:List Str) (es:List Expr) (t:XTs):Prop where
  mono:A4e t
  pa:∀(a:Addr) (oe:Obj) (cls:Value) (d:Option Addr) (pn:List (Addr×Obj)),Zc cls d oe→(∃vs,oe.data= .fields vs)→PA (X.suite a ((a,oe)::pn)) es (fun σ H Q=> ∃x env h,XS G i a cls d x env h σ H∧x.n∈ks∧
    t x fun ws=> ∀vs H',New H H'→RepL G.K H' ws vs→Q vs H')
theorem FRep.lookup {K:PySem.W.Frag} {H:Hp}:∀{fs:List (Str×W)} {vs:List (Str×V)} {f:Str} {w:W},FRep K H fs vs→fs.lookup f=some w→∃v,vs.lookup f=some v∧Rep K H w v
  | [],_,_,_,_,e=> by cases e
  | (g,x)::fs,vs,f,w,⟨n,r⟩,e=> by
    obtain ⟨v,t,ev,rv,rt⟩:=RepL.of_cons (K:=K) (H:=H) r
    cases vs with
    | nil=> cases ev
    | cons p vs=>
      obtain ⟨g',y⟩:=p
      simp only [List.map_cons,List.cons.injEq] at n ev
      obtain ⟨n1,n2⟩:=n
      obtain ⟨v1,v2⟩:=ev
      subst n1 v1 v2
      rw [List.lookup_cons] at e ⊢
      cases q:(f==g) with
      | true=>
        rw [q] at e
        cases e
        exact ⟨_,rfl,rv⟩
      | false=>
        rw [q] at e
        exact FRep.lookup (fs:=fs) (vs:=vs) ⟨n2,rt⟩ e
section
variable {X:Cx} {G:Gx} {i:Nat} {ks:List Str} {n f:Str} {p pos:Pos} {e:Expr} {es:List Expr}
theorem Y6 (gk:G.K=X.K) (T:∀c∈ks,XfC X.K (He.ga X.K c)∧PySem.W.findIn X.K (.ref (He.ga X.K c)) f=some none) (hi:X.N[i]? =some n) (hv:Vis X.env.scope n) (hd:(n==("__debug__":Str))=false:=by decide) (hcd:(n==("__classdict__":Str))=false:=by decide)
    (hb:attributeBase (.Name n p) f X.env (eval (.Name n p) X.env)=eval (.Name n p) X.env:=by rfl):XV X G i ks (.Attribute (.Name n p) f pos) (E4 f):=by
  refine ⟨fun x K K' k ⟨w,e,q⟩=> ⟨w,e,k _ q⟩,fun a oe cls d pn hz hf=> ⟨fun pins s σ H Q I ⟨x,env,h,S,hk,w,el,q⟩=> ?_⟩⟩
  obtain ⟨t1,t2⟩:=T x.n hk
  obtain ⟨ec,dd,vs,ed,ea,fr⟩:=S.rep
  obtain ⟨v,lv,rv⟩:=FRep.lookup fr el
  refine (pe_xf (C:=He.ga X.K x.n) (n:=f) t1 t2 hz hf (pe_var (X:=X.suite a ((a,oe)::pn)) (i:=i) hi hv hd hcd) hb).run pins s σ H Q I ?_
  exact ⟨.ref a,S.at_,rfl,by rw [ec,gk],dd,vs,v,ed,ea,lv,q v H (New.refl H) rv⟩
theorem A2K:XVs X G i ks [] O5:=⟨fun x K K' k q=> k _ q,fun a oe cls d pn hz hf=> PA.imp pa_nil fun σ H Q ⟨x,env,h,S,_,q⟩=> q [] H (New.refl H) .nil⟩
theorem d9 {t:XT} {u:XTs} (a:XV X G i ks e t) (b:XVs X G i ks es u) (hs:starEach (e::es) X.env=(false,eval e X.env)::starEach es X.env:=by rfl):XVs X G i ks (e::es) (F3 t u):=by
  refine ⟨fun x K K' k q=> a.mono x _ _ (fun w z=> b.mono x _ _ (fun ws y=> k _ y) z) q,fun ad oe cls d pn hz hf=> PA.imp (pa_cons (a.pe ad oe cls d pn hz hf) (b.pa ad oe cls d pn hz hf) hs) fun σ H Q ⟨x,env,h,S,hk,q⟩=> ?_⟩
  refine ⟨x,env,h,S,hk,a.mono x _ _ (fun w z v H1 n1 r1=> ?_) q⟩
  refine ⟨x,env,h,⟨n1.bs S.bs,S.at_,S.rep.new n1⟩,hk,b.mono x _ _ (fun ws y vs H2 n2 r2=> ?_) z⟩
  exact y (v::vs) H2 (fun p o e=> n2 p o (n1 p o e)) (.cons (Rep.mono n2.keeps _ _ r1) r2)
theorem A2S {t:XTs} {x1:Nat} (a:XVs X G i ks es t):XV X G i ks (.Tuple es x1 pos) (O4 t):=by
  refine ⟨fun x K K' k q=> a.mono x _ _ (fun ws z=> ⟨z.1,k _ z.2⟩) q,fun ad oe cls d pn hz hf=> PE.imp (pe_tup (a.pa ad oe cls d pn hz hf)) fun σ H Q ⟨x,env,h,S,hk,q⟩=> ?_⟩
  refine ⟨x,env,h,S,hk,a.mono x _ _ (fun ws ⟨l,z⟩ vs H1 n1 r1=> ⟨by rw [←r1.length];exact l,fun p np=> ?_⟩) q⟩
  have nw:New H1 (upd H1 p (.tup vs)):=New.upd np
  exact z (.ref p) _ (fun b o e=> nw b o (n1 b o e)) (.tup (.inl upd_same) (RepL.mono nw.keeps _ _ r1))
end
abbrev HdL:=List (Str×Nat×Nat×XT)
def A1Y (ks:List Str):HdL→(AExc→A0→AH→Prop)→AEnds→AExc→A0→AH→Prop
  | [],E,_=> E
  | (c,i,j,sv)::r,E,D=> fun x env h=> x.n∈ks∧i < env.length∧if K4 x.n c=true then sv x (fun w=> D.nx ((env.set j (some (.val w))).set i none) h) else A1Y ks r E D x env h
def A4s (env:A0):Bool:=env.all fun o=> match o with
  | some (.own _)=> false
  | _=> true
def A45 (ks:List Str) (hs:HdL) (E:AExc→A0→AH→Prop) (t:(AExc→A0→AH→Prop)→C0):C0:=fun D env h=> A4s env=true∧∃Ein,(∀x e k,Ein x e k→A1Y ks hs E D x e k)∧t Ein D env h
theorem B2t {env:A0} (h:A4s env=true) {i:Nat} {c:Cont} (e:env[i]? =some (some (.own c))):False:=by
  have z:=List.all_eq_true.mp h _ (List.mem_of_getElem? e)
  cases z
theorem BS.unset {G:Gx} {env:A0} {h:AH} {σ:L2.St} {H:Hp} (S:BS G env h σ H) (i:Nat):BS G (env.set i none) h (σ.set i none) H:=by
  have at_:∀{j:Nat} {sv:SV},(env.set i none)[j]? =some (some sv)→j≠i∧env[j]? =some (some sv):=fun {j sv} e=> by
    by_cases z:i=j
    · subst z
      by_cases l:i < env.length
      · rw [List.getElem?_set_self l] at e;cases e
      · rw [List.getElem?_eq_none (by rw [List.length_set];omega)] at e;cases e
    · rw [List.getElem?_set_ne z] at e
      exact ⟨Ne.symm z,e⟩
  have out:∀{j:Nat},j≠i→(σ.set i none)[j]? =σ[j]? :=fun {j} z=> List.getElem?_set_ne (Ne.symm z)
  refine ⟨by rw [List.length_set,List.length_set];exact S.len,fun j w e=> ?_,fun j c e=> ?_,fun j k c c' p e1 e2 f1 f2=> ?_,S.hp,S.fr,S.ext,S.tr,S.tabs⟩
  · obtain ⟨n,e⟩:=at_ e
    rw [out n];exact S.val j w e
  · obtain ⟨n,e⟩:=at_ e
    rw [out n];exact S.own j c e
  · obtain ⟨n1,e1⟩:=at_ e1
    obtain ⟨n2,e2⟩:=at_ e2
    rw [out n1] at f1
    rw [out n2] at f2
    exact S.uni j k c c' p e1 e2 f1 f2
theorem BS.into {G:Gx} {env:A0} {h:AH} {σ:L2.St} {H:Hp} (S:BS G env h σ H) (no:A4s env=true):BS ⟨G.K,h,H⟩ env h σ H:=
  ⟨S.len,S.val,fun i c e=> (B2t no e).elim,fun i j c c' p e=> (B2t no e).elim,S.hp,fun p o e _ _=> e,fun a o e n=> (by have n:h a=none:=n;rw [n] at e;cases e),fun p o e=> ⟨o,e⟩,S.tabs⟩
theorem BS.outof {G:Gx} {env env':A0} {h h':AH} {σ σ':L2.St} {H H':Hp} (S:BS G env h σ H) (T:BS ⟨G.K,h,H⟩ env' h' σ' H'):BS G env' h' σ' H':=by
  have up:∀{p:Addr},H p=none→G.H0 p=none:=fun {p} n=> by
    cases q:G.H0 p with
    | none=> rfl
    | some o=> obtain ⟨u,e⟩:=S.tr p o q;rw [n] at e;cases e
  refine ⟨T.len,T.val,fun i c e=> ?_,T.uni,T.hp,fun p o e n y=> ?_,fun a o e n=> ?_,fun p o e=> ?_,T.tabs⟩
  · obtain ⟨p,a,b,x,y⟩:=T.own i c e
    exact ⟨p,a,b,x,up y⟩
  · have hn:h p=none:=by
      cases q:h p with
      | none=> rfl
      | some u=> have z:=S.ext p u q n;rw [z] at e;cases e
    exact T.fr p o (S.fr p o e n y) hn y
  · cases q:h a with
    | some u=> exact S.ext a u q n
    | none=> exact up (T.ext a o e q)
  · obtain ⟨u,q⟩:=S.tr p o e
    exact T.tr p u q
theorem BS.keeps {K:PySem.W.Frag} {G:Gx} {env env':A0} {h h':AH} {σ σ':L2.St} {H H':Hp} (S:BS G env h σ H) (T:BS ⟨K,h,H⟩ env' h' σ' H'):Keeps H H':=fun p o e i=> T.fr p o e (S.imm e i).1 i.nt
inductive HdA (X:Cx) (ks:List Str):List ExceptHandler→HdL→Prop where
  | nil:HdA X ks [] []
  | cons {c n y:Str} {i j:Nat} {e:Expr} {np py pos pos':Pos} {sv:XT} {hds:List ExceptHandler} {l:HdL} (hi:X.N[i]? =some n) (hln:X.env.kindOf n=some .local) (hg:Gl X c) (hm:X.mg c=some (.ref (He.ga X.K c)))
      (ex:∀k∈ks,PySem.W.exmOne X.K (.ref (He.ga X.K k)) (.ref (He.ga X.K c))=some (K4 k c)) (hj:X.N[j]? =some y) (hy:Loc X.env.scope y) (fy:X.fn y=true∨X.env.scope.names.lookup y=some .local) (ne:i≠j)
      (hv:∀G:Gx,G.K=X.K→XV X G i ks e sv) (hs:swapsWithSole [.Name y py] e pos.line X.env=pure false) (hw:swappedStores [.Name y py] e X.env=pure none) (h1:(assignEach [.Name y py] X.env).map (·.2)=[assign (.Name y py) X.env])
      (hdb:(c==("__debug__":Str))=false) (t:HdA X ks hds l):HdA X ks (.ExceptHandler (some (.Name c np)) (some n) [.Assign [.Name y py] e pos] pos'::hds) ((c,i,j,sv)::l)
def uTs (K:PySem.W.Frag) (ks:List Str) (i j:Nat) (sv:XT):A1b:=fun a cls d D σ H=> ∃G x env h,G.K=K∧XS G i a cls d x env h σ H∧x.n∈ks∧sv x fun w=> ∀v H',New H H'→Rep G.K H' w v→D.nx (σ.set j (some v)) H'
def B0I (K:PySem.W.Frag) (ks:List Str):HdL→List (Value×Nat×A1b)
  | []=> []
  | (c,i,j,sv)::r=> (.ref (He.ga K c),i,uTs K ks i j sv)::B0I K ks r
theorem HdA.low {X:Cx} {ks:List Str} (nd:X.N.Nodup) {hds:List ExceptHandler} {l:HdL} (hh:HdA X ks hds l):HdsAs X hds (B0I X.K ks l):=by
  induction hh with
  | nil=> exact .nil
  | cons hi hln hg hm ex hj hy fy ne hv hs hw h1 hdb t ih=>
    refine .cons hi hln ⟨hg,hdb,.inl hm⟩ (fun a oe cls d pn hz hf=> ?_) ih
    have pe:PE (X.suite a ((a,oe)::pn)) _ (fun σ H Q=> ∃G x env h,G.K=X.K∧XS G _ a cls d x env h σ H∧x.n∈ks∧_):=⟨fun pins s σ H Q I ⟨G,x,env,h,gk,r⟩=> ((hv G gk).pe a oe cls d pn hz hf).run pins s σ H Q I ⟨x,env,h,r⟩⟩
    refine pss_one (PS.imp (ps_asg pe (pg_name (X:=X.suite a ((a,oe)::pn)) nd hj hy fy) hs hw h1) fun D σ H ⟨G,x,env,h,gk,S,hk,q⟩=> ?_)
    exact ⟨G,x,env,h,gk,S,hk,(hv G gk).mono x _ _ (fun w z v H1 n1 r1=> z v H1 n1 r1) q⟩
section
variable {X:Cx} {G:Gx} {ks:List Str} {hs:HdL} {body:List Stmt} {h₀:ExceptHandler} {hds:List ExceptHandler} {t:(AExc→A0→AH→Prop)→C0} {E:AExc→A0→AH→Prop} {pos:Pos}
theorem B8Q {D D':AEnds}:∀{hds:List ExceptHandler} {hs:HdL},HdA X ks hds hs→(∀e k,D.nx e k→D'.nx e k)→∀x e k,A1Y ks hs E D x e k→A1Y ks hs E D' x e k:=by
  intro hds hs hh l
  induction hh with
  | nil=> exact fun x e k z=> z
  | cons hi hln hg hm ex hj hy fy ne hv hs' hw h1 hdb t ih=>
    rename_i c n y i j e' np py pos pos' sv hds l'
    intro x e k ⟨z1,z2,z3⟩
    refine ⟨z1,z2,?_⟩
    by_cases b:K4 x.n c=true
    · rw [if_pos b] at z3 ⊢
      exact (hv ⟨X.K,(fun _=> none),(fun _=> none)⟩ rfl).mono x _ _ (fun w z=> l _ _ z) z3
    · rw [if_neg b] at z3 ⊢
      exact ih x e k z3
theorem B8o (gk:G.K=X.K) {G':Gx} {Da:AEnds} {D:Ends} {env0:A0} {h0:AH} {σ0:L2.St} {H0:Hp} (S0:BS G env0 h0 σ0 H0) (eg:G'=⟨G.K,h0,H0⟩) (l:Link G H0 Da D):
    ∀{hds:List ExceptHandler} {hs:HdL},HdA X ks hds hs→∀(x:AExc) (env:A0) (h:AH) (σ:L2.St) (H:Hp) (cls:Value) (d:Option Addr),BS G' env h σ H→XRep G'.K H x cls d→A1Y ks hs E Da x env h→A47 X.K (cW G E) D (B0I X.K ks hs) cls d σ H:=by
  subst eg
  intro hds hs hh
  induction hh with
  | nil=> intro x env h σ H cls d S r z;exact ⟨x,env,h,S0.outof S,r,z⟩
  | cons hi hln hg hm ex hj hy fy ne hv hs' hw h1 hdb t ih=>
    rename_i c n y i j e np py pos pos' sv hds l'
    intro x env h σ H cls d S r z
    obtain ⟨hk,ie,z⟩:=z
    have ec:cls= .ref (He.ga X.K x.n):=by rw [r.1,←gk]
    refine ⟨K4 x.n c,by rw [ec];exact ex _ hk,fun b a na=> ?_,fun b=> ?_⟩
    · rw [if_pos b] at z
      have nAt:BS ⟨G.K,h0,H0⟩ (env.set i (some (.val (.ref a)))) h (σ.set i (some (.ref a))) H:=S.set (r:= .val (.ref a)) i (show Rep G.K H (.ref a) (.ref a) from .ref) trivial
      have il:i < σ.length:=by rw [←S.len];exact ie
      refine ⟨⟨G.K,h0,H0⟩,x,_,h,gk,⟨nAt,List.getElem?_set_self il,r⟩,hk,(hv ⟨G.K,h0,H0⟩ gk).mono x _ _ (fun w z v H1 n1 r1=> ?_) z⟩
      have S1:BS ⟨G.K,h0,H0⟩ env h σ H1:=n1.bs S
      have S2:BS ⟨G.K,h0,H0⟩ (env.set j (some (.val w))) h (σ.set j (some v)) H1:=S1.set (r:= .val w) j r1 trivial
      have S3:=S2.unset i
      have e2:((σ.set i (some (V.ref a))).set j (some v)).set i none=(σ.set j (some v)).set i none:=by
        rw [List.set_comm _ _ ne,List.set_set]
      show D.nx (((σ.set i (some (V.ref a))).set j (some v)).set i none) H1
      rw [e2]
      exact l.nx _ _ _ _ (S0.outof S3) (S0.keeps S3) z
    · rw [if_neg (by rw [b];exact Bool.false_ne_true)] at z
      exact ih x env h σ H cls d S r z
def GLe (G G':Gx):Prop:=∀H:Hp,(∀p o,G'.H0 p=some o→G'.h0 p=none→NT o→H p=some o)→∀p o,G.H0 p=some o→G.h0 p=none→NT o→H p=some o
theorem GLe.refl {G:Gx}:GLe G G:=fun _ h=> h
theorem BS.gle {env:A0} {h:AH} {σ:L2.St} {H:Hp} (S:BS G env h σ H):GLe G ⟨G.K,h,H⟩:=fun H1 k p o e n y=> by
  have hn:h p=none:=by
    cases q:h p with
    | none=> rfl
    | some u=> have z:=S.ext p u q n;rw [z] at e;cases e
  exact k p o (S.fr p o e n y) hn y
theorem _root_.Ab.LamHas.to {Z:Cx} {G':Gx} {f:Addr} {n:Nat} {sp:B8} (L:LamHas Z G f n sp) (g:GLe G G') (pn:List (Addr×Obj)) (xe:Value→Shared→Prop):LamHas (Z.tr pn xe) G' f n sp:=
  ⟨L.m,fun s H k=> L.fn s H (g H k),fun s H us vs Q E k=> L.run s H us vs Q E (g H k)⟩
theorem B4h (gk:G.K=X.K) (stk:X.stack=X.env::X.outer) (fr:X.env.frame=some X.env.locals) (nd:X.N.Nodup) (tk:Takes X (cW G E))
    (hb:∀(pn:List (Addr×Obj)) (xe:Value→Shared→Prop) (G':Gx) (E':AExc→A0→AH→Prop),G'.K=X.K→GLe G G'→Takes (X.tr pn xe) (cW G' E')→ASs (X.tr pn xe) G' body (t E')) (hh:HdA X ks (h₀::hds) hs):
    AS X G (.Try body (h₀::hds) [] [] pos) (A45 ks hs E t):=by
  refine ⟨fun D D' env h l ⟨no,Ein,k,q⟩=> ⟨no,Ein,fun x e g z=> B8Q hh l.nx x e g (k x e g z),(hb [] (fun _ _=> True) G Ein gk .refl fun _ _ _=> trivial).mono _ _ _ _ l q⟩,PS.imp (C0y
    (tb:=fun W D σ H=> ∃(env:A0) (h:AH) (Da:AEnds) (G':Gx) (Ein:AExc→A0→AH→Prop),G'.K=X.K∧GLe G G'∧BS G' env h σ H∧t Ein Da env h∧Link G' H Da D∧∀cls d σ' H',cW G' Ein cls d σ' H'→W cls d σ' H')
    stk fr nd tk (fun W pn xe tkW=> ⟨fun pins s σ H D I ⟨env,h,Da,G',Ein,gk',gl,S,q,l,imp⟩=> (hb pn xe G' Ein gk' gl (Takes.imp tkW imp)).ps.run pins s σ H D I ⟨env,h,Da,S,q,l⟩⟩)
    (HdA.low nd hh)) fun D σ H ⟨env,h,Da,S,⟨no,Ein,k,q⟩,l⟩=> ?_⟩
  have up:∀{p:Addr},H p=none→G.H0 p=none:=fun {p} n=> by
    cases q:G.H0 p with
    | none=> rfl
    | some o=> obtain ⟨u,e⟩:=S.tr p o q;rw [n] at e;cases e
  refine ⟨env,h,Da,⟨G.K,h,H⟩,Ein,gk,S.gle,S.into no,q,⟨fun e g σ' H' T y z=> l.nx e g σ' H' (S.outof T) y z,fun r e g σ' H' v T y rr z=> l.rt r e g σ' H' v (S.outof T) y ?_ z,fun e g σ' H' T y z=> l.bk e g σ' H' (S.outof T) y z,fun e g σ' H' T y z=> l.ct e g σ' H' (S.outof T) y z⟩,
    fun cls d σ' H' ⟨x,env1,h1,S1,xr,z⟩=> B8o gk S rfl l hh x env1 h1 σ' H' cls d S1 xr (k x env1 h1 z)⟩
  cases r with
  | val w=> exact rr
  | own c=> obtain ⟨p,e1,cr,n,n0,no2⟩:=rr;exact ⟨p,e1,cr,n,up n0,no2⟩
  | slot i=> exact rr
end
end Ab
namespace Ab
open PySem PySem.Spec PyProof.Rows L2
section
variable {prog:Program} {w:World} {A:Around} {R:Result→Shared→Prop} {I:Addr} {fp wr:List Addr} {n:Nat} {P:Nat→Value→Prop} {St:Nat→Heap→Prop}
end
section
variable {prog:Program} {w:World} {A:Around} {E:Value→Shared→Prop} {s:Shared} {l:Addr} {xs:Array (Int×Tok)}
end
section
variable {X:Cx} {G:Gx} {e:Expr} {p pos kpos cp:Pos} {j:Nat} {t:W1}
end
end Ab
namespace Ab
open PySem PySem.Spec PyProof.Rows L2
def A9W (c:G7) (tb:C0):C0:=fun D env h=> ∃W:Nat→A0→AH→Prop,(∃m,W m env h)∧∀m e k,W m e k→
  c e k fun b e1 k1=> if b=true then ∃N:A0→AH→Prop,(∀e2 k2,N e2 k2→∃m',m' < m∧W m' e2 k2)∧tb { D with nx:=N,ct:=N,bk:=D.nx } e1 k1 else D.nx e1 k1
section
variable {X:Cx} {G:Gx} {c:Expr} {body:List Stmt} {pos:Pos} {tc:G7} {tb:C0}
theorem B9r (hp:PassesOwn (model X.prog X.w) X.A X.env X.xe) (hc:AP X G c tc) (hb:ASs X G body tb):AS X G (.While c body [] pos) (A9W tc tb):=by
  refine ⟨fun D D' env h l ⟨W,w0,turn⟩=> ⟨W,w0,fun m e k w=> hc.mono e k _ _ (fun b e1 k1 z=> ?_) (turn m e k w)⟩,PS.imp (ps_while hp hc.pt hb.ps) fun D σ H ⟨env,h,Da,S,⟨W,⟨m0,w0⟩,turn⟩,l⟩=> ?_⟩
  · cases b with
    | true=>
      rw [if_pos rfl] at z ⊢
      obtain ⟨N,hN,z⟩:=z
      exact ⟨N,hN,hb.mono { D with nx:=N,ct:=N,bk:=D.nx } { D' with nx:=N,ct:=N,bk:=D'.nx } _ _ ⟨fun _ _ y=> y,l.rt,l.nx,fun _ _ y=> y⟩ z⟩
    | false=>
      rw [if_neg Bool.false_ne_true] at z ⊢
      exact l.nx _ _ z
  · refine ⟨fun m σ' H'=> Keeps H H'∧∃e k,BS G e k σ' H'∧W m e k,⟨m0,.refl H,env,h,S,w0⟩,?_⟩
    rintro m σ2 H2 ⟨k2,e2,g2,S2,w2⟩
    refine ⟨e2,g2,S2,hc.mono e2 g2 _ _ (fun b e3 g3 z H3 S3 x3=> ?_) (turn m e2 g2 w2)⟩
    have k3:=k2.trans (x3.keeps S2)
    show if b=true then _ else _
    cases b with
    | true=>
      rw [if_pos rfl] at z ⊢
      obtain ⟨N,hN,z⟩:=z
      refine ⟨fun σ' H'=> Keeps H H'∧∃e k,BS G e k σ' H'∧N e k,fun σ' H' ⟨kk,e,k,S',n⟩=> ?_,e3,g3,_,S3,z,⟨fun e k σ H S' kk y=> ⟨k3.trans kk,e,k,S',y⟩,fun r e k σ H v S' kk=> l.rt r e k σ H v S' (k3.trans kk),fun e k σ H S' kk=> l.nx e k σ H S' (k3.trans kk),fun e k σ H S' kk y=> ⟨k3.trans kk,e,k,S',y⟩⟩⟩
      obtain ⟨m',lt,w'⟩:=hN e k n
      exact ⟨m',lt,kk,e,k,S',w'⟩
    | false=>
      rw [if_neg Bool.false_ne_true] at z ⊢
      exact l.nx e3 g3 σ2 H3 S3 k3 z
end
end Ab
namespace Ab
open PySem PySem.Spec PyProof.Rows L2
section
variable {prog:Program} {w:World} {K:Type} [DecidableEq K] {kd:KeyKind prog w K} {A:Around} {E:Value→Shared→Prop} {s:Shared}
end
section
variable {X:Cx} {pins:List (Addr×Obj)} {σ:L2.St} {H:Hp} {s:Shared} {a:Addr} {kvs:List (List Key×V)} {A:Around} {E:Value→Shared→Prop} {o i e:Expr} {td ty tv:TE} {pos pos':Pos}
end
end Ab
namespace Ab
open PySem PySem.Spec PyProof.Rows L2 RZ
def A3W (l:List (List Int×W)):List (W×W):=(W.lst [],W.non)::l.map fun p=> (W.tup (p.1.map .int),p.2)
def A43 (l:List (List Int×W)) (ns:List Int):Option W:=(l.find? fun p=> decide (p.1=ns)).map (·.2)
section
variable {X:Cx} {G:Gx}
def aInT (neg:Bool) (i:Nat) (tk:C3):AT:=fun env h Q=> tk env h fun w env1 h1=> (∃(l:List (List Int×W)) (ns:List Int),env1[i]? =some (some (.own (.map (A3W l))))∧w= .tup (ns.map .int)∧
  Q (.val (.bl (if neg=true then !(A43 l ns).isSome else (A43 l ns).isSome))) env1 h1)∨neg=false∧(∃l:List (List Int×W),env1[i]? =some (some (.own (.map (A3W l)))))∧w= .non∧Q (.val (.bl false)) env1 h1
theorem aInT.mono {neg:Bool} {i:Nat} {tk:C3} (m:A9 tk):A9 (aInT neg i tk):=fun env h Q Q' k q=> m env h _ _ (fun w e g z=> by
  rcases z with ⟨l,ns,z1,z2,z3⟩ | ⟨z1,z2,z3,z4⟩
  · exact .inl ⟨l,ns,z1,z2,k _ _ _ z3⟩
  · exact .inr ⟨z1,z2,z3,k _ _ _ z4⟩) q
def aGetT (i:Nat) (tk:C3):AT:=fun env h Q=> (∃kvs,env[i]? =some (some (.own (.map kvs))))∧tk env h fun w env1 h1=> ∃(l:List (List Int×W)) (ns:List Int) (v:W),env1[i]? =some (some (.own (.map (A3W l))))∧w= .tup (ns.map .int)∧
  A43 l ns=some v∧Q (.val v) env1 h1
theorem aGetT.mono {i:Nat} {tk:C3} (m:A9 tk):A9 (aGetT i tk):=fun env h Q Q' k q=> ⟨q.1,m env h _ _ (fun w e g ⟨l,ns,v,z1,z2,z3,z4⟩=> ⟨l,ns,v,z1,z2,z3,k _ _ _ z4⟩) q.2⟩
def aGetDT (i:Nat) (tk td:C3):AT:=fun env h Q=> (∃kvs,env[i]? =some (some (.own (.map kvs))))∧tk env h fun w env1 h1=> td env1 h1 fun d env2 h2=>
  ∃(l:List (List Int×W)) (ns:List Int),env2[i]? =some (some (.own (.map (A3W l))))∧w= .tup (ns.map .int)∧Q (.val ((A43 l ns).getD d)) env2 h2
theorem aGetDT.mono {i:Nat} {tk td:C3} (m:A9 tk) (n:A9 td):A9 (aGetDT i tk td):=fun env h Q Q' k q=>
  ⟨q.1,m env h _ _ (fun w e g z=> n e g _ _ (fun d e g ⟨l,ns,z1,z2,z3⟩=> ⟨l,ns,z1,z2,k _ _ _ z3⟩) z) q.2⟩
end
end Ab
namespace Ab
open PySem PySem.Spec PyProof.Rows L2 RZ
section
variable {X:Cx} {G:Gx} {k v:Expr} {pos:Pos} {tk tv:TE}
end
section
variable {X:Cx} {G:Gx} {k v:Expr} {pos:Pos}
def aDispT (tk tv:C3):AT:=fun env h Q=> tk env h fun w env1 h1=> tv env1 h1 fun y env2 h2=> ∃ns:List Int,w= .tup (ns.map .int)∧Q (.own (.map (A3W [(ns,y)]))) env2 h2
theorem aDispT.mono {tk tv:C3} (m:A9 tk) (n:A9 tv):A9 (aDispT tk tv):=fun env h Q Q' k q=> m env h _ _ (fun w e g z=> n e g _ _ (fun y e g ⟨ns,z1,z2⟩=> ⟨ns,z1,k _ _ _ z2⟩) z) q
end
end Ab
namespace Ab
open PySem PySem.Spec PyProof.Rows L2 RZ
def B5M (i j:Int):Prop:=0≤j∧(PySem.Builtin.Int.intBits i:Int)*j≤2 ^ 27
section
variable {X:Cx} {G:Gx} {a b:Expr} {ta tb:AT} {pos:Pos}
end
end Ab
namespace Ab
open PySem PySem.Spec PyProof.Rows L2 RZ
def oIndexW (a:Vw) (ws:List W) (Q:RV→Prop):Prop:=match ws with
  | [.int x]=> ∃ns:List Int,a.seq=some (ns.map W.int)∧x∈ns∧Q (.val (.int (ns.idxOf x)))
  | _=> False
def aIdx (to:AT) (t:E5):AT:=fun env h Q=> to env h fun ro env1 h1=> (∃ns:List Int,(view env1 h1 ro).seq=some (ns.map W.int))∧t env1 h1 fun ws env2 h2=> oIndexW (view env2 h2 ro) ws fun r=> Q r env2 h2
theorem oIndexW.mono {a:Vw} {ws:List W} {Q Q':RV→Prop} (k:∀r,Q r→Q' r) (q:oIndexW a ws Q):oIndexW a ws Q':=by
  unfold oIndexW at q ⊢
  split at q
  · obtain ⟨ns,e,m,q⟩:=q
    exact ⟨ns,e,m,k _ q⟩
  · exact q.elim
theorem aIdx.mono {to:AT} {t:E5} (a:A9 to) (b:A9 t):A9 (aIdx to t):=fun env h Q Q' k q=>
  a env h _ _ (fun ro e g z=> ⟨z.1,b e g _ _ (fun ws e2 g2 z=> z.mono fun r q=> k _ _ _ q) z.2⟩) q
section
variable {X:Cx} {G:Gx} {o e:Expr} {es:List Expr} {to:AT} {t:E5} {apos cpos:Pos}
end
end Ab
namespace Ab
open PySem PySem.Spec PyProof.Rows L2 RZ
structure OkD (P:Program) (w:World) (K:PySem.W.Frag) (mg:Str→Option Value) (base:Heap) (x:Str) (st:Stmt) (k n:Nat) (ps:List Str) (kws:List (Str×V)) (sp:B8):Prop where
  m:L6 sp
  ex:∃f fd,mg x=some (.ref f)∧FunD K x x (defArgs st) (defBody st) (defScope st) [] kws f fd∧FnOk P w K mg base (L2.CX P w) k f fd ps (R9 K n sp)
theorem OkD.mk' {P:Program} {w:World} {K:PySem.W.Frag} {mg:Str→Option Value} {base:Heap} {x:Str} {st:Stmt} {f:Addr} {fd:FuncData} {N ps:List Str} {k n:Nat} {kws:List (Str×V)} {sp:B8} {t:(AExc→A0→AH→Prop)→C0} (sm:L6 sp) (hm:mg x=some (.ref f)) (F:FunD K x x (defArgs st) (defBody st) (defScope st) [] kws f fd) (S:FnScope N ps (defScope st)) (hn:ps.length=n)
    (hb:∀(cdv:Value) (A:Around) (outer:List Env) (s:Shared) (H:Hp) (E:XK) (G:Gx) (E':AExc→A0→AH→Prop),Room k (A.deeper (envOfC x (defScope st) s.heap.objs.size f cdv))→G.K=K→Takes (bx P w K mg base N x (defScope st) f cdv A outer s H E) (cW G E')→
      ASs (bx P w K mg base N x (defScope st) f cdv A outer s H E) G (defBody st) (t E'))
    (hq:∀ws h Qa Ea,ws.length=n→sp ws h Qa Ea→t (C7 Ea) (C2 Qa) (F8 N.length ws) h):OkD P w K mg base x st (k+1) n ps kws sp:=
  ⟨sm,f,fd,hm,F,A9h [] kws F S hn hb hq⟩
section
variable {X:Cx} {G:Gx} {sp:B8} {st:Stmt} {k j n0:Nat} {ps ks:List Str} {kws0 ms:List (Str×V)} {ds:List W} {x:Str} {p pos:Pos} {e:Expr} {es:List Expr} {kws:List Keyword} {t tk:E5} {E:AExc→A0→AH→Prop} {perm:List Nat}
end
section
variable {X:Cx} {G:Gx} {sp:B8} {st:Stmt} {k j:Nat} {ps:List Str} {x:Str} {p pos:Pos} {E:AExc→A0→AH→Prop}
end
def B0b (neg:Bool):L7:=fun a b Q=> ∃x y:Bool,a= .wv (.bl x)∧b= .wv (.bl y)∧Q (.val (.bl (if neg then !decide (x=y) else decide (x=y))))
section
variable {X:Cx} {G:Gx} {a b:Expr} {ta tb:AT} {pos:Pos}
end
def aRevL (ta:AT):AT:=fun env h Q=> ta env h fun r env1 h1=> ∃xs,(view env1 h1 r).seq=some xs∧Q (.own (.seq xs.reverse)) env1 h1
theorem aRevL.mono {ta:AT} (m:A9 ta):A9 (aRevL ta):=fun env h Q Q' k q=> m env h _ _ (fun r e g ⟨xs,z1,z2⟩=> ⟨xs,z1,k _ _ _ z2⟩) q
section
variable {X:Cx} {G:Gx} {a:Expr} {ta:AT} {k:Nat} {p1 p2 p3 pos:Pos}
end
end Ab
namespace Ab
open PySem PySem.Spec PyProof.Rows L2 RZ
def oLenSet:L4:=fun as Q=> match as with
  | [.wv (.tup ws)]=> ∃ns:List Int,ws=ns.map W.int∧ns≠[]∧ns.length≤4000∧∀m:Int,(m=1↔∀x∈ns,∀y∈ns,x=y)→Q (.val (.int m))
  | _=> False
theorem oLenSet.mono {as:List Vw} {Q Q':RV→Prop} (k:∀r,Q r→Q' r) (q:oLenSet as Q):oLenSet as Q':=by
  unfold oLenSet at q ⊢
  split at q
  · obtain ⟨ns,a,b,c,q⟩:=q
    exact ⟨ns,a,b,c,fun m e=> k _ (q m e)⟩
  · exact q.elim
section
variable {X:Cx} {G:Gx} {e:Expr} {p p2 q pos kpos cp:Pos} {j:Nat} {t:W1}
end
end Ab
namespace Ab
open PySem PySem.Spec PyProof.Rows L2 RZ
def o5 (f:Str) (w:W):List (Str×W)→List (Str×W)
  | []=> [(f,w)]
  | (g,x)::r=> if g=f then (g,w)::r else (g,x)::o5 f w r
theorem FRep.look {K:PySem.W.Frag} {H:Hp} {f:Str}:∀{fs:List (Str×W)} {vs:List (Str×V)},FRep K H fs vs→(∀w,fs.lookup f=some w→∃v,vs.lookup f=some v∧Rep K H w v)∧(fs.lookup f=none→vs.lookup f=none)
  | [],[],_=> ⟨fun _ e=> by simp at e,fun _=> rfl⟩
  | [],v::vs,h=> by cases h.1
  | p::fs,[],h=> by cases h.1
  | (g,w)::fs,(g',v)::vs,⟨h1,h2⟩=> by
    rw [List.map_cons,List.map_cons] at h1
    injection h1 with e1 e2
    have e1:g=g':=e1
    subst e1
    obtain ⟨v',r',e3,a,b⟩:=RepL.of_cons (w:=w) (ws:=fs.map (·.2)) h2
    rw [List.map_cons] at e3
    injection e3 with e3 e4
    subst e3 e4
    obtain ⟨i1,i2⟩:=FRep.look (f:=f) (fs:=fs) (vs:=vs) ⟨e2,b⟩
    simp only [List.lookup]
    cases q:f==g with
    | true=> exact ⟨fun w e=> by cases e;exact ⟨_,rfl,a⟩,fun e=> by cases e⟩
    | false=> exact ⟨i1,i2⟩
theorem FRep.put {K:PySem.W.Frag} {H:Hp} {f:Str} {w:W} {v:V} (r:Rep K H w v):∀{fs:List (Str×W)} {vs:List (Str×V)},FRep K H fs vs→FRep K H (o5 f w fs) (putF f v vs)
  | [],[],_=> ⟨rfl,.cons r .nil⟩
  | [],v::vs,h=> by cases h.1
  | p::fs,[],h=> by cases h.1
  | (g,x)::fs,(g',y)::vs,⟨h1,h2⟩=> by
    rw [List.map_cons,List.map_cons] at h1
    injection h1 with e1 e2
    have e1:g=g':=e1
    subst e1
    obtain ⟨v',r',e3,a,b⟩:=RepL.of_cons (w:=x) (ws:=fs.map (·.2)) h2
    rw [List.map_cons] at e3
    injection e3 with e3 e4
    subst e3 e4
    unfold o5 putF
    by_cases q:g=f
    · rw [if_pos q,if_pos q]
      exact ⟨by rw [List.map_cons,List.map_cons,e2],.cons r b⟩
    · rw [if_neg q,if_neg q]
      obtain ⟨i1,i2⟩:=FRep.put r (fs:=fs) (vs:=vs) ⟨e2,b⟩
      exact ⟨by rw [List.map_cons,List.map_cons,i1],.cons a i2⟩
theorem FRep.mono {K:PySem.W.Frag} {H H':Hp} (k:Keeps H H') {fs:List (Str×W)} {vs:List (Str×V)} (h:FRep K H fs vs):FRep K H' fs vs:=⟨h.1,RepL.mono k _ _ h.2⟩
theorem FRep.length {K:PySem.W.Frag} {H:Hp} {fs:List (Str×W)} {vs:List (Str×V)} (h:FRep K H fs vs):fs.length=vs.length:=by have:=congrArg List.length h.1;simpa using this
structure FldOk (K:PySem.W.Frag) (n f:Str):Prop where
  cl:Cls K (He.ga K n)
  no:NoAttr K (He.ga K n) f
section
variable {G:Gx} {env:A0} {h:AH} {σ:L2.St} {H:Hp}
theorem C07 (S:BS G env h σ H) {a:Addr} {n:Str} {fs fs':List (Str×W)} (ha:h a=some (.ins n fs)):∃dx vs,H a=some (.ins (He.ga G.K n) dx vs)∧FRep G.K H fs vs∧
    ∀vs',(Keeps H (upd H a (.ins (He.ga G.K n) dx vs'))→FRep G.K (upd H a (.ins (He.ga G.K n) dx vs')) fs' vs')→BS G env (D6 h a (.ins n fs')) σ (upd H a (.ins (He.ga G.K n) dx vs'))∧Xt env h σ H env (D6 h a (.ins n fs')) (upd H a (.ins (He.ga G.K n) dx vs')):=by
  obtain ⟨dx,vs,e,fr⟩:=S.hp a _ ha
  refine ⟨dx,vs,e,fr,fun vs' hc=> ?_⟩
  have kp:Keeps H (upd H a (.ins (He.ga G.K n) dx vs')):=fun q o eq i=> by
    have ne:q≠a:=fun z=> by subst z;rw [e] at eq;cases eq;exact i.elim
    rw [upd_ne ne];exact eq
  have th:∀q o,H q=some o→∃u,upd H a (.ins (He.ga G.K n) dx vs') q=some u:=fun q o eq=> by
    by_cases z:q=a
    · subst z;exact ⟨_,upd_same⟩
    · exact ⟨o,by rw [upd_ne z];exact eq⟩
  have hc:=hc kp
  have neo:∀{j:Nat} {d:Cont} {q:Addr},env[j]? =some (some (SV.own d))→σ[j]? =some (some (V.ref q))→q≠a:=fun z y x=> by
    obtain ⟨q',a',_,n,_⟩:=S.own _ _ z
    rw [y] at a';cases a'
    rw [x,ha] at n;cases n
  refine ⟨⟨S.len,fun j w z=> ?_,fun j d z=> ?_,S.uni,fun b o z=> ?_,fun q o z y t=> ?_,fun b o z y=> ?_,fun q o z=> ?_,S.tabs.upd fun o z=> (by rw [e] at z;cases z;trivial)⟩,fun q o z y w t=> ?_,fun q o z y=> ?_,th,fun j d z=> ⟨d,z⟩⟩
  · obtain ⟨u,x,y⟩:=S.val j w z;exact ⟨u,x,Rep.mono kp w u y⟩
  · obtain ⟨q,x,y,n,n0⟩:=S.own j d z
    have nq:=neo z x
    exact ⟨q,x,y.mono kp (upd_ne nq),by rw [I6 nq];exact n,n0⟩
  · by_cases hb:b=a
    · subst hb;rw [R4] at z;cases z;exact ⟨dx,vs',upd_same,hc⟩
    · rw [I6 hb] at z;exact (S.hp b o z).mono kp (upd_ne hb)
  · have nq:q≠a:=fun x=> by
      subst x
      have:=S.ext q _ ha y
      rw [this] at z;cases z
    rw [upd_ne nq];exact S.fr q o z y t
  · by_cases hb:b=a
    · subst hb;exact S.ext b _ ha y
    · rw [I6 hb] at z;exact S.ext b o z y
  · obtain ⟨u,y⟩:=S.tr q o z;exact th q u y
  · have nq:q≠a:=fun x=> by rw [x,ha] at y;cases y
    rw [upd_ne nq];exact z
  · have nq:q≠a:=fun x=> by rw [x,ha] at y;cases y
    rw [I6 nq,y] at z;cases z
end
def aFld (n f:Str) (t:AT):AT:=fun env h Q=> t env h fun r env1 h1=> ∃a fs w,r= .val (.ref a)∧h1 a=some (.ins n fs)∧fs.lookup f=some w∧Q (.val w) env1 h1
theorem aFld.mono {n f:Str} {t:AT} (m:A9 t):A9 (aFld n f t):=fun env h Q Q' k q=> m env h _ _ (fun r e g ⟨a,fs,w,z1,z2,z3,z4⟩=> ⟨a,fs,w,z1,z2,z3,k _ _ _ z4⟩) q
def A46 (n f:Str) (to:AT):G5:=fun w env h Q=> to env h fun r env1 h1=> ∃a fs,r= .val (.ref a)∧h1 a=some (.ins n fs)∧fs.length < 1000∧Q env1 (D6 h1 a (.ins n (o5 f w fs)))
section
variable {X:Cx} {G:Gx} {o:Expr} {n f:Str} {to:AT} {pos:Pos}
theorem f8 (gk:G.K=X.K) (F:FldOk X.K n f) (ha:AE X G o to) (hb:attributeBase o f X.env (eval o X.env)=eval o X.env:=by rfl):AE X G (.Attribute o f pos) (aFld n f to):=by
  refine ⟨aFld.mono ha.mono,PE.imp (pe_fld ha.pe hb) fun σ H Q ⟨env,h,S,q⟩=> ?_⟩
  refine ⟨env,h,S,ha.mono env h _ _ (fun r env1 h1 ⟨a,fs,w,z1,z2,z3,z⟩ x H1 S1 x1 r1 _=> ?_) q⟩
  subst z1
  have ex:x= .ref a:=Rep.of_ref (K:=G.K) (H:=H1) r1
  obtain ⟨dx,vs,e,fr⟩:=S1.hp a _ z2
  obtain ⟨v,e2,rv⟩:=fr.look.1 w z3
  exact ⟨a,_,dx,vs,v,ex,gk▸e,F.cl,F.no,e2,z v H1 S1 x1 rv trivial⟩
def C3a (K:PySem.W.Frag) (to:TE) (f:Str):TG:=fun v σ H Q=> to σ H fun x H1=> ∃a C dx fs,x= .ref a∧H1 a=some (.ins C dx fs)∧Cls K C∧NoAttr K C f∧fs.length < 1000∧Q σ (upd H1 a (.ins C dx (putF f v fs)))
theorem C1n {t:TE} (ho:PE X o t):PG X (.Attribute o f pos) (C3a X.K t f):=by
  refine ⟨fun pins s σ H v u Q I r h=> ?_⟩
  refine PySem.W.kas_attr (thn (ho.run pins s σ H _ I h) fun ov s1 ⟨x,H1,I1,rx,a,C,dx,fs,ex,ea,c,n,l,q⟩=> ?_)
  subst ex
  obtain rfl:ov=Value.ref a:=rx
  exact setattr_ok I1 ea c n l r fun s2 I2=> ⟨σ,_,I2,q⟩
theorem A9Z (gk:G.K=X.K) (F:FldOk X.K n f) (ho:AE X G o to):AG X G (.Attribute o f pos) [] (A46 n f to):=by
  refine ⟨fun w env h Q Q' k q=> ho.mono env h _ _ (fun r e g ⟨a,fs,z1,z2,z3,z4⟩=> ⟨a,fs,z1,z2,z3,k _ _ z4⟩) q,PG.imp (C1n ho.pe) fun v σ H Q ⟨w,env,h,rv,S,q⟩=> ?_⟩
  refine ⟨env,h,S,ho.mono env h _ _ (fun r env1 h1 ⟨a,fs,z1,z2,z3,z⟩ x H1 S1 x1 r1 _=> ?_) q⟩
  subst z1
  have ex:x= .ref a:=Rep.of_ref (K:=G.K) (H:=H1) r1
  obtain ⟨dx,vs,e,fr,put⟩:=C07 (fs':=o5 f w fs) S1 z2
  have rv1:=Rep.mono (x1.keeps S) w v rv
  obtain ⟨S2,x2⟩:=put (putF f v vs) fun kp=> (fr.mono kp).put (Rep.mono kp w v rv1)
  refine ⟨a,_,dx,vs,ex,gk▸e,F.cl,F.no,by rw [←fr.length];exact z3,?_⟩
  have z:=z σ _ S2 (x1.trans x2).xg
  rw [gk] at z
  exact z
end
structure OkM (P:Program) (w:World) (K:PySem.W.Frag) (mg:Str→Option Value) (base:Heap) (C m:Str) (st:Stmt) (k n:Nat) (ps:List Str) (kws:List (Str×V)) (sp:B8):Prop where
  sm:L6 sp
  cl:Cls K (He.ga K C)
  ex:∃f fd,Meth K (He.ga K C) m f∧FunD K m (C++"."++m) (defArgs st) (defBody st) (defScope st) [] kws f fd∧FnOk P w K mg base (L2.CX P w) k f fd ps (R9 K n sp)
def U7 (C m:Str) (st:Stmt) (ps:List Str):Prop:=∀(kV doc pm:Value) (an:Option Addr) (cdv ct:Value) (us:List Value),us.length=ps.length→bindArgs (PySem.W.fnOf m (C++"."++m) (defArgs st) (defBody st) (defScope st) .none kV doc pm an cdv ct) ⟨us,[]⟩=pure (ps.zip us)
def kRes (Q:RV→A0→AH→Prop) (env:A0):RR→AH→Prop:=fun r h2=> match r with
  | .val w=> Q (.val w) env h2
  | .own c=> Q (.own c) env h2
def aMeth (C m:Str) (E:AExc→A0→AH→Prop) (sp:B8) (to:AT) (t:E5):AT:=fun env h Q=> to env h fun r env1 h1=> ∃a fs,r= .val (.ref a)∧h1 a=some (.ins C fs)∧fs.lookup m=none∧
  t env1 h1 fun ws env2 h2=> sp (.ref a::ws) h2 (kRes Q env2) fun x h3=> E x env2 h3
theorem kRes.imp {Q Q':RV→A0→AH→Prop} {env:A0} (k:∀r e h,Q r e h→Q' r e h) (r:RR) (h:AH) (z:kRes Q env r h):kRes Q' env r h:=by
  cases r with
  | val w=> exact k _ _ _ z
  | own c=> exact k _ _ _ z
theorem aMeth.mono {C m:Str} {E:AExc→A0→AH→Prop} {sp:B8} {to:AT} {t:E5} (sm:L6 sp) (a:A9 to) (b:A9 t):A9 (aMeth C m E sp to t):=fun env h Q Q' k q=>
  a env h _ _ (fun r e g ⟨p,fs,z1,z2,z3,z4⟩=> ⟨p,fs,z1,z2,z3,b e g _ _ (fun ws e2 g2 z=> sm _ _ _ _ _ _ (fun r f y=> kRes.imp k r f y) (fun x f y=> y) z) z4⟩) q
section
variable {X:Cx} {G:Gx} {sp:B8} {C m:Str} {st:Stmt} {k j n:Nat} {ps:List Str} {o e:Expr} {es:List Expr} {pos apos:Pos} {to:AT} {t:E5} {E:AExc→A0→AH→Prop}
theorem B2f {ws:List W} {vs:List V} {env env2:A0} {h h2:AH} {σ:L2.St} {H H2:Hp} {Q:VK} (hl:ws.length=n) (S2:BS G env2 h2 σ H2) (x2:Xt env h σ H env2 h2 H2) (r:RepL G.K H2 ws vs)
    (z:sp ws h2 (kRes (fun r e g=> ∀v H',BS G e g σ H'→Xt env h σ H e g H'→RvRep G e g σ H' r v→Q9 H r v→Q v H') env2) fun x h3=> E x env2 h3):R9 G.K n sp vs H2 Q (WE (cW G E) σ):=by
  refine ⟨ws,h2,_,_,hl,S2.hp,S2.tabs,r,z,fun r h' v H' y c rr=> ?_,fun x h' cls d H' y c xr=> ?_⟩
  · obtain ⟨S3,x3⟩:=S2.after c
    cases r with
    | val w=> exact y v H' S3 (x2.trans x3) rr trivial
    | own c0=>
      obtain ⟨p,e,cr,a,b⟩:=rr
      have nw:H2 p=none:=b
      obtain ⟨_,g0,no⟩:=S2.noAt nw
      exact y v H' S3 (x2.trans x3) ⟨p,e,cr,a,g0,no⟩ fun p' e'=> by
        rw [e] at e';cases e';exact x2.fresh nw
  · obtain ⟨S3,x3⟩:=S2.after c
    exact ⟨x,env2,h',S3,xr,y⟩
theorem B4b {env:A0} {h:AH} {σ:L2.St} {H:Hp} (gk:G.K=X.K) (S:BS G env h σ H) {a:Addr} {fs:List (Str×W)} (e:h a=some (.ins C fs)) (l:fs.lookup m=none):∃dx vs,H a=some (.ins (He.ga X.K C) dx vs)∧vs.lookup m=none:=by
  obtain ⟨dx,vs,e,fr⟩:=S.hp a _ e
  exact ⟨dx,vs,gk▸e,fr.look.2 l⟩
theorem M4 {pl:Sem Bool} (gk:G.K=X.K) (O:OkM X.prog X.w X.K X.mg X.base C m st k (n+1) ps [] sp) (bd:U7 C m st ps) (hr:Room j X.A) (kj:k≤j) (tk:Takes X (cW G E)) (ho:AE X G o to) (ha:AN X G (e::es) n t)
    (hst:starEach (e::es) X.env=(false,eval e X.env)::starEach es X.env:=by rfl) (hpl:(backTo pos (starEach es X.env)).any (·.1)=false:=by rfl)
    (ht:eval (.Call (.Attribute o m apos) (e::es) [] pos) X.env=(do
      let ov ←eval o X.env
      standAt apos.atName
      let (f,first) ←holding [ov] (getMethod ov m pl)
      callWith pos f first (backTo pos (starEach (e::es) X.env)) (backToKw pos (keywordEach [] X.env))):=by rfl):
    AE X G (.Call (.Attribute o m apos) (e::es) [] pos) (aMeth C m E sp to t):=by
  obtain ⟨f,fd,M,FD,F⟩:=O.ex
  have F:FnOk X.prog X.w X.K X.mg X.base (L2.CX X.prog X.w) k f fd ps (R9 G.K (n+1) sp):=gk▸F
  refine ⟨aMeth.mono O.sm ho.mono ha.aa.mono,⟨fun pins s σ H Q I ⟨env,h,S,q⟩=> ?_⟩⟩
  refine PySem.W.methodCall_KW (pl:=pl) (thn (ho.pe.run pins s σ H (fun x H1=> ∃a dx vs,x= .ref a∧H1 a=some (.ins (He.ga X.K C) dx vs)∧vs.lookup m=none∧cA G t σ H1 fun us H2=> R9 G.K (n+1) sp (.ref a::us) H2 Q (WE (cW G E) σ)) I ⟨env,h,S,ho.mono env h _ _ (fun r env1 h1 ⟨a,fs,z1,z2,z3,z⟩ x H1 S1 x1 r1 _=> ?_) q⟩) fun u s1 ⟨x,H1,I1,rx,a,dx,vs,ex,ea,l,q⟩=> ?_) ht
  · subst ex
    obtain rfl:u=Value.ref a:=rx
    refine getmeth_ok I1 ea O.cl M l ?_
    refine PySem.W.callWith_K (first:=[.ref a]) (h₀:=X.base) I.ok.mod.kin M.kp (thn (ha.aa.pa.run pos pins s1 σ H1 _ I1 q) fun us s2 ⟨vs,H2,I2,r,q2⟩=> ⟨I2.kIn,?_⟩) hst hpl
    exact run_fnSD (us:= .ref a::us) (vs:= .ref a::vs) (dvs:=[]) (ds:=[]) F (hr.mono kj) (FD.bindsN bd) .nil (passAt tk σ) I2 (.cons rfl r) (by rw [List.append_nil];exact q2)
  · subst z1
    obtain ⟨dx,vs,ea,l⟩:=B4b gk S1 z2 z3
    refine ⟨a,dx,vs,Rep.of_ref (K:=G.K) (H:=H1) r1,ea,l,env1,h1,S1,ha.aa.mono env1 h1 _ _ (fun ws env2 h2 ⟨hl,z⟩ us H2 S2 x2 r2=> ?_) (ha.ln env1 h1 _ z)⟩
    exact B2f (by rw [List.length_cons,hl]) S2 (x1.trans x2) (.cons .ref r2) z
theorem B21 {pl:Sem Bool} (gk:G.K=X.K) (O:OkM X.prog X.w X.K X.mg X.base C m st k 1 ps [] sp) (bd:U7 C m st ps) (hr:Room j X.A) (kj:k≤j) (tk:Takes X (cW G E)) (ho:AE X G o to)
    (ht:eval (.Call (.Attribute o m apos) [] [] pos) X.env=(do
      let ov ←eval o X.env
      standAt apos.atName
      let (f,first) ←holding [ov] (getMethod ov m pl)
      callWith pos f first (backTo pos (starEach [] X.env)) (backToKw pos (keywordEach [] X.env))):=by rfl):
    AE X G (.Call (.Attribute o m apos) [] [] pos) (aMeth C m E sp to aNil):=by
  obtain ⟨f,fd,M,FD,F⟩:=O.ex
  have F:FnOk X.prog X.w X.K X.mg X.base (L2.CX X.prog X.w) k f fd ps (R9 G.K 1 sp):=gk▸F
  refine ⟨aMeth.mono O.sm ho.mono aNil.mono,⟨fun pins s σ H Q I ⟨env,h,S,q⟩=> ?_⟩⟩
  refine PySem.W.methodCall_KW (pl:=pl) (thn (ho.pe.run pins s σ H (fun x H1=> ∃a dx vs,x= .ref a∧H1 a=some (.ins (He.ga X.K C) dx vs)∧vs.lookup m=none∧R9 G.K 1 sp [.ref a] H1 Q (WE (cW G E) σ)) I ⟨env,h,S,ho.mono env h _ _ (fun r env1 h1 ⟨a,fs,z1,z2,z3,z⟩ x H1 S1 x1 r1 _=> ?_) q⟩) fun u s1 ⟨x,H1,I1,rx,a,dx,vs,ex,ea,l,q⟩=> ?_) ht
  · subst ex
    obtain rfl:u=Value.ref a:=rx
    refine getmeth_ok I1 ea O.cl M l ?_
    exact PySem.W.callWith_K0 (first:=[.ref a]) I1.kIn M.kp (run_fnSD (us:=[.ref a]) (vs:=[.ref a]) (dvs:=[]) (ds:=[]) F (hr.mono kj) (FD.bindsN bd) .nil (passAt tk σ) I1 (.cons rfl .nil) q)
  · subst z1
    obtain ⟨dx,vs,ea,l⟩:=B4b gk S1 z2 z3
    exact ⟨a,dx,vs,Rep.of_ref (K:=G.K) (H:=H1) r1,ea,l,B2f rfl S1 x1 (.cons .ref .nil) z⟩
end
structure MkC (K:PySem.W.Frag) (mg:Str→Option Value) (n:Str):Prop where
  gl:mg n=some (.ref (He.ga K n))
  makes:PySem.W.makesIn K (He.ga K n)=true
  kp:PySem.W.keepIn K (.ref (He.ga K n))=true
def kMk (Q:RV→A0→AH→Prop) (env:A0) (a:Addr):RR→AH→Prop:=fun r h2=> r= .val .non∧Q (.val (.ref a)) env h2
def aMake (C:Str) (E:AExc→A0→AH→Prop) (sp:B8) (t:E5):AT:=fun env h Q=> t env h fun ws env1 h1=> ∀a,h1 a=none→sp (.ref a::ws) (D6 h1 a (.ins C [])) (kMk Q env1 a) fun x h3=> E x env1 h3
theorem aMake.mono {C:Str} {E:AExc→A0→AH→Prop} {sp:B8} {t:E5} (sm:L6 sp) (b:A9 t):A9 (aMake C E sp t):=fun env h Q Q' k q=>
  b env h _ _ (fun ws e g z a n=> sm _ _ _ _ _ _ (fun r f y=> ⟨y.1,k _ _ _ y.2⟩) (fun x f y=> y) (z a n)) q
section
variable {G:Gx} {env:A0} {h:AH} {σ:L2.St} {H:Hp}
theorem BS.made (S:BS G env h σ H) {a dx:Addr} {C:Str} (n:H a=none) (nd:H dx=none) (ne:dx≠a):
    BS G env (D6 h a (.ins C [])) σ (upd (upd H dx (.own a)) a (.ins (He.ga G.K C) dx []))∧Xt env h σ H env (D6 h a (.ins C [])) (upd (upd H dx (.own a)) a (.ins (He.ga G.K C) dx [])):=by
  have nw:New H (upd (upd H dx (.own a)) a (.ins (He.ga G.K C) dx [])):=fun p o e=> by
    have n1:p≠a:=fun z=> by rw [z,n] at e;cases e
    have n2:p≠dx:=fun z=> by rw [z,nd] at e;cases e
    rw [upd_ne n1,upd_ne n2];exact e
  have S1:=nw.bs S
  obtain ⟨ha,h0,no⟩:=S.noAt n
  refine ⟨⟨S1.len,S1.val,fun i c e=> ?_,S1.uni,fun b o e=> ?_,S1.fr,fun b o e y=> ?_,S1.tr,S1.tabs⟩,⟨fun p o e _ _ _=> nw p o e,fun p o e y=> ?_,fun p o e=> ⟨o,nw p o e⟩,fun i c e=> ⟨c,e⟩⟩⟩
  · obtain ⟨p,x,y,z,w⟩:=S1.own i c e
    have np:p≠a:=fun q=> no ⟨i,c,e,q▸x⟩
    exact ⟨p,x,y,by rw [I6 np];exact z,w⟩
  · by_cases hb:b=a
    · subst hb;rw [R4] at e;cases e;exact ⟨dx,[],upd_same,rfl,.nil⟩
    · rw [I6 hb] at e;exact S1.hp b o e
  · by_cases hb:b=a
    · subst hb;exact h0
    · rw [I6 hb] at e;exact S1.ext b o e y
  · by_cases hb:p=a
    · subst hb;exact n
    · rw [I6 hb,y] at e;cases e
end
section
variable {X:Cx} {G:Gx} {sp:B8} {C:Str} {st:Stmt} {k j n:Nat} {ps:List Str} {e:Expr} {es:List Expr} {pos p:Pos} {t:E5} {E:AExc→A0→AH→Prop}
theorem B8l {CX:CXT} {sp:Sp} {C f:Addr} {fd:FuncData} {pins:List (Addr×Obj)} {σ:L2.St} {H:Hp} {s:Shared} {Q:VK} {E:XK} {us:List Value} {vs:List V} (M:Mk X.K C f) (F:FnOk X.prog X.w X.K X.mg X.base CX k f fd ps sp) (hr:Room (k+1) X.A) (hb:Binds X.K fd ps [])
    (hx:PassesAt CX X σ E) (I:Inv X pins σ H s) (r:Vals vs us)
    (h:∀x dx,H x=none→H dx=none→dx≠x→sp (.ref x::vs) (upd (upd H dx (.own x)) x (.ins C dx [])) (fun v H2=> v= .non∧Q (.ref x) H2) E):
    wpAny (model X.prog X.w) X.A (call (.ref C) us) (EP X pins σ Q) X.xe s:=by
  have hq:=h (s.heap.objs.size+1) s.heap.objs.size (I.hok.fresh (Nat.le_succ _)) (I.hok.fresh (Nat.le_refl _)) (Nat.ne_of_lt (Nat.lt_succ_self _))
  have I2:=Inv.made (C:=C) I
  have r2:Vals (V.ref (s.heap.objs.size+1)::vs) (Value.ref (s.heap.objs.size+1)::us):= .cons rfl r
  have hl:(Value.ref (s.heap.objs.size+1)::us).length=ps.length:=by
    have e:=r2.length
    rw [F.len _ _ _ _ hq] at e
    exact e.symm
  refine wpAny_call (make_map (f:=f) I.kIn M.makes M.init (beq_iff_eq.mp M.fn) (codeAny_mono (F.run _ X.stack _ _ ⟨Value.ref (s.heap.objs.size+1)::us,[]⟩ (Value.ref (s.heap.objs.size+1)::us) _ _ E (hr.make C us [])
    (I2.env0.make C us []) (by have z:=hb _ (Value.ref (s.heap.objs.size+1)::us) I2.kIn (by rw [List.append_nil];exact hl);rw [List.append_nil] at z;exact z) r2 hq) fun r s' hq'=> ?_))
  cases r with
  | error e=> exact hx pins _ _ e s' I2 hq'
  | ok fl=>
    cases fl with
    | ret u=>
      obtain ⟨v,H',I3,rv,ev,q3⟩:=I2.after hq'
      subst ev
      exact ⟨rv,⟨V.ref (s.heap.objs.size+1),H',I3,rfl,q3⟩⟩
    | next=> exact False.elim hq'
    | brk=> exact False.elim hq'
    | cont=> exact False.elim hq'
theorem B9U {ws:List W} {vs:List V} {env env1:A0} {h h1:AH} {σ:L2.St} {H H1:Hp} {Q:VK} (hl:ws.length=n) (S1:BS G env1 h1 σ H1) (x1:Xt env h σ H env1 h1 H1) (r:RepL G.K H1 ws vs)
    (z:∀a,h1 a=none→sp (.ref a::ws) (D6 h1 a (.ins C [])) (kMk (fun r e g=> ∀v H',BS G e g σ H'→Xt env h σ H e g H'→RvRep G e g σ H' r v→Q9 H r v→Q v H') env1 a) fun x h3=> E x env1 h3):
    ∀x dx,H1 x=none→H1 dx=none→dx≠x→R9 G.K (n+1) sp (.ref x::vs) (upd (upd H1 dx (.own x)) x (.ins (He.ga G.K C) dx [])) (fun v H2=> v= .non∧Q (.ref x) H2) (WE (cW G E) σ):=fun a dx na nd ne=> by
  obtain ⟨ha,_,_⟩:=S1.noAt na
  obtain ⟨S2,x2⟩:=S1.made (C:=C) na nd ne
  refine ⟨.ref a::ws,_,_,_,by rw [List.length_cons,hl],S2.hp,S2.tabs,.cons .ref (RepL.mono (x2.keeps S1) _ _ r),z a ha,fun r h' v H' ⟨y1,y⟩ c rr=> ?_,fun x h' cls d H' y c xr=> ?_⟩
  · obtain ⟨S3,x3⟩:=S2.after c
    subst y1
    exact ⟨Rep.of_non (K:=G.K) (H:=H') rr,y (.ref a) H' S3 (x1.trans (x2.trans x3)) (show Rep G.K H' (.ref a) (.ref a) from .ref) trivial⟩
  · obtain ⟨S3,x3⟩:=S2.after c
    exact ⟨x,env1,h',S3,xr,y⟩
theorem C0U (gk:G.K=X.K) (MC:MkC X.K X.mg C) (O:OkM X.prog X.w X.K X.mg X.base C "__init__" st k (n+1) ps [] sp) (bd:U7 C "__init__" st ps) (hr:Room j X.A) (kj:k+1≤j) (hg:Gl X C) (tk:Takes X (cW G E)) (ha:AN X G (e::es) n t)
    (hdb:(C==("__debug__":Str))=false:=by decide) (he:starEach (e::es) X.env=(false,eval e X.env)::starEach es X.env:=by rfl) (hpl:(backTo pos (starEach es X.env)).any (·.1)=false:=by rfl):
    AE X G (.Call (.Name C p) (e::es) [] pos) (aMake C E sp t):=by
  obtain ⟨f,fd,M,FD,F⟩:=O.ex
  have F:FnOk X.prog X.w X.K X.mg X.base (L2.CX X.prog X.w) k f fd ps (R9 G.K (n+1) sp):=gk▸F
  refine ⟨aMake.mono O.sm ha.aa.mono,⟨fun pins s σ H Q I ⟨env,h,S,q⟩=> ?_⟩⟩
  refine wpAny_Call_Name_kw (ld_glob I hg MC.gl ?_ hdb)
  refine PySem.W.callWith_K (h₀:=X.base) I.ok.mod.kin MC.kp (thn (ha.aa.pa.run pos pins s σ H (fun vs H1=> ∀x dx,H1 x=none→H1 dx=none→dx≠x→R9 G.K (n+1) sp (.ref x::vs) (upd (upd H1 dx (.own x)) x (.ins (He.ga X.K C) dx [])) (fun v H2=> v= .non∧Q (.ref x) H2) (WE (cW G E) σ)) I
    ⟨env,h,S,ha.aa.mono env h _ _ (fun ws env1 h1 ⟨hl,z⟩ vs H1 S1 x1 r1=> ?_) (ha.ln env h _ q)⟩) fun us s1 ⟨vs,H1,I1,r,q⟩=> ⟨I1.kIn,?_⟩) he hpl
  · exact B8l ⟨MC.makes,M.at_,M.fn,MC.kp⟩ F (hr.mono kj) (FD.bindsN bd) (passAt tk σ) I1 r q
  · rw [←gk]
    exact B9U hl S1 x1 r1 z
end
section
variable {P:Program} {w:World} {K:PySem.W.Frag} {mg:Str→Option Value} {base:Heap} {C m:Str} {st:Stmt} {f:Addr} {fd:FuncData} {N ps:List Str} {k n:Nat} {kws:List (Str×V)} {sp:B8}
theorem OkM.mk' {t:(AExc→A0→AH→Prop)→C0} (sm:L6 sp) (cl:Cls K (He.ga K C)) (M:Meth K (He.ga K C) m f) (F:FunD K m (C++"."++m) (defArgs st) (defBody st) (defScope st) [] kws f fd) (S:FnScope N ps (defScope st)) (hn:ps.length=n)
    (hb:∀(cdv:Value) (A:Around) (outer:List Env) (s:Shared) (H:Hp) (E:XK) (G:Gx) (E':AExc→A0→AH→Prop),Room k (A.deeper (envOfC (C++"."++m) (defScope st) s.heap.objs.size f cdv))→G.K=K→Takes (bx P w K mg base N (C++"."++m) (defScope st) f cdv A outer s H E) (cW G E')→
      ASs (bx P w K mg base N (C++"."++m) (defScope st) f cdv A outer s H E) G (defBody st) (t E'))
    (hq:∀ws h Qa Ea,ws.length=n→sp ws h Qa Ea→t (C7 Ea) (C2 Qa) (F8 N.length ws) h):OkM P w K mg base C m st (k+1) n ps kws sp:=
  ⟨sm,cl,f,fd,M,F,A9h [] kws F S hn hb hq⟩
end
end Ab
namespace Ab
open PySem PySem.Spec PyProof.Rows L2 RZ
def smap (l:List (Str×W)):List (W×W):=l.map fun p=> (W.str p.1,p.2)
def g8 (l:List (Str×W)) (s:Str) (w:W):List (Str×W):=if (l.any fun p=> decide (p.1=s))=true then l.map (fun p=> if p.1=s then (p.1,w) else p) else l++[(s,w)]
def n5 (l:List (Str×W)) (s:Str):List (Str×W):=l.filter fun p=> decide (p.1≠s)
abbrev V8 (l:List (Str×W)):W:=(Cont.map (smap l)).fz
section
variable {K:PySem.W.Frag} {H:Hp}
theorem B2A (l:List (Str×W)):((smap l).map (·.1)).map A0f=l.map fun q=> some (Sum.inr q.1):=by
  simp only [smap,List.map_map];rfl
theorem A58 (l:List (Str×W)):(smap l).map (·.2)=l.map (·.2):=by
  simp only [smap,List.map_map];rfl
theorem B1W {α:Type}:∀{a b:List α},a.map some=b.map some→a=b
  | [],[],_=> rfl
  | [],_::_,e=> by cases e
  | _::_,[],e=> by cases e
  | x::a,y::b,e=> by
    rw [List.map_cons,List.map_cons] at e
    injection e with e1 e2
    rw [Option.some.inj e1,B1W e2]
theorem A8y {l:List (Str×W)} {ks:List (Key×V)} (e:((smap l).map (·.1)).map A0f=ks.map (fun q=> some q.1)):ks.map (·.1)=l.map fun q=> Sum.inr q.1:=by
  rw [B2A] at e
  have z:(ks.map (·.1)).map some=(l.map fun q=> (Sum.inr q.1:Key)).map some:=by
    rw [List.map_map,List.map_map];exact e.symm
  exact B1W z
theorem A9y {l:List (Str×W)} {ks:List (List Key×V)} (e:∃r,(smap l).map (·.1)= .lst []::r∧r.map B0W=ks.map (fun q=> some q.1)):False:=by
  obtain ⟨r,e,_⟩:=e
  cases l with
  | nil=> cases e
  | cons p l=> cases e
theorem A41 {p:Addr} {l:List (Str×W)} (h:CRep K H p (.map (smap l))):∃ks,H p=some (.dK ks)∧ks.map (·.1)=l.map (fun q=> Sum.inr q.1)∧RepL K H (l.map (·.2)) (ks.map (·.2)):=by
  rcases h with ⟨ks,e,a,b⟩ | ⟨ks,e,a,b⟩
  · exact ⟨ks,e,A8y a,A58 l▸b⟩
  · exact (A9y a).elim
theorem A9t {p:Addr} {l:List (Str×W)} {ks:List (Key×V)} (e:H p=some (.dK ks)) (a:ks.map (·.1)=l.map (fun q=> Sum.inr q.1)) (b:RepL K H (l.map (·.2)) (ks.map (·.2))):CRep K H p (.map (smap l)):=by
  refine .inl ⟨ks,e,?_,(A58 l).symm▸b⟩
  rw [B2A]
  have z:=congrArg (List.map some) a
  rw [List.map_map,List.map_map] at z
  exact z.symm
theorem VR.smap {v:Vw} {x:V} {l:List (Str×W)} (r:VR K H v x) (e:v.toW=V8 l):∃p ks,x= .ref p∧Rd H p (.dK ks)∧ks.map (·.1)=l.map (fun q=> Sum.inr q.1)∧RepL K H (l.map (·.2)) (ks.map (·.2)):=by
  cases v with
  | bad=> cases e
  | cv c=>
    cases c with
    | seq ws=> cases e
    | map kvs=>
      obtain ⟨p,ex,c⟩:=r
      have e1:kvs.map (·.1)=(Ab.smap l).map (·.1):=by injection e
      have e2:kvs.map (·.2)=(Ab.smap l).map (·.2):=by injection e
      rcases c with ⟨ks,a,b,d⟩ | ⟨ks,a,b,d⟩
      · rw [e1] at b;rw [e2,A58] at d
        exact ⟨p,ks,ex,.inl a,A8y b,d⟩
      · rw [e1] at b
        exact (A9y b).elim
  | wv w=>
    have e:w=V8 l:=e
    subst e
    have z:Rep K H (.dct ((Ab.smap l).map (·.1)) ((Ab.smap l).map (·.2))) x:=r
    simp only [Rep] at z
    obtain ⟨p,ex,⟨o,ks,a,b,d⟩ | ⟨o,ks,a,b,d⟩⟩:=z
    · rw [A58] at d
      exact ⟨p,ks,ex,.inr ⟨o,a⟩,A8y b,d⟩
    · exact (A9y b).elim
theorem A7G {s:Str}:∀{l:List (Str×W)} {ks:List (Key×V)},ks.map (·.1)=l.map (fun q=> Sum.inr q.1)→RepL K H (l.map (·.2)) (ks.map (·.2))→
    (l.lookup s=none∧valV ks (.inr s)=none)∨∃w v,l.lookup s=some w∧valV ks (.inr s)=some v∧Rep K H w v
  | [],[],_,_=> .inl ⟨rfl,rfl⟩
  | [],_::_,e,_=> by cases e
  | _::_,[],e,_=> by cases e
  | p::l,q::ks,e,r=> by
    rw [List.map_cons,List.map_cons] at e
    injection e with e1 e2
    obtain ⟨v,r1,e3,a,b⟩:=RepL.of_cons (w:=p.2) (ws:=l.map (·.2)) r
    rw [List.map_cons] at e3
    injection e3 with e3 e4
    subst e3 e4
    obtain ⟨g,w⟩:=p
    simp only [List.lookup]
    by_cases hs:s=g
    · subst hs
      rw [valV_pos e1]
      simp only [beq_self_eq_true]
      exact .inr ⟨w,q.2,rfl,rfl,a⟩
    · rw [valV_neg (show ¬q.1= .inr s from fun z=> hs (by rw [e1] at z;injection z with z;exact z.symm))]
      have hb:(s==g)=false:=beq_eq_false_iff_ne.mpr hs
      simp only [hb]
      exact A7G e2 b
theorem B2w {s:Str}:∀{l:List (Str×W)} {ks:List (Key×V)},ks.map (·.1)=l.map (fun q=> Sum.inr q.1)→(ks.any fun kv=> decide (kv.1= .inr s))=l.any fun p=> decide (p.1=s)
  | [],[],_=> rfl
  | [],_::_,e=> by cases e
  | _::_,[],e=> by cases e
  | p::l,q::ks,e=> by
    rw [List.map_cons,List.map_cons] at e
    injection e with e1 e2
    rw [List.any_cons,List.any_cons,B2w e2,e1]
    simp only [Sum.inr.injEq]
theorem B9c {s:Str} {w:W} {v:V} {l:List (Str×W)} {ks:List (Key×V)} (e:ks.map (·.1)=l.map (fun q=> Sum.inr q.1)) (r:RepL K H (l.map (·.2)) (ks.map (·.2))) (rw0:Rep K H w v):
    (putK ks (.inr s) v).map (·.1)=(g8 l s w).map (fun q=> Sum.inr q.1)∧RepL K H ((g8 l s w).map (·.2)) ((putK ks (.inr s) v).map (·.2)):=by
  unfold putK g8
  rw [B2w e]
  by_cases g:(l.any fun p=> decide (p.1=s))=true
  · rw [if_pos g,if_pos g]
    clear g
    induction l generalizing ks with
    | nil=>
      cases ks with
      | nil=> exact ⟨rfl,.nil⟩
      | cons q ks=> cases e
    | cons p l ih=>
      cases ks with
      | nil=> cases e
      | cons q ks=>
        rw [List.map_cons,List.map_cons] at e
        injection e with e1 e2
        obtain ⟨v',r1,e3,a,b⟩:=RepL.of_cons (w:=p.2) (ws:=l.map (·.2)) r
        rw [List.map_cons] at e3
        injection e3 with e3 e4
        subst e3 e4
        obtain ⟨i1,i2⟩:=ih e2 b
        by_cases hs:p.1=s
        · have hq:q.1= .inr s:=by rw [e1,hs]
          simp only [List.map_cons,if_pos hs,if_pos hq]
          exact ⟨by rw [i1,e1],.cons rw0 i2⟩
        · have hq:¬q.1= .inr s:=fun z=> hs (by rw [e1] at z;injection z)
          simp only [List.map_cons,if_neg hs,if_neg hq]
          exact ⟨by rw [i1,e1],.cons a i2⟩
  · rw [if_neg g,if_neg g,List.map_append,List.map_append,List.map_append,List.map_append]
    exact ⟨by rw [e];rfl,r.append (.cons rw0 .nil)⟩
theorem B2H {s:Str}:∀{l:List (Str×W)} {ks:List (Key×V)},ks.map (·.1)=l.map (fun q=> Sum.inr q.1)→RepL K H (l.map (·.2)) (ks.map (·.2))→
    (dropK ks (.inr s)).map (·.1)=(n5 l s).map (fun q=> Sum.inr q.1)∧RepL K H ((n5 l s).map (·.2)) ((dropK ks (.inr s)).map (·.2))
  | [],[],_,_=> ⟨rfl,.nil⟩
  | [],_::_,e,_=> by cases e
  | _::_,[],e,_=> by cases e
  | p::l,q::ks,e,r=> by
    rw [List.map_cons,List.map_cons] at e
    injection e with e1 e2
    obtain ⟨v',r1,e3,a,b⟩:=RepL.of_cons (w:=p.2) (ws:=l.map (·.2)) r
    rw [List.map_cons] at e3
    injection e3 with e3 e4
    subst e3 e4
    obtain ⟨i1,i2⟩:=B2H (s:=s) e2 b
    unfold dropK n5 at i1 i2 ⊢
    by_cases hs:p.1=s
    · have hq:q.1= .inr s:=by rw [e1,hs]
      rw [List.filter_cons_of_neg (p:=fun p:Str×W=> decide (p.1≠s)) (by simp [hs]),List.filter_cons_of_neg (p:=fun kv:Key×V=> decide (kv.1≠Sum.inr s)) (by rw [hq];simp)]
      exact ⟨i1,i2⟩
    · have hq:¬q.1= .inr s:=fun z=> hs (by rw [e1] at z;injection z)
      rw [List.filter_cons_of_pos (p:=fun p:Str×W=> decide (p.1≠s)) (by simp [hs]),List.filter_cons_of_pos (p:=fun kv:Key×V=> decide (kv.1≠Sum.inr s)) (decide_eq_true hq)]
      exact ⟨by rw [List.map_cons,List.map_cons,i1,e1],.cons a i2⟩
end
def inM (neg:Bool) (v:Vw) (w:W) (Q:RV→Prop):Prop:=∃l s,v.toW=V8 l∧w= .str s∧Q (.val (.bl (if neg=true then !(l.lookup s).isSome else (l.lookup s).isSome)))
def aInM (neg:Bool) (tk:C3) (to:AT):AT:=fun env h Q=> tk env h fun w env1 h1=> to env1 h1 fun r env2 h2=> inM neg (view env2 h2 r) w fun x=> Q x env2 h2
theorem aInM.mono {neg:Bool} {tk:C3} {to:AT} (m:A9 tk) (n:A9 to):A9 (aInM neg tk to):=fun env h Q Q' k q=> m env h _ _ (fun w e g z=> n e g _ _ (fun r e g ⟨l,s,z1,z2,z3⟩=> ⟨l,s,z1,z2,k _ _ _ z3⟩) z) q
section
variable {X:Cx} {G:Gx} {o k e:Expr} {pos pos':Pos} {tk tv:C3} {to:AT}
theorem B29 {neg:Bool} {σ:L2.St} {H:Hp} {Q:VK} (mk:A9 tk) (mo:A9 to) (q:cE G (aInM neg tk to) σ H Q):
    cV G tk σ H fun y H1=> cE G to σ H1 fun x H2=> ∃a o,x= .ref a∧DGet H2 a y o∧Q (.bl (if neg=true then !o.isSome else o.isSome)) H2:=by
  obtain ⟨env,h,S,q⟩:=q
  refine ⟨env,h,S,mk env h _ _ (fun w env1 h1 z y H1 S1 x1 r1=> ?_) q⟩
  refine ⟨env1,h1,S1,mo env1 h1 _ _ (fun r env2 h2 ⟨l,s,z1,z2,zz⟩ x H2 S2 x2 r2 f2=> ?_) z⟩
  obtain ⟨p,ks,ex,rd,e1,e2⟩:=(r2.vr S2).smap z1
  subst z2
  have ey:y= .str s:=Rep.of_str (K:=G.K) (H:=H1) r1
  subst ey
  refine ⟨p,valV ks (.inr s),ex,.inl ⟨ks,.inr s,rd,rfl,rfl⟩,?_⟩
  have eq:(valV ks (.inr s)).isSome=(l.lookup s).isSome:=by
    rcases A7G (s:=s) e1 e2 with ⟨a,b⟩ | ⟨w,v,a,b,_⟩ <;> rw [a,b] <;> rfl
  rw [eq]
  exact zz _ H2 S2 (x1.trans x2) (Rep.bl (K:=G.K) (H:=H2)) trivial
theorem B2n {neg:Bool} {σ:L2.St} {H:Hp} {Q:Bool→Hp→Prop} (mk:A9 tk) (mo:A9 to) (q:cT G (aTst (aInM neg tk to)) σ H Q):cE G (aInM neg tk to) σ H fun v H'=> ∃b,v= .bl b∧Q b H':=by
  obtain ⟨env,h,S,q⟩:=q
  refine ⟨env,h,S,mk env h _ _ (fun w env1 h1 z=> mo env1 h1 _ _ (fun r env2 h2 ⟨l,s,z1,z2,z⟩=> ⟨l,s,z1,z2,fun v H1 S1 x1 r1 _=> ?_⟩) z) q⟩
  exact ⟨_,Rep.of_bl (K:=G.K) (H:=H1) r1,z H1 S1 x1⟩
theorem C2S (hu:X.A.units+64 < cLine) (hk:AV X G k tk) (ho:AE X G o to) (h1:behindInMarks .In o=false:=by rfl):AP X G (.Compare k [.In] [o] pos) (aTst (aInM false tk to)):=
  ⟨aTst.mono (aInM.mono hk.mono ho.mono),PT.imp (pt_cmp (pc_din (by omega) hk.pe ho.pe) h1) fun σ H Q q=> B29 hk.mono ho.mono (B2n hk.mono ho.mono q)⟩
theorem B98 (hu:X.A.units+64 < cLine) (hk:AV X G k tk) (ho:AE X G o to) (h1:behindInMarks .NotIn o=false:=by rfl):AP X G (.Compare k [.NotIn] [o] pos) (aTst (aInM true tk to)):=
  ⟨aTst.mono (aInM.mono hk.mono ho.mono),PT.imp (pt_cmp (pc_dnotin (by omega) hk.pe ho.pe) h1) fun σ H Q q=> B29 hk.mono ho.mono (B2n hk.mono ho.mono q)⟩
def A5D (v:Vw) (w:W) (Q:RV→Prop):Prop:=∃l s u,v.toW=V8 l∧w= .str s∧l.lookup s=some u∧Q (.val u)
def aGetM (to:AT) (tk:C3):AT:=fun env h Q=> to env h fun r env1 h1=> tk env1 h1 fun w env2 h2=> A5D (view env2 h2 r) w fun x=> Q x env2 h2
theorem aGetM.mono {tk:C3} {to:AT} (n:A9 to) (m:A9 tk):A9 (aGetM to tk):=fun env h Q Q' k q=> n env h _ _ (fun r e g z=> m e g _ _ (fun w e g ⟨l,s,u,z1,z2,z3,z4⟩=> ⟨l,s,u,z1,z2,z3,k _ _ _ z4⟩) z) q
theorem A6Z (hu:X.A.units+64 < cLine) (ho:AE X G o to) (hk:AV X G k tk) (hs:NoSl k):AE X G (.Subscript o k pos) (aGetM to tk):=by
  refine ⟨aGetM.mono ho.mono hk.mono,PE.imp (pe_dget (by omega) ho.pe hk.pe hs) fun σ H Q ⟨env,h,S,q⟩=> ?_⟩
  refine ⟨env,h,S,ho.mono env h _ _ (fun r env1 h1 z x H1 S1 x1 r1 f1=> ?_) q⟩
  refine ⟨env1,h1,S1,hk.mono env1 h1 _ _ (fun w env2 h2 ⟨l,s,u,z1,z2,z3,z⟩ y H2 S2 x2 r2=> ?_) z⟩
  obtain ⟨p,ks,ex,rd,e1,e2⟩:=((r1.xt S1 x2).vr S2).smap z1
  subst z2
  have ey:y= .str s:=Rep.of_str (K:=G.K) (H:=H2) r2
  subst ey
  rcases A7G (s:=s) e1 e2 with ⟨a,b⟩ | ⟨w,v,a,b,rv⟩
  · rw [a] at z3;cases z3
  · rw [a] at z3;cases z3
    exact ⟨p,v,ex,.inl ⟨ks,.inr s,rd,rfl,b.symm⟩,z v H2 S2 (x1.trans x2) rv trivial⟩
def C4J (env:A0) (h:AH) (r:RV) (w v:W) (K:A0→AH→Prop):Prop:=∃l s,Q6 env h r=some (.map (smap l))∧w= .str s∧l.length < sizeLine∧K (A0b env r (.map (smap (g8 l s v)))) (A0a h r (.map (smap (g8 l s v))))
def A7P (tv:C3) (to:AT) (tk:C3):C0:=fun D env h=> tv env h fun v env1 h1=> to env1 h1 fun r env2 h2=> tk env2 h2 fun w env3 h3=> C4J env3 h3 r w v D.nx
theorem B38 (hu:X.A.units+64 < cLine) (hv:AV X G e tv) (ho:AE X G o to) (hk:AV X G k tk) (hs:swapsWith e (some (.Subscript o k pos')) pos.line X.env=pure false:=by rfl):
    AS X G (.Assign [.Subscript o k pos'] e pos) (A7P tv to tk):=by
  refine ⟨fun D D' env h l q=> hv.mono env h _ _ (fun v e1 h1 z=> ho.mono e1 h1 _ _ (fun r e2 h2 z=> hk.mono e2 h2 _ _ (fun w e3 h3 ⟨l',s,z1,z2,z3,z4⟩=> ⟨l',s,z1,z2,z3,l.nx _ _ z4⟩) z) z) q,PS.imp (ps_dput (by omega) ho.pe hk.pe hv.pe hs) fun D σ H ⟨env,h,Da,S,q,l⟩=> ?_⟩
  refine ⟨env,h,S,hv.mono env h _ _ (fun v env1 h1 z vv H1 S1 x1 r1=> ?_) q⟩
  refine ⟨env1,h1,S1,ho.mono env1 h1 _ _ (fun r env2 h2 z x H2 S2 x2 r2 f2=> ?_) z⟩
  refine ⟨env2,h2,S2,hk.mono env2 h2 _ _ (fun w env3 h3 ⟨l',s,z1,z2,z3,z⟩ y H3 S3 x3 r3=> ?_) z⟩
  subst z2
  have ey:y= .str s:=Rep.of_str (K:=G.K) (H:=H3) r3
  subst ey
  obtain ⟨p,ex,cr,put⟩:=A2Y S3 (r2.xt S2 x3) z1
  obtain ⟨ks,e0,e1,e2⟩:=A41 cr
  have lk:ks.length=l'.length:=by have:=congrArg List.length e1;simpa using this
  have rv:Rep G.K H3 v vv:=Rep.mono ((x2.keeps S1).trans (x3.keeps S2)) v vv r1
  obtain ⟨S4,x4⟩:=put (.dK (putK ks (.inr s) vv)) (.map (smap (g8 l' s v))) fun kp=> by
    obtain ⟨a,b⟩:=B9c (s:=s) e1 (RepL.mono kp _ _ e2) (Rep.mono kp v vv rv)
    exact A9t upd_same a b
  exact ⟨p,_,ex,DPut.k (k:= .inr s) e0 (by omega),l.nx _ _ _ _ S4 ((x1.trans (x2.trans (x3.trans x4))).keeps S) z⟩
def C4Q (env:A0) (h:AH) (r:RV) (w:W) (K:A0→AH→Prop):Prop:=∃l s,Q6 env h r=some (.map (smap l))∧w= .str s∧(l.lookup s).isSome=true∧K (A0b env r (.map (smap (n5 l s)))) (A0a h r (.map (smap (n5 l s))))
def A7K (to:AT) (tk:C3):C0:=fun D env h=> to env h fun r env1 h1=> tk env1 h1 fun w env2 h2=> C4Q env2 h2 r w D.nx
theorem B3W (ho:AE X G o to) (hk:AV X G k tk):AS X G (.Delete [.Subscript o k pos'] pos) (A7K to tk):=by
  refine ⟨fun D D' env h l q=> ho.mono env h _ _ (fun r e2 h2 z=> hk.mono e2 h2 _ _ (fun w e3 h3 ⟨l',s,z1,z2,z3,z4⟩=> ⟨l',s,z1,z2,z3,l.nx _ _ z4⟩) z) q,PS.imp (ps_ddel ho.pe hk.pe) fun D σ H ⟨env,h,Da,S,q,l⟩=> ?_⟩
  refine ⟨env,h,S,ho.mono env h _ _ (fun r env2 h2 z x H2 S2 x2 r2 f2=> ?_) q⟩
  refine ⟨env2,h2,S2,hk.mono env2 h2 _ _ (fun w env3 h3 ⟨l',s,z1,z2,z3,z⟩ y H3 S3 x3 r3=> ?_) z⟩
  subst z2
  have ey:y= .str s:=Rep.of_str (K:=G.K) (H:=H3) r3
  subst ey
  obtain ⟨p,ex,cr,put⟩:=A2Y S3 (r2.xt S2 x3) z1
  obtain ⟨ks,e0,e1,e2⟩:=A41 cr
  obtain ⟨S4,x4⟩:=put (.dK (dropK ks (.inr s))) (.map (smap (n5 l' s))) fun kp=> by
    obtain ⟨a,b⟩:=B2H (s:=s) e1 (RepL.mono kp _ _ e2)
    exact A9t upd_same a b
  refine ⟨p,ks,.inr s,ex,e0,rfl,?_,l.nx _ _ _ _ S4 ((x2.trans (x3.trans x4)).keeps S) z⟩
  rcases A7G (s:=s) e1 e2 with ⟨a,b⟩ | ⟨w,v,a,b,rv⟩
  · rw [a] at z3;cases z3
  · rw [b];rfl
def A6m:AT:=fun env h Q=> Q (.own (.map (smap []))) env h
theorem B2s {pos:Pos}:AE X G (.Dict [] [] pos) A6m:=by
  refine ⟨fun env h Q Q' k q=> k _ _ _ q,PE.imp pe_dnewK fun σ H Q ⟨env,h,S,q⟩ p n=> ?_⟩
  obtain ⟨S2,x2,r2,f2⟩:=A8s S .refl n (o:= .dK []) (c:= .map (smap [])) fun nw=> A9t upd_same rfl .nil
  exact q _ _ S2 x2 r2 f2
end
def u6:L4:=fun as Q=> match as with
  | [.cv (.map kvs)]=> ∃l,kvs=smap l∧Q (.val (.int l.length))
  | _=> False
theorem B3E {K:PySem.W.Frag}:CallA K (fun xs H Q=> ∃a kvs,xs=[V.ref a]∧H a=some (.dK kvs)∧Q (.int kvs.length) H) u6:=
  ⟨fun as Q Q' k q=> by
    unfold u6 at q ⊢
    split at q
    · obtain ⟨l,e,q⟩:=q;exact ⟨l,e,k _ q⟩
    · exact q,fun as vs H Q0 Q r q k=> by
    unfold u6 at q
    split at q
    · rename_i kvs
      obtain ⟨l,rfl,q⟩:=q
      obtain ⟨v,rfl,p,ex,c⟩:=r.one
      obtain ⟨ks,e0,e1,e2⟩:=A41 c
      subst ex
      have lk:ks.length=l.length:=by have:=congrArg List.length e1;simpa using this
      exact ⟨p,ks,rfl,e0,k _ _ (.val q (by rw [lk];exact .int))⟩
    · exact q.elim⟩
def A0u:L4:=fun as Q=> match as with
  | [.cv (.map kvs)]=> ∃l,kvs=smap l∧Q (.own (.seq (l.map fun p=> W.str p.1)))
  | _=> False
theorem B2j {K:PySem.W.Frag} {H:Hp}:∀{l:List (Str×W)} {ks:List (Key×V)},ks.map (·.1)=l.map (fun q=> Sum.inr q.1)→RepL K H (l.map fun p=> W.str p.1) (ks.map fun kv=> kV kv.1)
  | [],[],_=> .nil
  | [],_::_,e=> by cases e
  | _::_,[],e=> by cases e
  | p::l,q::ks,e=> by
    rw [List.map_cons,List.map_cons] at e
    injection e with e1 e2
    rw [List.map_cons,List.map_cons,e1]
    exact .cons .str (B2j e2)
theorem B9P {K:PySem.W.Frag}:CallA K rListD A0u:=
  ⟨fun as Q Q' k q=> by
    unfold A0u at q ⊢
    split at q
    · obtain ⟨l,e,q⟩:=q;exact ⟨l,e,k _ q⟩
    · exact q,fun as vs H Q0 Q r q k=> by
    unfold A0u at q
    split at q
    · rename_i kvs
      obtain ⟨l,rfl,q⟩:=q
      obtain ⟨v,rfl,p,ex,c⟩:=r.one
      obtain ⟨ks,e0,e1,e2⟩:=A41 c
      subst ex
      exact ⟨p,ks,rfl,e0,fun l' n=> k _ _ (.lst n q (B2j e1))⟩
    · exact q.elim⟩
end Ab
namespace Ab
open PySem PySem.Spec PyProof.Rows L2 RZ
theorem B5I {a b:Vw} {neg:Bool} {Q:RV→Prop}:V9 neg a b Q=(match b.items with
  | some xs=> a.ok=true∧xs.all (W.dat 60)=true∧Q (.val (.bl (if neg then !o4 a.toW xs else o4 a.toW xs)))
  | none=> False):=by
  unfold V9
  cases b.items <;> simp
theorem B8q {x y:W} {ys:List W}:o4 x (y::ys)=(M1 y x || o4 x ys):=rfl
def i4 (casks:Int):List Int→List Int→Int→Option Int
  | _,[],_=> none
  | seen,c::r,k=> if ¬(0≤c∧c < casks)∨c∈seen then some k else i4 casks (seen++[c]) r (k+1)
theorem C4e {x:W} {xs:List W}:atI (x::xs) 0=some x:=atI_nat (j:=0) rfl
theorem C4U {x y:W} {xs:List W}:atI (x::y::xs) 1=some y:=atI_nat (j:=1) rfl
theorem C39 {x y z:W} {xs:List W}:atI (x::y::z::xs) 2=some z:=atI_nat (j:=2) rfl
end Ab
namespace Ab
open PySem PySem.Spec PyProof.Rows L2 RZ
def C4I (K:PySem.W.Frag) (tl:TE):TI:=fun σ H R=> tl σ H fun x H1=>
  ∃a,x= .ref a∧(((∃xs,SqL K H1 a xs)∧R (Itl K a) H1)∨((∃xs,SqT K H1 a xs)∧R (Itt K a) H1))
theorem B44 {X:Cx} {tg l:Expr} {tl:TE} (hl:PE X l tl):PI X tg l (C4I X.K tl):=by
  constructor
  intro pins s σ H R I h
  refine thn (hl.run pins s σ H _ I h) ?_
  rintro v s1 ⟨x,H1,I1,r1,a,rfl,q⟩
  cases r1
  have fp:∀b∈[s1.heap.objs.size],FpOk X pins H1 b:=by
    intro b hb
    obtain rfl:b=s1.heap.objs.size:=by simpa using hb
    exact I1.fpOk (Nat.le_refl _) (I1.hok.fresh (Nat.le_refl _))
  rcases q with ⟨⟨xs,hq⟩,q⟩ | ⟨⟨xs,hq⟩,q⟩
  · obtain ⟨its,rv,p,hz⟩:=I1.list hq
    apply wpAny_pyIter_list p.isList
    exact ⟨_,[s1.heap.objs.size],_,_,H1,rfl,
      I1.kept (t':=s1.toks) fun b o e=> Heap.get?_push_of_some _ e,turn_list a _,⟨_,Heap.get?_push_size _ rfl,rfl,rfl⟩,fp,q⟩
  · obtain ⟨its,rv,p,hz⟩:=I1.tuple hq
    apply wpAny_pyIter_tuple (show s1.heap.IsTuple a its.toArray from p)
    exact ⟨_,[s1.heap.objs.size],_,_,H1,rfl,
      I1.kept (t':=s1.toks) fun b o e=> Heap.get?_push_of_some _ e,turn_tuple a _,⟨_,Heap.get?_push_size _ rfl,rfl,rfl⟩,fp,q⟩
def iSq (t:C3):U2:=fun env h Q=> t env h fun w env' h'=> match w with
  | .lst ws=> Q ws env' h'
  | .tup ws=> Q ws env' h'
  | _=> False
theorem iSq.mono {t:C3} (m:A9 t):A9 (iSq t):=fun env h Q Q' k q=> m env h _ _ (fun w e g z=> by
  split at z
  · exact k _ _ _ z
  · exact k _ _ _ z
  · exact z) q
section
variable {X:Cx} {G:Gx} {tg e:Expr} {st:Stmt}
theorem B4n {t:C3} (gk:G.K=X.K) (a:AV X G e t):AI X G tg e (iSq t):=by
  refine ⟨iSq.mono a.mono,PI.imp (B44 a.pe) fun σ H R ⟨env,h,S,q⟩=> ?_⟩
  refine ⟨env,h,S,a.mono env h _ _ (fun w env1 h1 z v H1 S1 x1 r1=> ?_) q⟩
  cases w with
  | lst ws=>
    obtain ⟨p,vs,rfl,l,r⟩:=Rep.of_lst r1
    exact ⟨p,rfl,.inl ⟨⟨vs,l.sq⟩,z _ H1 S1 x1 (gk▸B15 l r)⟩⟩
  | tup ws=>
    obtain ⟨p,vs,rfl,l,r⟩:=Rep.of_tup r1
    exact ⟨p,rfl,.inr ⟨⟨vs,gk▸l⟩,z _ H1 S1 x1 (gk▸B2D l r)⟩⟩
  | _=> exact z.elim
def aFrz (i:Nat) (t:C0):C0:=fun D env h=> match env[i]? with
  | some (some (.own c))=> t D (env.set i (some (.val c.fz))) h
  | some (some (.val _))=> t D env h
  | _=> False
theorem aFrz.mono {i:Nat} {t:C0} (m:n8 t):n8 (aFrz i t):=fun D D' env h l q=> by
  unfold aFrz at q ⊢
  split at q
  · exact m _ _ _ _ l q
  · exact m _ _ _ _ l q
  · exact q
theorem A9K (i:Nat) {t:C0} (a:AS X G st t):AS X G st (aFrz i t):=by
  refine ⟨aFrz.mono a.mono,⟨fun pins s σ H Q I ⟨env,h,Da,S,q,l⟩=> ?_⟩⟩
  unfold aFrz at q
  split at q
  · rename_i c e
    obtain ⟨p,H2,es,I2,S2,x2,r2⟩:=A8M (env:=env) (env':=env) (H:=H) (H1:=H) S .refl I e
    exact a.ps.run pins s σ H2 Q I2 ⟨_,h,Da,S2,q,l.from (x2.keeps S)⟩
  · exact a.ps.run pins s σ H Q I ⟨env,h,Da,S,q,l⟩
  · exact q.elim
end
theorem B9Y {prog:Program} {w:World} {A:Around} {E:Value→Shared→Prop} {s:Shared} {l:Addr} {its:List Value} {ns:List Int} {Q:Value→Shared→Prop} (hh:A.handled=none)
    (hl:s.heap.IsTuple l its.toArray) (hi:IntsAre its ns)
    (hq:∀h' tk t',(∀b o,s.heap.get? b=some o→h'.get? b=some o)→Q (.int ns.sum t') { s with heap:=h',toks:=tk }):
    wpAny (model prog w) A (call (.builtin "sum") [.ref l]) Q E s:=by
  obtain ⟨xs,e⟩:=hi.allInts.items
  have hn:=hi.numsOf
  have hn2:numsOf (intItems xs).toList=ns:=by rw [←e];exact hn
  rw [nums_intItems] at hn2
  rw [e] at hl
  have lt:l < s.heap.objs.size:=by
    obtain ⟨_,e,_⟩:=hl
    exact Heap.lt_size e
  refine call_sum_walkG (wpAny_pyIter_tuple hl ?_)
  refine ⟨_,_,_,_,_,_,numAt xs,rfl,Walks.tuple (A:=A.in1) hh s.heap.objs.size l (Nat.ne_of_lt lt) (intItems xs),⟨⟨_,Heap.get?_push_size _ rfl,rfl,rfl⟩,hl.push _⟩,fun b hb=> ?_,fun _ _=> intItems_at,fun h' tk t' hk=> ?_⟩
  · show b < (s.heap.push _).objs.size
    rw [Heap.size_push]
    simp only [List.mem_cons,List.not_mem_nil,or_false] at hb
    rcases hb with rfl | rfl
    · exact Nat.lt_succ_self _
    · exact Nat.lt_succ_of_lt lt
  · have k:∀b o,s.heap.get? b=some o→h'.get? b=some o:=fun b o e=> hk b o (fun hm=> by
      have:b=s.heap.objs.size:=by simpa using hm
      have h2:=Heap.lt_size e
      rw [this] at h2
      exact Nat.lt_irrefl _ h2) (Heap.get?_push_of_some _ e)
    have z:=hq h' tk t' k
    rw [preSum_eq,List.take_of_length_le (by simp [intItems]),hn2]
    exact z
section
variable {X:Cx}
def B4x (K:PySem.W.Frag):List V→Hp→VK→Prop:=fun vs H Q=> ∃(a:Addr) (ns:List Int),vs=[V.ref a]∧(SqL K H a (ns.map V.int)∨SqT K H a (ns.map V.int))∧Q (.int ns.sum) H
theorem C0A (hc:X.calm=true):CallR X (.builtin "sum") (B4x X.K):=by
  intro pins s σ H vs us Q I r h
  obtain ⟨a,ns,rfl,hs | hs,q⟩:=h
  · exact cr_sum hc pins s σ H _ us Q I r ⟨a,ns,rfl,hs,q⟩
  · obtain ⟨its,rv,hl,_⟩:=I.tuple hs
    rw [Vals.ref1 r]
    exact B9Y (I.ok.hd hc) (show s.heap.IsTuple a its.toArray from hl) rv.ints fun h' tk t' hk=> ⟨.int _,H,I.kept hk,⟨_,rfl⟩,q⟩
def o0:L4:=fun as Q=> match as with
  | [a]=> ∃ns:List Int,a.items=some (ns.map W.int)∧Q (.val (.int ns.sum))
  | _=> False
theorem C0z {K:PySem.W.Frag}:CallA K (B4x K) o0:=
  ⟨fun as Q Q' k q=> by
    unfold o0 at q ⊢
    split at q
    · obtain ⟨ns,e,q⟩:=q
      exact ⟨ns,e,k _ q⟩
    · exact q,fun as vs H Q0 Q r q k=> by
    unfold o0 at q
    split at q
    · obtain ⟨ns,e,q⟩:=q
      obtain ⟨v,rfl,r1⟩:=r.one
      obtain ⟨p,us,rfl,hs,rl⟩:=r1.items e
      rw [rl.of_ints] at hs
      exact ⟨p,ns,rfl,hs.imp_left n4,k _ _ (.val q .int)⟩
    · exact q.elim⟩
end
end Ab
namespace Ab
open PySem PySem.Spec PyProof.Rows L2 RZ
abbrev Z1:=A0→AH→((AH→Prop)→List W→A0→AH→Prop)→Prop
def A4w (t:Z1):Prop:=∀env h Q Q',(∀ok ws e k,Q ok ws e k→Q' ok ws e k)→t env h Q→t env h Q'
def A4f (G:Gx) (J:It) (H1:Hp) (ok:AH→Prop) (ws:List W):Prop:=∀h H,(∀a o,h a=some o→ORep G.K H a o)→Keeps H1 H→ok h→∀i:Nat,(ws.length≤i→J.stop i H)∧∀w,ws[i]? =some w→J.go i H∧∀x H',J.yld i H x H'→New H H'∧Rep G.K H' w x
def cIL (G:Gx) (t:Z1):TI:=fun σ H R=> ∃env h,BS G env h σ H∧t env h fun ok ws env' h'=> ∀J H',BS G env' h' σ H'→Xt env h σ H env' h' H'→A4f G J H' ok ws→R J H'
structure AI2 (X:Cx) (G:Gx) (tg iter:Expr) (t:Z1):Prop where
  mono:A4w t
  pi:PI X tg iter (cIL G t)
def C4A (t:U2):Z1:=fun env h Q=> t env h fun ws e k=> Q (fun _=> True) ws e k
theorem AI.two {X:Cx} {G:Gx} {tg e:Expr} {t:U2} (a:AI X G tg e t):AI2 X G tg e (C4A t):=
  ⟨fun env h Q Q' k q=> a.mono env h _ _ (fun ws e g z=> k _ _ _ _ z) q,PI.imp a.pi fun σ H R ⟨env,h,S,q⟩=> ⟨env,h,S,a.mono env h _ _ (fun ws e g z J H' S1 x1 gv=> z J H' S1 x1 fun _ H'' _ kk _=> gv H'' kk) q⟩⟩
def srcW (h:AH) (r:RV) (Q:(AH→Prop)→List W→Prop):Prop:=match r with
  | .val (.ref a)=> ∃ws,h a=some (.cont (.seq ws))∧Q (fun k=> k a=some (.cont (.seq ws))) ws
  | .val (.lst ws)=> Q (fun _=> True) ws
  | .val (.tup ws)=> Q (fun _=> True) ws
  | _=> False
def iLive (t:AT):Z1:=fun env h Q=> t env h fun r env1 h1=> srcW h1 r fun ok ws=> Q ok ws env1 h1
def iLvE (t:AT):Z1:=fun env h Q=> t env h fun r env1 h1=> srcW h1 r fun ok ws=> Q ok (U0 ws) env1 h1
theorem srcW.imp {h:AH} {r:RV} {Q Q':(AH→Prop)→List W→Prop} (k:∀ok ws,Q ok ws→Q' ok ws) (z:srcW h r Q):srcW h r Q':=by
  unfold srcW at z ⊢
  split at z
  · obtain ⟨ws,e,z⟩:=z;exact ⟨ws,e,k _ _ z⟩
  · exact k _ _ z
  · exact k _ _ z
  · exact z
theorem iLive.mono {t:AT} (m:A9 t):A4w (iLive t):=fun env h Q Q' k q=> m env h _ _ (fun r e g z=> srcW.imp (fun ok ws y=> k _ _ _ _ y) z) q
theorem iLvE.mono {t:AT} (m:A9 t):A4w (iLvE t):=fun env h Q Q' k q=> m env h _ _ (fun r e g z=> srcW.imp (fun ok ws y=> k _ _ _ _ y) z) q
section
variable {X:Cx} {G:Gx} {tg e:Expr}
theorem A6V {h:AH} {H:Hp} {a:Addr} {ws:List W} (hp:∀a o,h a=some o→ORep G.K H a o) (e:h a=some (.cont (.seq ws))):∃vs,SqL G.K H a vs∧RepL G.K H ws vs:=by
  obtain ⟨vs,l,r⟩:=hp a _ e
  exact ⟨vs,.inl (.inl l),r⟩
theorem B8M {H1:Hp} {a:Addr} {ws:List W}:A4f G (Itl G.K a) H1 (fun k=> k a=some (.cont (.seq ws))) ws:=fun h H hp kk e i=> by
  obtain ⟨vs,l',r'⟩:=A6V hp e
  refine ⟨fun h=> ⟨vs,l',by rw [←r'.length];exact h⟩,fun w e=> ?_⟩
  obtain ⟨v,ev,rv⟩:=r'.get e
  exact ⟨⟨vs,v,l',ev⟩,fun x H2 ⟨e1,q⟩=> by
    subst e1
    have z:=q vs l'
    rw [ev] at z;cases z
    exact ⟨.refl _,rv⟩⟩
theorem B7a {H1:Hp} {a:Addr} {ws:List W}:A4f G (Ite G.K a) H1 (fun k=> k a=some (.cont (.seq ws))) (U0 ws):=fun h H hp kk e i=> by
  obtain ⟨vs,l,r⟩:=A6V hp e
  have l':SqL G.K H a vs:=l
  refine ⟨fun h=> ⟨vs,l',by rw [←r.length];rwa [A89] at h⟩,fun w e=> ?_⟩
  obtain ⟨u,eu,rfl⟩:=A8z e
  obtain ⟨v,ev,rv⟩:=r.get eu
  refine ⟨⟨vs,v,l',ev⟩,fun x H2 ⟨T,y,e1,n,e2,q⟩=> ?_⟩
  subst e1 e2
  have z:=q vs l'
  rw [ev] at z;cases z
  have nw:New H (upd H T (.tup [.int i,v])):=New.upd n
  exact ⟨nw,.tup (.inl upd_same) (.cons .int (.cons (Rep.mono nw.keeps _ _ rv) .nil))⟩
theorem A6B {J:It} {H:Hp} {ws:List W} (g:A1h G.K J H ws):A4f G J H (fun _=> True) ws:=fun _ H' _ kk _=> g H' kk
theorem B3f {t:AT} (gk:G.K=X.K) (a:AE X G e t):AI2 X G tg e (iLive t):=by
  refine ⟨iLive.mono a.mono,PI.imp (B44 a.pe) fun σ H R ⟨env,h,S,q⟩=> ?_⟩
  refine ⟨env,h,S,a.mono env h _ _ (fun r env1 h1 z v H1 S1 x1 r1 f1=> ?_) q⟩
  clear f1
  unfold srcW at z
  split at z
  · rename_i p
    obtain ⟨ws,e,z⟩:=z
    have ex:v= .ref p:=Rep.of_ref (K:=G.K) (H:=H1) r1
    obtain ⟨vs,l,r⟩:=A6V S1.hp e
    exact ⟨p,ex,.inl ⟨⟨vs,gk▸l⟩,gk▸z _ H1 S1 x1 B8M⟩⟩
  · obtain ⟨p,vs,rfl,l,r⟩:=Rep.of_lst (K:=G.K) (H:=H1) r1
    exact ⟨p,rfl,.inl ⟨⟨vs,l.sq⟩,z _ H1 S1 x1 (A6B (gk▸B15 l r))⟩⟩
  · obtain ⟨p,vs,rfl,l,r⟩:=Rep.of_tup (K:=G.K) (H:=H1) r1
    exact ⟨p,rfl,.inr ⟨⟨vs,gk▸l⟩,z _ H1 S1 x1 (A6B (gk▸B2D l r))⟩⟩
  · exact z.elim
theorem C2Z {t:AT} {p pos tpos:Pos} {elts:List Expr} {kk:Nat} (gk:G.K=X.K) (hg:Gl X "enumerate") (hm:X.mg "enumerate"=none) (a:AE X G e t) (hs:starEach [e] X.env=[(false,eval e X.env)]:=by rfl):
    AI2 X G (.Tuple elts kk tpos) (.Call (.Name "enumerate" p) [e] [] pos) (iLvE t):=by
  refine ⟨iLvE.mono a.mono,PI.imp (B4M hg hm (pa_cons a.pe pa_nil hs) hs) fun σ H R ⟨env,h,S,q⟩=> ?_⟩
  refine ⟨env,h,S,a.mono env h _ _ (fun r env1 h1 z v H1 S1 x1 r1 f1=> ?_) q⟩
  clear f1
  unfold srcW at z
  split at z
  · rename_i p
    obtain ⟨ws,e,z⟩:=z
    have ex:v= .ref p:=Rep.of_ref (K:=G.K) (H:=H1) r1
    subst ex
    obtain ⟨vs,l,r⟩:=A6V S1.hp e
    exact ⟨p,vs,rfl,.inr ⟨gk▸l,gk▸z _ H1 S1 x1 B7a⟩⟩
  · obtain ⟨p,vs,rfl,l,r⟩:=Rep.of_lst (K:=G.K) (H:=H1) r1
    exact ⟨p,vs,rfl,.inr ⟨l.sq,z _ H1 S1 x1 (A6B (gk▸B2N l r))⟩⟩
  · obtain ⟨p,vs,rfl,l,r⟩:=Rep.of_tup (K:=G.K) (H:=H1) r1
    exact ⟨p,vs,rfl,.inl ⟨gk▸l,z _ H1 S1 x1 (A6B (gk▸A8Z l r))⟩⟩
  · exact z.elim
end
def aLoopL (ok:AH→Prop) (g:G5) (tb:C0) (D:AEnds):List W→A0→AH→Prop
  | []=> fun env h=> ok h∧D.nx env h
  | w::ws=> fun env h=> ok h∧g w env h fun env1 h1=> tb { D with nx:=aLoopL ok g tb D ws,ct:=aLoopL ok g tb D ws,bk:=D.nx } env1 h1
def A7E (ti:Z1) (g:G5) (tb:C0):C0:=fun D env h=> ti env h fun ok ws env1 h1=> aLoopL ok g tb D ws env1 h1
theorem aLoopL.mono {ok:AH→Prop} {g:G5} {tb:C0} (mg:g7 g) (mt:n8 tb) {D D':AEnds} (l:D.Le D'):∀(ws:List W) env h,aLoopL ok g tb D ws env h→aLoopL ok g tb D' ws env h
  | [],env,h,q=> ⟨q.1,l.nx _ _ q.2⟩
  | w::ws,env,h,q=> ⟨q.1,mg w env h _ _ (fun e k z=> mt { D with nx:=aLoopL ok g tb D ws,ct:=aLoopL ok g tb D ws,bk:=D.nx } { D' with nx:=aLoopL ok g tb D' ws,ct:=aLoopL ok g tb D' ws,bk:=D'.nx } e k ⟨aLoopL.mono mg mt l ws,l.rt,l.nx,aLoopL.mono mg mt l ws⟩ z) q.2⟩
section
variable {X:Cx} {G:Gx} {tg iter:Expr} {body:List Stmt} {pos:Pos}
theorem B3l {ti:Z1} {g:G5} {tb:C0} {sl:List Nat} (hp:PassesOwn (model X.prog X.w) X.A X.env X.xe) (hc:X.calm=true) (hi:AI2 X G tg iter ti) (hg:AG X G tg sl g) (hb:ASs X G body tb)
    (hs:∀x,foldedSetIterable iter X.env x=pure x:=by intro _;rfl):AS X G (.For tg iter body [] pos) (A7E ti g tb):=by
  refine ⟨fun D D' env h l q=> hi.mono env h _ _ (fun ok ws e k z=> aLoopL.mono hg.mono hb.mono l ws e k z) q,PS.imp (ps_for hp hc hi.pi hg.pg hb.ps hs) fun D σ H ⟨env,h,Da,S,q,l⟩=> ?_⟩
  refine ⟨env,h,S,hi.mono env h _ _ (fun ok ws env1 h1 z J H1 S1 x1 gv=> ?_) q⟩
  have kp:=x1.keeps S
  refine ⟨fun i m σ' H'=> ws.length≤i+m∧Keeps H1 H'∧∃e k,BS G e k σ' H'∧aLoopL ok g tb Da (ws.drop i) e k,⟨ws.length,by omega,.refl H1,env1,h1,S1,by simpa using z⟩,?_⟩
  rintro i m σ2 H2 ⟨hm,k2,e2,g2,S2,z2⟩
  cases e:ws[i]? with
  | none=>
    have hl:=List.getElem?_eq_none_iff.mp e
    rw [List.drop_eq_nil_of_le hl] at z2
    have gi:=gv g2 H2 S2.hp k2 z2.1 i
    exact .inl ⟨gi.1 hl,l.nx _ _ _ _ S2 (kp.trans k2) z2.2⟩
  | some w=>
    obtain ⟨hl,ew⟩:=List.getElem?_eq_some_iff.mp e
    have ed:ws.drop i=w::ws.drop (i+1):=by rw [List.drop_eq_getElem_cons hl,ew]
    rw [ed] at z2
    have gi:=gv g2 H2 S2.hp k2 z2.1 i
    obtain ⟨go,yl⟩:=gi.2 w e
    refine .inr ⟨go,fun σ' H'=> Keeps H1 H'∧∃e k,BS G e k σ' H'∧aLoopL ok g tb Da (ws.drop (i+1)) e k,fun σ' H' n=> ⟨m - 1,by omega,by omega,n.1,n.2⟩,fun x H3 y=> ?_⟩
    obtain ⟨nw,rx⟩:=yl x H3 y
    have k3:=k2.trans nw.keeps
    refine ⟨w,e2,g2,rx,nw.bs S2,hg.mono w e2 g2 _ _ (fun e4 g4 z4 σ4 H4 S4 x4=> ?_) z2.2⟩
    have k4:=x4.keeps (nw.bs S2)
    refine ⟨e4,g4,_,S4,z4,⟨fun e k σ H S' kk y=> ⟨(k3.trans k4).trans kk,e,k,S',y⟩,fun r e k σ H v S' kk=> l.rt r e k σ H v S' (kp.trans ((k3.trans k4).trans kk)),fun e k σ H S' kk=> l.nx e k σ H S' (kp.trans ((k3.trans k4).trans kk)),fun e k σ H S' kk y=> ⟨(k3.trans k4).trans kk,e,k,S',y⟩⟩⟩
end
def lcLoopL (ok:AH→Prop) (vs:List Nat) (g:G5) (tt:G7) (te:C3) (Q:List W→A0→AH→Prop):List W→List W→A0→AH→Prop
  | [],acc=> fun env h=> ok h∧Q acc env h
  | w::ws,acc=> fun env h=> ok h∧g w (P8 env vs) h fun e1 h1=> tt e1 h1 fun b e2 h2=> if b=true then te e2 h2 fun y e3 h3=> acc.length < sizeLine∧lcLoopL ok vs g tt te Q ws (acc++[y]) (mend env e3 vs) h3 else lcLoopL ok vs g tt te Q ws acc (mend env e2 vs) h2
def A44 (vs:List Nat) (ti:Z1) (g:G5) (tt:G7) (te:C3):AT:=fun env h Q=> ti env h fun ok ws e1 h1=> lcLoopL ok vs g tt te (fun acc e h=> Q (.own (.seq acc)) e h) ws [] e1 h1
theorem lcLoopL.mono {ok:AH→Prop} {vs:List Nat} {g:G5} {tt:G7} {te:C3} (mg:g7 g) (mt:A9 tt) (me:A9 te) {Q Q':List W→A0→AH→Prop} (k:∀a e h,Q a e h→Q' a e h):∀(ws acc:List W) env h,lcLoopL ok vs g tt te Q ws acc env h→lcLoopL ok vs g tt te Q' ws acc env h
  | [],acc,env,h,q=> ⟨q.1,k _ _ _ q.2⟩
  | w::ws,acc,env,h,q=> ⟨q.1,mg _ _ _ _ _ (fun e1 h1 z=> mt _ _ _ _ (fun b e2 h2 z=> by
    cases b with
    | true=> rw [if_pos rfl] at z ⊢;exact me _ _ _ _ (fun y e3 h3 z=> ⟨z.1,lcLoopL.mono mg mt me k ws _ _ _ z.2⟩) z
    | false=> rw [if_neg Bool.false_ne_true] at z ⊢;exact lcLoopL.mono mg mt me k ws _ _ _ z) z) q.2⟩
def del (H:Hp) (D:Addr):Hp:=fun p=> if p=D then none else H p
theorem A8c {H:Hp} {D:Addr}:del H D D=none:=by unfold del;rw [if_pos rfl]
theorem del_ne {H:Hp} {D p:Addr} (n:p≠D):del H D p=H p:=by unfold del;rw [if_neg n]
theorem A6N {H:Hp} {D p:Addr} {o:HO} (e:del H D p=some o):p≠D∧H p=some o:=by
  have n:p≠D:=fun z=> by rw [z,A8c] at e;cases e
  exact ⟨n,(del_ne n).symm.trans e⟩
theorem Xt.del {env env':A0} {h h':AH} {σ:L2.St} {H H':Hp} {D:Addr} (x:Xt env h σ H env' h' H'):Xt env h σ (del H D) env' h' H':=
  ⟨fun p o e n w t=> x.fr p o (A6N e).2 n w t,fun p o e n=> by
    by_cases q:p=D
    · rw [q];exact A8c
    · rw [del_ne q];exact x.hn p o e n,fun p o e=> x.th p o (A6N e).2,x.sl⟩
theorem Xg.transD {sl:List Nat} {env env1 env2:A0} {h h1 h2:AH} {σ σ1:L2.St} {H H1 H2:Hp} {D:Addr} (a:Xg sl env h σ H env1 h1 σ1 H1) (b:Xt env1 h1 σ1 (Ab.del H1 D) env2 h2 H2):Xg sl env h σ (Ab.del H D) env2 h2 σ1 H2:=by
  refine ⟨fun p o e n w t=> ?_,fun p o e n=> ?_,fun p o e=> ?_,fun p q=> a.ow p (b.own q),fun i c e=> ?_,a.bt⟩
  · obtain ⟨ne,e⟩:=A6N e
    have e1:=a.fr p o e n w t
    refine b.fr p o ((del_ne ne).trans e1) ?_ (fun q=> w (a.ow p q)) t
    cases q:h1 p with
    | none=> rfl
    | some u=> rw [a.hn p u q n] at e;cases e
  · by_cases ne:p=D
    · rw [ne];exact A8c
    · rw [del_ne ne]
      cases q:h1 p with
      | some u=> exact a.hn p u q n
      | none=>
        have z:=b.hn p o e q
        rw [del_ne ne] at z
        cases q2:H p with
        | none=> rfl
        | some u=> obtain ⟨o',e'⟩:=a.th p u q2;rw [z] at e';cases e'
  · obtain ⟨ne,e⟩:=A6N e
    obtain ⟨o',e'⟩:=a.th p o e
    exact b.th p o' ((del_ne ne).trans e')
  · obtain ⟨c1,z⟩:=b.sl i c e
    exact a.so i c1 z
section
variable {X:Cx} {G:Gx} {elt tg iter:Expr} {ifs:List Expr} {scope:Scope} {own:List (Str×Nat)} {pos:Pos} {ti:Z1} {g:G5} {tt:G7} {te:C3} {sl:List Nat}
theorem C0I {env e2 e6:A0} {h g2 g6:AH} {σ σ4:L2.St} {H H2 H3 H6:Hp} {D:Addr} {vacc:List V} {vs:List Nat} (hsl:∀i∈sl,i∈vs) (hD:H D=none) (d2:H2 D=some (.lst vacc)) (S2:BS G e2 g2 σ H2) (x2:Xt env h σ H e2 g2 H2) (n2:g2 D=none) (no2:¬OwnAt e2 σ D) (nw:New H2 H3)
    (bt:But sl (wipe σ vs) σ4) (S6:BS G e6 g6 σ4 H6) (xx:Xg sl (P8 e2 vs) g2 (wipe σ vs) (Ab.del H3 D) e6 g6 σ4 H6) (no6:¬OwnAt e6 σ4 D) (n6:g6 D=none) (t6:∃o,H6 D=some o):
    Keeps H2 H6∧BS G (mend e2 e6 vs) g6 σ H6∧¬OwnAt (mend e2 e6 vs) σ D∧∀ys,Xt env h σ H (mend e2 e6 vs) g6 (upd H6 D (.lst ys)):=by
  have f6:∀p o,H2 p=some o→p≠D→g2 p=none→¬OwnAt e2 σ p→NT o→H6 p=some o:=fun p o e ne n q t=> xx.fr p o ((del_ne ne).trans (nw p o e)) n (fun q'=> q q'.wiped) t
  have kk:Keeps H2 H6:=fun p o e i=> f6 p o e (fun z=> by rw [z,d2] at e;cases e;exact i.elim) (S2.imm e i).1 (S2.imm e i).2 i.nt
  have Sm:=BS.mend (sl:=sl) S2 S6 kk bt hsl
  have sameOut:∀{j:Nat},j∉vs→σ4[j]? =σ[j]? :=fun {j} hj=> (bt.2 j fun q=> hj (hsl j q)).trans (s4 hj)
  have oM:∀p,OwnAt (mend e2 e6 vs) σ p→OwnAt e6 σ4 p:=fun p ⟨j,c,a,b⟩=> by
    by_cases hj:j∈vs
    · obtain ⟨w',e0,_⟩:=t8 hj a;cases e0
    · rw [t4 hj] at a
      exact ⟨j,c,a,(sameOut hj).trans b⟩
  refine ⟨kk,Sm,fun q=> no6 (oM D q),fun ys=> ⟨fun p o e n q t=> ?_,fun p o e n=> ?_,fun p o e=> ?_,fun j c e=> ?_⟩⟩
  · have np:p≠D:=fun z=> by rw [z,hD] at e;cases e
    rw [upd_ne np]
    refine f6 p o (x2.fr p o e n q t) np ?_ (fun y=> q (x2.own y)) t
    cases y:g2 p with
    | none=> rfl
    | some u=> rw [x2.hn p u y n] at e;cases e
  · by_cases np:p=D
    · rw [np];exact hD
    cases y:g2 p with
    | some u=> exact x2.hn p u y n
    | none=>
      have y3:=xx.hn p o e y
      rw [del_ne np] at y3
      cases y4:H p with
      | none=> rfl
      | some u=>
        obtain ⟨u',y5⟩:=x2.th p u y4
        rw [nw p u' y5] at y3;cases y3
  · by_cases hp:p=D
    · subst hp;exact ⟨_,upd_same⟩
    · obtain ⟨u,y⟩:=x2.th p o e
      obtain ⟨u',y'⟩:=xx.th p u ((del_ne hp).trans (nw p u y))
      exact ⟨u',by rw [upd_ne hp];exact y'⟩
  · by_cases hj:j∈vs
    · obtain ⟨w',e0,_⟩:=t8 hj e;cases e0
    · rw [t4 hj] at e
      obtain ⟨c1,y⟩:=xx.so j _ e
      obtain ⟨y1,_⟩:=A0n y
      exact x2.sl j c1 y1
theorem C2K {H:Hp} {D:Addr} {o:HO} (e:H D=some o):upd H D o=H:=by
  funext p
  by_cases hp:p=D
  · subst hp;rw [upd_same,e]
  · rw [upd_ne hp]
theorem C2U {R:Hp→Prop} {J:It} {ok:AH→Prop} {ws acc0:List W} {vacc0:List V} {env env1:A0} {h h1:AH} {σ:L2.St} {H Hb H1:Hp} {D:Addr} {vs:List Nat} (hsl:∀i∈sl,i∈vs) (mg:g7 g) (mt:A9 tt) (me:A9 te)
    (hD:H D=none) (hd0:G.H0 D=none) (gv:A4f G J Hb ok ws) (k0:Keeps Hb H1) (d1:H1 D=some (.lst vacc0)) (r1:RepL G.K H1 acc0 vacc0) (S1:BS G env1 h1 σ H1) (x1:Xt env h σ H env1 h1 H1) (n1:h1 D=none) (no1:¬OwnAt env1 σ D)
    (z:lcLoopL ok vs g tt te (fun acc e h'=> ∀vacc H',BS G e h' σ H'→Xt env h σ H e h' H'→H' D=some (.lst vacc)→RepL G.K H' acc vacc→h' D=none→¬OwnAt e σ D→Keeps H1 H'→R H') ws acc0 env1 h1):
    ∃W:Nat→Nat→Hp→Prop,(∃m,W 0 m H1)∧∀i m H2,W i m H2→(J.stop i H2∧R H2)∨(J.go i H2∧∃Nx:Hp→Prop,(∀H',Nx H'→∃m',m' < m∧W (i+1) m' H')∧∀x H3,J.yld i H2 x H3→cG G sl g x (wipe σ vs) H3 fun σ4 H4=> wipe σ4 vs=wipe σ vs∧cT G tt σ4 H4 fun b H5=>
      if b=true then cV G te σ4 H5 fun y H6=> ∃acc,H6 D=some (.lst acc)∧acc.length < sizeLine∧Nx (upd H6 D (.lst (acc++[y]))) else Nx H5):=by
  refine ⟨fun i m H'=> ws.length≤i+m∧Keeps H1 H'∧∃acc vacc e k,H' D=some (.lst vacc)∧RepL G.K H' acc vacc∧BS G e k σ H'∧Xt env h σ H e k H'∧k D=none∧¬OwnAt e σ D∧
    lcLoopL ok vs g tt te (fun acc e h'=> ∀vacc H',BS G e h' σ H'→Xt env h σ H e h' H'→H' D=some (.lst vacc)→RepL G.K H' acc vacc→h' D=none→¬OwnAt e σ D→Keeps H1 H'→R H') (ws.drop i) acc e k,
    ⟨ws.length,by omega,.refl _,acc0,vacc0,env1,h1,d1,r1,S1,x1,n1,no1,by simpa using z⟩,?_⟩
  rintro i m H2 ⟨hm,k2,acc,vacc,e2,g2,d2,r2,S2,x2,n2,no2,z2⟩
  cases e:ws[i]? with
  | none=>
    have hl:=List.getElem?_eq_none_iff.mp e
    rw [List.drop_eq_nil_of_le hl] at z2
    have gi:=gv g2 H2 S2.hp (k0.trans k2) z2.1 i
    exact .inl ⟨gi.1 hl,z2.2 vacc H2 S2 x2 d2 r2 n2 no2 k2⟩
  | some w=>
    obtain ⟨hl,ew⟩:=List.getElem?_eq_some_iff.mp e
    have ed:ws.drop i=w::ws.drop (i+1):=by rw [List.drop_eq_getElem_cons hl,ew]
    rw [ed] at z2
    simp only [lcLoopL] at z2
    have gi:=gv g2 H2 S2.hp (k0.trans k2) z2.1 i
    obtain ⟨go,yl⟩:=gi.2 w e
    refine .inr ⟨go,fun H'=> Keeps H1 H'∧∃acc vacc e k,H' D=some (.lst vacc)∧RepL G.K H' acc vacc∧BS G e k σ H'∧Xt env h σ H e k H'∧k D=none∧¬OwnAt e σ D∧
      lcLoopL ok vs g tt te (fun acc e h'=> ∀vacc H',BS G e h' σ H'→Xt env h σ H e h' H'→H' D=some (.lst vacc)→RepL G.K H' acc vacc→h' D=none→¬OwnAt e σ D→Keeps H1 H'→R H') (ws.drop (i+1)) acc e k,fun H' n=> ⟨m - 1,by omega,by omega,n.1,n.2⟩,fun x H3 y=> ?_⟩
    obtain ⟨nw,rx⟩:=yl x H3 y
    have S3:=nw.bs S2
    refine ⟨w,P8 e2 vs,g2,rx,S3.wipe,mg _ _ _ _ _ (fun e4 g4 z4 σ4 H4 S4 x4=> ?_) z2.2⟩
    refine ⟨A8j x4.bt hsl,e4,g4,S4,mt _ _ _ _ (fun b e5 g5 z5 H5 S5 x5=> ?_) z4⟩
    have noW:¬OwnAt (P8 e2 vs) (wipe σ vs) D:=fun q=> no2 q.wiped
    have fin:∀{e6:A0} {g6:AH} {H6:Hp},BS G e6 g6 σ4 H6→Xt e4 g4 σ4 H4 e6 g6 H6→H6 D=some (.lst vacc)∧Keeps H2 H6∧BS G (mend e2 e6 vs) g6 σ H6∧g6 D=none∧¬OwnAt (mend e2 e6 vs) σ D∧∀ys,Xt env h σ H (mend e2 e6 vs) g6 (upd H6 D (.lst ys)):=fun {e6 g6 H6} S6 x6=> by
      have xx:=x4.trans x6.xg
      have d6:H6 D=some (.lst vacc):=xx.fr D _ (nw D _ d2) n2 noW (Mu.nt (o:= .lst vacc) trivial)
      have g6D:g6 D=none:=by
        cases q:g6 D with
        | none=> rfl
        | some u=> have y:=xx.hn D u q n2;rw [nw D _ d2] at y;cases y
      have no6:¬OwnAt e6 σ4 D:=fun q=> noW (xx.ow D q)
      obtain ⟨a,b,c,d⟩:=C0I (sl:=sl) hsl hD d2 S2 x2 n2 no2 nw x4.bt S6 (x4.transD x6.del) no6 g6D ⟨_,d6⟩
      exact ⟨d6,a,b,g6D,c,d⟩
    cases b with
    | true=>
      rw [if_pos rfl] at z5
      refine iteT ⟨e5,g5,S5,me _ _ _ _ (fun y e6 g6 ⟨hz,z6⟩ v H6 S6 x6 r6=> ?_) z5⟩
      obtain ⟨d6,k6,Sm,n6,no6,xm⟩:=fin S6 (x5.trans x6)
      obtain ⟨k7,S7⟩:=Sm.unseen (o':= .lst (vacc++[v])) d6 trivial n6 hd0 no6
      exact ⟨vacc,d6,by rw [←r2.length];exact hz,(k2.trans k6).trans k7,acc++[y],vacc++[v],_,g6,upd_same,(RepL.mono (k6.trans k7) _ _ r2).append (.cons (Rep.mono k7 _ _ r6) .nil),S7,xm _,n6,no6,z6⟩
    | false=>
      rw [if_neg Bool.false_ne_true] at z5
      refine iteF ?_
      obtain ⟨d6,k6,Sm,n6,no6,xm⟩:=fin S5 x5
      have xm':=xm vacc
      rw [C2K d6] at xm'
      exact ⟨k2.trans k6,acc,vacc,_,g5,d6,RepL.mono k6 _ _ r2,Sm,xm',n6,no6,z5⟩
theorem B9N {σ:L2.St} {H:Hp} {Q:VK} (hi:A4w ti) (hsl:∀i∈sl,i∈own.map (·.2)) (mg:g7 g) (mt:A9 tt) (me:A9 te) (q:cE G (A44 (own.map (·.2)) ti g tt te) σ H Q):
    tLc (cIL G ti) (cG G sl g) (cT G tt) (cV G te) (own.map (·.2)) σ H Q:=by
  obtain ⟨env,h,S,q⟩:=q
  refine ⟨env,h,S,hi env h _ _ (fun ok ws env1 h1 z J H1 S1 x1 gv=> ?_) q⟩
  intro D nD
  have hD:H D=none:=x1.fresh nD
  obtain ⟨hd1,hd0,hdo⟩:=S1.noAt nD
  have nw0:New H1 (upd H1 D (.lst [])):=New.upd nD
  exact C2U (R:=fun H'=> Q (.ref D) H') hsl mg mt me hD hd0 gv nw0.keeps upd_same .nil (nw0.bs S1) (x1.trans nw0.xt) hd1 hdo
    (lcLoopL.mono mg mt me (fun acc e h' z vacc H' S2 x2 d2 r2 n2 no2 _=> z _ H' S2 x2 ⟨D,rfl,⟨vacc,d2,r2⟩,n2,hd0,no2⟩ fun p ep=> by cases ep;exact hD) ws [] env1 h1 z)
theorem C2I (hc:X.calm=true) (hN:X.N.Nodup) (hi:AI2 X G tg iter ti) (ok:BlkOk X.N X.env.scope scope own) (hsl:∀i∈sl,i∈own.map (·.2))
    (hg:∀(s:Shared) (H:Hp) (C:Addr) (cl:List (Str×Addr)) (fp:List Addr),AG (X.blk s H scope (compEnvC scope cl C X.env) fp) G tg sl g) (ht:∀(s:Shared) (H:Hp) (C:Addr) (cl:List (Str×Addr)) (fp:List Addr),APs (X.blk s H scope (compEnvC scope cl C X.env) fp) G ifs tt)
    (he:∀(s:Shared) (H:Hp) (C:Addr) (cl:List (Str×Addr)) (fp:List Addr),AV (X.blk s H scope (compEnvC scope cl C X.env) fp) G elt te) (mg:g7 g) (mt:A9 tt) (me:A9 te) (hs:∀x,foldedSetIterable iter X.env x=pure x:=by intro _;rfl):
    AE X G (.ListComp elt [⟨tg,iter,ifs,0⟩] scope pos) (A44 (own.map (·.2)) ti g tt te):=
  ⟨fun env h Q Q' k q=> hi.mono env h _ _ (fun ok ws e1 h1 z=> lcLoopL.mono mg mt me (fun a e h q=> k _ _ _ q) ws [] e1 h1 z) q,PE.imp (pe_lc hc hN hi.pi ok (fun s H C cl fp=> (hg s H C cl fp).pg) (fun s H C cl fp=> (ht s H C cl fp).pts) (fun s H C cl fp=> (he s H C cl fp).pe) hs) fun σ H Q q=> B9N hi.mono hsl mg mt me q⟩
def lc2Loop (ok:AH→Prop) (vs:List Nat) (g:G5) (tt:G7) (ti1:Z1) (vs1:List Nat) (g1:G5) (tt1:G7) (te:C3) (Q:List W→A0→AH→Prop):List W→List W→A0→AH→Prop
  | [],acc=> fun env h=> ok h∧Q acc env h
  | w::ws,acc=> fun env h=> ok h∧g w (P8 env vs) h fun e1 h1=> tt e1 h1 fun b e2 h2=> if b=true then ti1 e2 h2 fun ok1 ws1 e3 h3=> lcLoopL ok1 vs1 g1 tt1 te (fun acc' e4 h4=> lc2Loop ok vs g tt ti1 vs1 g1 tt1 te Q ws acc' (mend env e4 vs) h4) ws1 acc e3 h3 else lc2Loop ok vs g tt ti1 vs1 g1 tt1 te Q ws acc (mend env e2 vs) h2
variable {ti1:Z1} {g1:G5} {tt1:G7} {vs1 sl1:List Nat} {tg1 iter1:Expr} {ifs1:List Expr}
theorem lc2Loop.mono {ok:AH→Prop} {vs:List Nat} (mg:g7 g) (mt:A9 tt) (mi:A4w ti1) (mg1:g7 g1) (mt1:A9 tt1) (me:A9 te) {Q Q':List W→A0→AH→Prop} (k:∀a e h,Q a e h→Q' a e h):∀(ws acc:List W) env h,lc2Loop ok vs g tt ti1 vs1 g1 tt1 te Q ws acc env h→lc2Loop ok vs g tt ti1 vs1 g1 tt1 te Q' ws acc env h
  | [],acc,env,h,q=> ⟨q.1,k _ _ _ q.2⟩
  | w::ws,acc,env,h,q=> ⟨q.1,mg _ _ _ _ _ (fun e1 h1 z=> mt _ _ _ _ (fun b e2 h2 z=> by
    cases b with
    | true=> rw [if_pos rfl] at z ⊢;exact mi _ _ _ _ (fun ok1 ws1 e3 h3 z=> lcLoopL.mono mg1 mt1 me (fun acc' e4 h4 z=> lc2Loop.mono mg mt mi mg1 mt1 me k ws _ _ _ z) _ _ _ _ z) z
    | false=> rw [if_neg Bool.false_ne_true] at z ⊢;exact lc2Loop.mono mg mt mi mg1 mt1 me k ws _ _ _ z) z) q.2⟩
end
end Ab
namespace Ab
open PySem PySem.Spec PyProof.Rows L2 RZ
mutual
def W.nodct:W→Bool
  | .dct _ _=> false
  | .tup ws=> W.nodcts ws
  | .lst ws=> W.nodcts ws
  | _=> true
def W.nodcts:List W→Bool
  | []=> true
  | w::ws=> w.nodct && W.nodcts ws
end
def SV.nodct:SV→Bool
  | .val w=> w.nodct
  | .own (.seq ws)=> W.nodcts ws
  | .own (.map kvs)=> W.nodcts (kvs.map (·.2))
def Y2 (e:A0):Bool:=e.all fun x=> match x with
  | some sv=> sv.nodct
  | none=> true
section
variable {K:PySem.W.Frag} {H H':Hp} {q:Addr} {od:Obj} {u:HO} {kq:List (Key×V)}
theorem B2R (hq:H q=some (.frz od (.dK kq))) {p:Addr} {o:HO} (e:H p=some o) (n:∀od',o≠ .frz od' (.dK kq)):p≠q:=fun z=> by
  rw [z,hq] at e;exact n od (Option.some.inj e).symm
mutual
theorem Rep.unlock (hq:H q=some (.frz od (.dK kq))) (kp:∀p o,H p=some o→Imm o→p≠q→H' p=some o):∀(w:W) (v:V),w.nodct=true→Rep K H w v→Rep K H' w v
  | .non,_,_,h=> by simpa only [Rep] using h
  | .bl _,_,_,h=> by simpa only [Rep] using h
  | .int _,_,_,h=> by simpa only [Rep] using h
  | .str _,_,_,h=> by simpa only [Rep] using h
  | .ref _,_,_,h=> by simpa only [Rep] using h
  | .ty _,_,_,h=> by simpa only [Rep] using h
  | .emp,_,_,h=> by simpa only [Rep] using h
  | .tup ws,v,d,h=> by
    simp only [Rep] at h ⊢
    obtain ⟨a,vs,e,s,r⟩:=h
    refine ⟨a,vs,e,s.imp (fun e=> kp _ _ e trivial (B2R hq e fun _ z=> by cases z)) id,RepL.unlock hq kp ws vs ?_ r⟩
    simpa only [W.nodct] using d
  | .lst ws,v,d,h=> by
    simp only [Rep] at h ⊢
    obtain ⟨a,vs,e,⟨o,s⟩,r⟩:=h
    refine ⟨a,vs,e,⟨o,kp _ _ s trivial (B2R hq s fun _ z=> by cases z)⟩,RepL.unlock hq kp ws vs ?_ r⟩
    simpa only [W.nodct] using d
  | .dct ks ws,v,d,h=> by simp only [W.nodct] at d;cases d
theorem RepL.unlock (hq:H q=some (.frz od (.dK kq))) (kp:∀p o,H p=some o→Imm o→p≠q→H' p=some o):∀(ws:List W) (vs:List V),W.nodcts ws=true→RepL K H ws vs→RepL K H' ws vs
  | [],vs,_,h=> by simpa only [RepL] using h
  | w::ws,vs,d,h=> by
    simp only [W.nodcts,Bool.and_eq_true] at d
    simp only [RepL] at h ⊢
    obtain ⟨v,r,e,a,b⟩:=h
    exact ⟨v,r,e,Rep.unlock hq kp w v d.1 a,RepL.unlock hq kp ws r d.2 b⟩
end
theorem CRep.unlock (hq:H q=some (.frz od (.dK kq))) (kp:∀p o,H p=some o→Imm o→p≠q→H' p=some o) {p:Addr} (s:H' p=H p):∀{c:Cont},(SV.own c).nodct=true→CRep K H p c→CRep K H' p c
  | .seq ws,d,⟨vs,e,r⟩=> ⟨vs,s.trans e,RepL.unlock hq kp _ _ d r⟩
  | .map kvs,d,.inl ⟨ks,e,t,r⟩=> .inl ⟨ks,s.trans e,t,RepL.unlock hq kp _ _ d r⟩
  | .map kvs,d,.inr ⟨ks,e,t,r⟩=> .inr ⟨ks,s.trans e,t,RepL.unlock hq kp _ _ d r⟩
theorem TabsK.unlock {o o':HO} (t:TabsK K H) (e:H q=some o) (n:∀ps,o≠ .tbl ps) (n2:∀φ,o≠ .ext φ):TabsK K (L2.upd H q o'):=fun p hp=> by
  obtain ⟨ps,h1,h2,h3⟩:=t p hp
  refine ⟨ps,?_,h2,fun pos cv hc=> ?_⟩
  · rw [upd_ne (fun z=> by rw [z,e] at h1;exact n _ (Option.some.inj h1))];exact h1
  · obtain ⟨c,e1,e2⟩:=h3 pos cv hc
    refine ⟨c,e1,?_⟩
    rw [upd_ne (fun z=> by rw [z,e] at e2;exact n2 _ (Option.some.inj e2))];exact e2
end
section
variable {G:Gx} {env e:A0} {h:AH} {σ σ':L2.St} {H Hk:Hp} {q:Addr} {od:Obj} {kq:List (Key×V)}
open Classical
noncomputable def A02 (G:Gx) (env:A0) (σ:L2.St) (H:Hp):Gx:=⟨G.K,fun _=> none,fun p=> if OwnAt env σ p then none else H p⟩
theorem A22 {p:Addr} {o:HO} (n:¬OwnAt env σ p) (e:H p=some o):(A02 G env σ H).H0 p=some o:=by
  show (if OwnAt env σ p then none else H p)=_
  rw [if_neg n];exact e
theorem B2G {p:Addr} {o:HO} (e:(A02 G env σ H).H0 p=some o):¬OwnAt env σ p∧H p=some o:=by
  have e:(if OwnAt env σ p then none else H p)=some o:=e
  by_cases n:OwnAt env σ p
  · rw [if_pos n] at e;cases e
  · rw [if_neg n] at e;exact ⟨n,e⟩
theorem BS.lock (S:BS G env h σ H) {l:List (Str×W)} (hq:h q=some (.cont (.map (smap l)))):∃kq,H q=some (.dK kq)∧kq.map (·.1)=l.map (fun p=> Sum.inr p.1)∧RepL G.K H (l.map (·.2)) (kq.map (·.2))∧¬OwnAt env σ q∧
    ∀od,BS (A02 G env σ (upd H q (.frz od (.dK kq)))) env (fun _=> none) σ (upd H q (.frz od (.dK kq)))∧Keeps H (upd H q (.frz od (.dK kq))):=by
  obtain ⟨kq,e0,e1,e2⟩:=A41 (S.hp q _ hq)
  have noq:¬OwnAt env σ q:=fun ⟨i,c,a,b⟩=> by
    obtain ⟨p,x,_,n,_⟩:=S.own i c a
    rw [b] at x;cases x
    rw [hq] at n;cases n
  refine ⟨kq,e0,e1,e2,noq,fun od=> ?_⟩
  have kp:Keeps H (upd H q (.frz od (.dK kq))):=fun p o e i=> by
    have n:p≠q:=fun z=> by rw [z,e0] at e;cases e;exact i.elim
    rw [upd_ne n];exact e
  refine ⟨⟨S.len,fun i w z=> ?_,fun i c z=> ?_,S.uni,fun _ _ z=> (by cases z),fun p o z _ _=> (B2G z).2,fun _ _ z=> (by cases z),fun p o z=> ⟨o,(B2G z).2⟩,S.tabs.upd fun o z=> (by rw [e0] at z;cases z;trivial)⟩,kp⟩
  · obtain ⟨v,a,b⟩:=S.val i w z;exact ⟨v,a,Rep.mono kp w v b⟩
  · obtain ⟨p,a,b,_,_⟩:=S.own i c z
    have np:p≠q:=fun y=> noq ⟨i,c,z,y▸a⟩
    refine ⟨p,a,b.mono kp (upd_ne np),rfl,?_⟩
    show (if OwnAt env σ p then none else _)=none
    rw [if_pos ⟨i,c,z,a⟩]
theorem BS.open (S:BS G env h σ H) {l:List (Str×W)} (hq:h q=some (.cont (.map (smap l)))) (e0:H q=some (.dK kq)) (Sk:BS (A02 G env σ (upd H q (.frz od (.dK kq)))) e (fun _=> none) σ' Hk) (nd:Y2 e=true):
    Hk q=some (.frz od (.dK kq))∧BS G e h σ' (upd Hk q (.dK kq))∧Keeps H (upd Hk q (.dK kq)):=by
  have noq:¬OwnAt env σ q:=fun ⟨i,c,a,b⟩=> by
    obtain ⟨p,x,_,n,_⟩:=S.own i c a
    rw [b] at x;cases x
    rw [hq] at n;cases n
  have fr:∀p o,H p=some o→p≠q→¬OwnAt env σ p→NT o→Hk p=some o:=fun p o e n w t=> Sk.fr p o (A22 w (by rw [upd_ne n];exact e)) rfl t
  have hk:Hk q=some (.frz od (.dK kq)):=Sk.fr q _ (A22 noq upd_same) rfl (fun _ z=> (by cases z))
  have kp:Keeps H (upd Hk q (.dK kq)):=fun p o e i=> by
    have n:p≠q:=fun z=> by rw [z,e0] at e;cases e;exact i.elim
    rw [upd_ne n]
    exact fr p o e n (S.imm e i).2 i.nt
  have up:∀p o,Hk p=some o→Imm o→p≠q→upd Hk q (.dK kq) p=some o:=fun p o e _ n=> by rw [upd_ne n];exact e
  have at_:∀{j:Nat} {sv:SV},e[j]? =some (some sv)→sv.nodct=true:=fun {j sv} z=> by
    have:=List.all_eq_true.mp nd (some sv) (List.mem_of_getElem? z)
    exact this
  have not_own:∀{p:Addr} {o:HO},H p=some o→(A02 G env σ (upd H q (.frz od (.dK kq)))).H0 p=none→p≠q→OwnAt env σ p:=fun {p o} e n ne=> Classical.byContradiction fun y=> by
    rw [A22 y (show upd H q _ p=some o by rw [upd_ne ne];exact e)] at n;cases n
  refine ⟨hk,⟨Sk.len,fun i w z=> ?_,fun i c z=> ?_,Sk.uni,fun a o z=> ?_,fun p o z y t=> ?_,S.ext,fun p o z=> ?_,Sk.tabs.unlock hk (fun _ z=> (by cases z)) (fun _ z=> (by cases z))⟩,kp⟩
  · obtain ⟨v,a,b⟩:=Sk.val i w z
    exact ⟨v,a,Rep.unlock hk up w v (at_ z) b⟩
  · obtain ⟨p,a,b,_,d⟩:=Sk.own i c z
    have np:p≠q:=fun y=> by
      obtain ⟨o,eo,m⟩:=b.there
      rw [y,hk] at eo;cases eo;exact m
    refine ⟨p,a,b.unlock hk up (upd_ne np) (at_ z),?_,?_⟩
    · cases x:h p with
      | none=> rfl
      | some o=>
        obtain ⟨u,eu,_⟩:=(S.hp p o x).there
        obtain ⟨j,c',f1,f2⟩:=not_own eu d np
        obtain ⟨p',f3,_,f4,_⟩:=S.own j c' f1
        rw [f2] at f3;cases f3
        rw [f4] at x;cases x
    · cases x:G.H0 p with
      | none=> rfl
      | some o=>
        obtain ⟨u,eu⟩:=S.tr p o x
        obtain ⟨j,c',f1,f2⟩:=not_own eu d np
        obtain ⟨p',f3,_,_,f4⟩:=S.own j c' f1
        rw [f2] at f3;cases f3
        rw [f4] at x;cases x
  · by_cases ha:a=q
    · subst ha
      rw [hq] at z;cases z
      exact CRep.mono kp (upd_same.trans e0.symm) (show CRep G.K H a (.map (smap l)) from S.hp a _ hq)
    · obtain ⟨u,eu,m⟩:=(S.hp a o z).there
      have no:¬OwnAt env σ a:=fun ⟨j,c',f1,f2⟩=> by
        obtain ⟨p',f3,_,f4,_⟩:=S.own j c' f1
        rw [f2] at f3;cases f3
        rw [f4] at z;cases z
      exact (S.hp a o z).mono kp (by rw [upd_ne ha,fr a u eu ha no m.nt,eu])
  · have e:=S.fr p o z y t
    have np:p≠q:=fun x=> by
      subst x
      rw [S.ext p _ hq y] at z;cases z
    rw [upd_ne np]
    refine fr p o e np (fun ⟨j,c',f1,f2⟩=> ?_) t
    obtain ⟨p',f3,_,_,f4⟩:=S.own j c' f1
    rw [f2] at f3;cases f3
    rw [f4] at z;cases z
  · by_cases np:p=q
    · subst np;exact ⟨_,upd_same⟩
    · obtain ⟨u,eu⟩:=S.tr p o z
      have no:¬OwnAt env σ p:=fun ⟨j,c',f1,f2⟩=> by
        obtain ⟨p',f3,_,_,f4⟩:=S.own j c' f1
        rw [f2] at f3;cases f3
        rw [f4] at z;cases z
      obtain ⟨u',eu'⟩:=Sk.tr p u (A22 no (by rw [upd_ne np];exact eu))
      exact ⟨u',by rw [upd_ne np];exact eu'⟩
theorem BS.le {G:Gx} {env:A0} {h h':AH} {σ:L2.St} {H:Hp} (S:BS G env h σ H) (l:AH.Le h' h):BS G env h' σ H:=
  ⟨S.len,S.val,fun i c e=> (by
    obtain ⟨p,a,b,d,f⟩:=S.own i c e
    refine ⟨p,a,b,?_,f⟩
    cases z:h' p with
    | none=> rfl
    | some u=> rw [l p u z] at d;cases d),S.uni,fun a o e=> S.hp a o (l a o e),S.fr,fun a o e=> S.ext a o (l a o e),S.tr,S.tabs⟩
end
def itL (a b:Nat) (tb:C0) (D:A0→Prop):List (Str×W)→A0→Prop
  | [],e=> Y2 e=true∧D e
  | p::r,e=> tb ⟨fun e' _=> itL a b tb D r e',fun _ _ _=> False,fun _ _=> False,fun e' _=> itL a b tb D r e'⟩ ((e.set a (some (.val (.str p.1)))).set b (some (.val p.2))) fun _=> none
theorem itL.mono {a b:Nat} {tb:C0} (m:n8 tb) {D D':A0→Prop} (k:∀e,D e→D' e):∀(l:List (Str×W)) (e:A0),itL a b tb D l e→itL a b tb D' l e
  | [],e,q=> ⟨q.1,k e q.2⟩
  | p::r,e,q=> m ⟨fun e' _=> itL a b tb D r e',fun _ _ _=> False,fun _ _=> False,fun e' _=> itL a b tb D r e'⟩ ⟨fun e' _=> itL a b tb D' r e',fun _ _ _=> False,fun _ _=> False,fun e' _=> itL a b tb D' r e'⟩ _ _ ⟨fun e' _ z=> itL.mono m k r e' z,fun _ _ _ z=> z,fun _ _ z=> z,fun e' _ z=> itL.mono m k r e' z⟩ q
def C3p (i:Nat) (n f:Str) (env:A0) (h:AH) (s q:Addr) (l:List (Str×W)):Prop:=∃fs,env[i]? =some (some (.val (.ref s)))∧h s=some (.ins n fs)∧fs.lookup f=some (.ref q)∧h q=some (.cont (.map (smap l)))
def A9e (i:Nat) (n f:Str) (a b:Nat) (tb:C0):C0:=fun D env h=> ∃s q l,C3p i n f env h s q l∧itL a b tb (fun e=> D.nx e h) l env
section
variable {X:Cx} {G:Gx} {i a b:Nat} {n f A B Sn:Str} {body:List Stmt} {pos p1 p2 p3 p4 p5 p6 p7:Pos} {k0:Nat} {tb:C0}
theorem B9s (gk:G.K=X.K) (hp:PassesOwn (model X.prog X.w) X.A X.env X.xe) (hc:X.calm=true) (hN:X.N.Nodup) (F:FldOk X.K n f) (ho:PE X (.Name Sn p1) (tVar i)) (ga:PG X (.Name A p4) (gName a)) (gb:PG X (.Name B p5) (gName b))
    (hb:∀(G':Gx),G'.K=X.K→ASs X G' body tb)
    (hfb:attributeBase (.Name Sn p1) f X.env (eval (.Name Sn p1) X.env)=eval (.Name Sn p1) X.env:=by rfl) (hbase:attributeBase (.Attribute (.Name Sn p1) f p2) "items" X.env (eval (.Attribute (.Name Sn p1) f p2) X.env)=eval (.Attribute (.Name Sn p1) f p2) X.env:=by rfl) (hline:(p3.endLine==p6.line)=true:=by rfl)
    (ht:(assignEach [.Name A p4,.Name B p5] X.env).map (·.2)=[assign (.Name A p4) X.env,assign (.Name B p5) X.env]:=by rfl) (hn:(assignEach [.Name A p4,.Name B p5] X.env).length=2:=by rfl) (hst:(assignEach [.Name A p4,.Name B p5] X.env).findIdx? (·.1)=none:=by rfl)
    (ht2:(assignEach [.Name B p5] X.env).map (·.2)=[assign (.Name B p5) X.env]:=by rfl)
    (hs:∀x,foldedSetIterable (.Call (.Attribute (.Attribute (.Name Sn p1) f p2) "items" p3) [] [] p6) X.env x=pure x:=by intro _;rfl):
    AS X G (.For (.Tuple [.Name A p4,.Name B p5] k0 p7) (.Call (.Attribute (.Attribute (.Name Sn p1) f p2) "items" p3) [] [] p6) body [] pos) (A9e i n f a b tb):=by
  have mb:=(hb G gk).mono
  refine ⟨fun D D' env h l ⟨s,q,kvs,z1,z2⟩=> ⟨s,q,kvs,z1,itL.mono mb (fun e y=> l.nx e h y) _ _ z2⟩,?_⟩
  have pb:PSs X body (fun D σ H=> ∃G':Gx,G'.K=X.K∧cS G' tb D σ H):=⟨fun pins s σ H D I ⟨G',g,q⟩=> (hb G' g).ps.run pins s σ H D I q⟩
  refine PS.imp (ps_lock (ps_for hp hc (pi_items (pe_fld ho hfb) hbase hline) (pg_tup hc (pgs_cons ga (pgs_cons gb pgs_nil ht2) ht) hn hst) pb hs)) fun D σ H ⟨env,h,Da,S,⟨s,q,l,⟨fs,z1,z2,z3,z4⟩,z⟩,lk⟩=> ?_
  obtain ⟨kq,e0,e1,e2,noq,lock⟩:=S.lock z4
  refine ⟨q,.dK kq,e0,trivial,fun od=> ?_⟩
  obtain ⟨S1,k1⟩:=lock od
  obtain ⟨v,ev,rv⟩:=S.val i _ z1
  have ev2:v= .ref s:=Rep.of_ref (K:=G.K) (H:=H) rv
  subst ev2
  obtain ⟨dx,vs,ei,fr⟩:=S.hp s _ z2
  obtain ⟨v2,e3,rv2⟩:=fr.look.1 _ z3
  have ev3:v2= .ref q:=Rep.of_ref (K:=G.K) (H:=H) rv2
  subst ev3
  have nsq:s≠q:=fun y=> by rw [y,e0] at ei;cases ei
  refine ⟨_,ev,s,_,dx,vs,_,rfl,by rw [upd_ne nsq,←gk];exact ei,F.cl,F.no,e3,q,od,kq,rfl,upd_same,?_⟩
  have hlen:kq.length=l.length:=by have:=congrArg List.length e1;simpa using this
  have gk':(A02 G env σ (upd H q (.frz od (.dK kq)))).K=X.K:=gk
  have key:∀(j:Nat) (σ':L2.St) (H':Hp) (e:A0),BS (A02 G env σ (upd H q (.frz od (.dK kq)))) e (fun _=> none) σ' H'→itL a b tb (fun e=> Da.nx e h) [] e→H' q=some (.frz od (.dK kq))∧D.nx σ' (upd H' q (.dK kq)):=fun j σ' H' e Sk ze=> by
    obtain ⟨y1,y2,y3⟩:=S.open z4 e0 Sk ze.1
    exact ⟨y1,lk.nx _ _ _ _ y2 y3 ze.2⟩
  refine ⟨fun j m σ' H'=> l.length≤j+m∧∃e,BS (A02 G env σ (upd H q (.frz od (.dK kq)))) e (fun _=> none) σ' H'∧itL a b tb (fun e=> Da.nx e h) (l.drop j) e,⟨l.length,by omega,env,S1,by simpa using z⟩,?_⟩
  rintro j m σ2 H2 ⟨hm,e,S2,ze⟩
  have hq2:H2 q=some (.frz od (.dK kq)):=S2.fr q _ (A22 noq upd_same) rfl (fun _ z=> (by cases z))
  have kk:Keeps H H2:=fun p o eo im=> by
    have np:p≠q:=fun z=> by rw [z,e0] at eo;cases eo;exact im.elim
    exact S2.fr p o (A22 (S.imm eo im).2 (by rw [upd_ne np];exact eo)) rfl im.nt
  cases el:l[j]? with
  | none=>
    have hl:=List.getElem?_eq_none_iff.mp el
    rw [List.drop_eq_nil_of_le hl] at ze
    exact .inl ⟨⟨hq2,by omega⟩,key j σ2 H2 e S2 ze⟩
  | some p=>
    obtain ⟨hl,ew⟩:=List.getElem?_eq_some_iff.mp el
    have ed:l.drop j=p::l.drop (j+1):=by rw [List.drop_eq_getElem_cons hl,ew]
    rw [ed] at ze
    refine .inr ⟨⟨hq2,by omega⟩,fun σ' H'=> ∃e,BS (A02 G env σ (upd H q (.frz od (.dK kq)))) e (fun _=> none) σ' H'∧itL a b tb (fun e=> Da.nx e h) (l.drop (j+1)) e,fun σ' H' n=> ⟨m - 1,by omega,by omega,n⟩,fun x H3 y=> ?_⟩
    obtain ⟨T,kk1,v1,ek,ex,nT,e3'⟩:=y
    subst ex e3'
    have ekey:kk1= .inr p.1:=by
      have z1:(kq.map (·.1))[j]? =some kk1:=by rw [List.getElem?_map,ek];rfl
      rw [e1,List.getElem?_map,el] at z1
      exact (Option.some.inj z1).symm
    subst ekey
    have rv1:Rep G.K H p.2 v1:=by
      obtain ⟨u,y1,y2⟩:=e2.get (i:=j) (w:=p.2) (by rw [List.getElem?_map,el];rfl)
      rw [List.getElem?_map,ek] at y1
      cases y1;exact y2
    have nw:New H2 (upd H2 T (.tup [kV (.inr p.1),v1])):=New.upd nT
    refine ⟨T,_,rfl,.inl (.inl upd_same),rfl,_,_,rfl,_,_,rfl,rfl,?_⟩
    have S3:=(nw.bs S2).set (r:= .val (.str p.1)) a (show Rep G.K (upd H2 T (.tup [kV (.inr p.1),v1])) (.str p.1) (kV (.inr p.1)) from .str) trivial
    have S4:=S3.set (r:= .val p.2) b (show Rep G.K (upd H2 T (.tup [kV (.inr p.1),v1])) p.2 v1 from Rep.mono (kk.trans nw.keeps) _ _ rv1) trivial
    refine ⟨_,gk',_,_,⟨fun e' _=> itL a b tb (fun e=> Da.nx e h) (l.drop (j+1)) e',fun _ _ _=> False,fun _ _=> False,fun e' _=> itL a b tb (fun e=> Da.nx e h) (l.drop (j+1)) e'⟩,S4,ze,⟨fun e' h' σ' H' S' _ y=> ⟨e',S'.le (fun _ _ z=> (by cases z)),y⟩,fun _ _ _ _ _ _ _ _ _ z=> z.elim,fun _ _ _ _ _ _ z=> z.elim,fun e' h' σ' H' S' _ y=> ⟨e',S'.le (fun _ _ z=> (by cases z)),y⟩⟩⟩
end
end Ab
namespace Ab
open PySem PySem.Spec PyProof.Rows L2 RZ
def Sta (H H':Hp):Prop:=∀p o,H p=some o→NT o→H' p=some o
section
variable {G:Gx} {env e:A0} {h:AH} {σ σ':L2.St} {H H':Hp}
theorem Sta.keeps (s:Sta H H'):Keeps H H':=fun p o e i=> s p o e i.nt
theorem BS.same (S:BS G env h σ H) (s:Sta H H') (th:∀p o,H p=some o→∃u,H' p=some u) (tb:TabsK G.K H'):BS G env h σ H'∧Xt env h σ H env h H':=by
  refine ⟨⟨S.len,fun i w z=> ?_,fun i c z=> ?_,S.uni,fun a o z=> ?_,fun p o z y t=> s p o (S.fr p o z y t) t,S.ext,fun p o z=> ?_,tb⟩,⟨fun p o e _ _ t=> s p o e t,fun p o e n=> (by rw [n] at e;cases e),th,fun i c e=> ⟨c,e⟩⟩⟩
  · obtain ⟨v,a,b⟩:=S.val i w z;exact ⟨v,a,Rep.mono s.keeps w v b⟩
  · obtain ⟨p,a,b,d,f⟩:=S.own i c z
    obtain ⟨u,eu,m⟩:=b.there
    exact ⟨p,a,b.mono s.keeps ((s p u eu m.nt).trans eu.symm),d,f⟩
  · obtain ⟨u,eu,m⟩:=(S.hp a o z).there
    exact (S.hp a o z).mono s.keeps ((s a u eu m.nt).trans eu.symm)
  · obtain ⟨u,eu⟩:=S.tr p o z;exact th p u eu
def VOnly (e:A0):Prop:=∀(i:Nat) (c:Cont),e[i]? ≠some (some (.own c))
theorem VOnly.set (v:VOnly e) {a:Nat} {w:W}:VOnly (e.set a (some (.val w))):=fun i c z=> by
  by_cases hi:a=i
  · subst hi
    by_cases hl:a < e.length
    · rw [List.getElem?_set_self hl] at z;cases z
    · rw [List.getElem?_eq_none (by rw [List.length_set];omega)] at z;cases z
  · rw [List.getElem?_set_ne hi] at z;exact v i c z
theorem VOnly.no (v:VOnly e) {p:Addr}:¬OwnAt e σ p:=fun ⟨i,c,z,_⟩=> v i c z
end
def A9o (a b:Nat) (e0:A0) (p:Str×W):A0:=(e0.set a (some (.val (.str p.1)))).set b (some (.val p.2))
def dcL (a b:Nat) (tk tv:C3) (Q:List (Str×W)→Prop) (e0:A0):List (Str×W)→List (Str×W)→Prop
  | [],acc=> W.nodcts (acc.map (·.2))=true∧Q acc
  | p::r,acc=> tk (A9o a b e0 p) (fun _=> none) fun w e2 _=> e2=A9o a b e0 p∧tv (A9o a b e0 p) (fun _=> none) fun u _ _=> ∃s,w= .str s∧acc.length < sizeLine∧dcL a b tk tv Q e0 r (g8 acc s u)
theorem dcL.mono {a b:Nat} {tk tv:C3} {e0:A0} (mk:A9 tk) (mv:A9 tv) {Q Q':List (Str×W)→Prop} (k:∀l,Q l→Q' l):∀(l acc:List (Str×W)),dcL a b tk tv Q e0 l acc→dcL a b tk tv Q' e0 l acc
  | [],acc,q=> ⟨q.1,k _ q.2⟩
  | p::r,acc,q=> mk _ _ _ _ (fun w e2 _ ⟨z1,z2⟩=> ⟨z1,mv _ _ _ _ (fun u _ _ ⟨s,y1,y2,y3⟩=> ⟨s,y1,y2,dcL.mono mk mv k r _ y3⟩) z2⟩) q
section
variable {X:Cx} {G:Gx} {i a b:Nat} {n f A B Sn:Str} {kx vx:Expr} {pos p1 p2 p3 p4 p5 p6 p7:Pos} {k0:Nat} {tk tv:C3} {scope:Scope} {own:List (Str×Nat)}
end
end Ab
namespace Ab
open PySem PySem.Spec PyProof.Rows L2 RZ
abbrev EF:XK:=fun _ _ _=> False
theorem C25 {X:Cx} {σ:L2.St}:PassesAt (L2.CX X.prog X.w) X σ EF:=fun _ _ _ _ _ _ ⟨_,_,_,_,_,_,_,_,_,_,_,_,z⟩=> False.elim z
section
variable {X:Cx} {CX:CXT} {k:Nat} {f C:Addr} {fd:FuncData} {ps:List Str} {sp:Sp} {E:XK}
theorem C0G {pins:List (Addr×Obj)} {σ:L2.St} {H:Hp} {s:Shared} {Q:VK} {us:List Value} {vs:List V} (F:FnOk X.prog X.w X.K X.mg X.base CX k f fd ps sp) (hr:Room (k+1) X.A) (hb:Binds X.K fd ps []) (hx:PassesAt CX X σ E)
    (I:Inv X pins σ H s) (r:Vals vs us) (h:sp vs H Q E):wpAny (model X.prog X.w) X.A.in1 (call (.ref f) us) (EP X pins σ Q) X.xe s:=by
  have hl:us.length=ps.length:=by rw [←r.length];exact F.len _ _ _ _ h
  refine wpAny_call (codeAny_mono (F.run X.A.in1 X.stack s H ⟨us,[]⟩ us vs Q E hr.in1 I.env0.in1 (by have z:=hb s us I.kIn (by rw [List.append_nil];exact hl);rw [List.append_nil] at z;exact z) r h) fun r s' hq=> ?_)
  cases r with
  | error e=> exact hx pins H s e s' I hq
  | ok fl=> cases fl <;> first | exact I.after hq | exact False.elim hq
def B5Y (C:Addr) (sp:Sp) (po:V→Prop):List V→Hp→VK→Prop:=fun xs H Q=> ∃a dx fs,xs=[.ref a]∧H a=some (.ins C dx fs)∧sp [.ref a] H (fun v H'=> po v∧Q v H') EF
def B46:V→Prop:=fun v=> ∃n:Int,v= .int n∧0≤n∧n < 2 ^ 63
theorem C1M (F:FnOk X.prog X.w X.K X.mg X.base (L2.CX X.prog X.w) k f fd ps sp) (M:Meth X.K C "__len__" f) (hr:Room (k+1) X.A) (hb:Binds X.K fd ps []):CallR X (.builtin "len") (B5Y C sp B46):=by
  intro pins s σ H xs us Q I r h
  obtain ⟨a,dx,fs,rfl,e,q⟩:=h
  rw [Vals.ref1 r]
  obtain ⟨mA,J,_⟩:=ins_get I.hok e
  obtain ⟨od,J,_⟩:=J.look
  obtain ⟨m,hF⟩:=I.fr
  refine PySem.W.len_K hF I.ok.mod.kin J M.at_ M.fn (thn (C0G (us:=[.ref a]) (vs:=[.ref a]) F hr hb C25 I (.cons rfl .nil) q) fun u s' ⟨v,H',I',rv,⟨n,ev,h0,h1⟩,q⟩=> ?_)
  subst ev
  obtain ⟨t,rfl⟩:=(show ∃t,u=Value.int n t from rv)
  exact ⟨⟨h0,h1⟩,.int n,H',I'.tok _,⟨_,rfl⟩,q⟩
open Builtin in
structure NeOk (K:PySem.W.Frag) (C:Addr):Prop where
  ne:PySem.W.findIn K (.ref C) "__ne__"=some (some (.builtin "object.__ne__"))
  mr:PySem.W.mroIn K C (.type "object")=some true
open Builtin in
end
end Ab
namespace Ab
open PySem PySem.Spec PyProof.Rows L2 RZ
def A1j:RR→(RV→Prop)→Prop:=fun r K=> ∃n:Int,r= .val (.int n)∧0≤n∧n < 2 ^ 63∧K (.val (.int n))
def aOwn (C:Str) (sp:B8) (po:RR→(RV→Prop)→Prop) (to:AT):AT:=fun env h Q=> to env h fun r env1 h1=> ∃a fs,r= .val (.ref a)∧h1 a=some (.ins C fs)∧sp [.ref a] h1 (fun x h2=> po x fun y=> Q y env1 h2) fun _ _=> False
def A7C (po:RR→(RV→Prop)→Prop):Prop:=∀r K K',(∀y,K y→K' y)→po r K→po r K'
theorem A6S:A7C A1j:=fun r K K' k ⟨n,a,b,c,d⟩=> ⟨n,a,b,c,k _ d⟩
theorem aOwn.mono {C:Str} {sp:B8} {po:RR→(RV→Prop)→Prop} {to:AT} (sm:L6 sp) (pm:A7C po) (m:A9 to):A9 (aOwn C sp po to):=fun env h Q Q' k q=>
  m env h _ _ (fun r e g ⟨a,fs,z1,z2,z⟩=> ⟨a,fs,z1,z2,sm _ _ _ _ _ _ (fun x f y=> pm _ _ _ (fun y' z=> k _ _ _ z) y) (fun _ _ z=> z) z⟩) q
section
variable {X:Cx} {G:Gx} {sp:B8} {C:Str} {st:Stmt} {k j:Nat} {ps:List Str} {o o2:Expr} {p pos:Pos} {to t2:AT}
theorem B9l {isv:V→Prop} {po:RR→(RV→Prop)→Prop} {σ:L2.St} {H:Hp} {Q:VK} (gk:G.K=X.K) (sm:L6 sp) (pm:A7C po) (mo:A9 to) (hv:∀r (K:RV→Prop),po r K→∃w,r= .val w∧K (.val w)∧∀K' H' v,Rep K' H' w v→isv v)
    (q:cE G (aOwn C sp po to) σ H Q):cE G to σ H fun x H1=> B5Y (He.ga X.K C) (R9 G.K 1 sp) isv [x] H1 Q:=by
  obtain ⟨env,h,S,q⟩:=q
  refine ⟨env,h,S,mo env h _ _ (fun r env1 h1 ⟨a,fs,z1,z2,z⟩ x H1 S1 x1 r1 _=> ?_) q⟩
  subst z1
  have ex:x= .ref a:=Rep.of_ref (K:=G.K) (H:=H1) r1
  subst ex
  obtain ⟨dx,vs,ea,_⟩:=S1.hp a _ z2
  refine ⟨a,dx,vs,rfl,gk▸ea,[.ref a],h1,_,_,rfl,S1.hp,S1.tabs,.cons .ref .nil,z,fun r h' v H' y c rr=> ?_,fun _ _ _ _ _ z _ _=> z.elim⟩
  obtain ⟨S3,x3⟩:=S1.after c
  obtain ⟨w,e,yy,hw⟩:=hv _ _ y
  clear y
  subst e
  exact ⟨hw _ _ _ rr,yy v H' S3 (x1.trans x3) rr trivial⟩
theorem B3X (gk:G.K=X.K) (O:OkM X.prog X.w X.K X.mg X.base C "__len__" st k 1 ps [] sp) (bd:U7 C "__len__" st ps) (hr:Room j X.A) (kj:k+1≤j) (hg:Gl X "len") (hm:X.mg "len"=none) (ho:AE X G o to) (hs:starEach [o] X.env=[(false,eval o X.env)]:=by rfl):
    AE X G (.Call (.Name "len" p) [o] [] pos) (aOwn C sp A1j to):=by
  obtain ⟨f,fd,M,FD,F⟩:=O.ex
  have F:FnOk X.prog X.w X.K X.mg X.base (L2.CX X.prog X.w) k f fd ps (R9 G.K 1 sp):=gk▸F
  refine ⟨aOwn.mono O.sm A6S ho.mono,PE.imp (pe_callB (C1M F M (hr.mono kj) (FD.bindsN bd)) hg hm U8 (pa_cons ho.pe pa_nil hs) (by decide) (by decide) hs (by rw [show starEach [] X.env=[] from rfl];rfl)) fun σ H Q q=> ?_⟩
  exact B9l (isv:=B46) gk O.sm A6S ho.mono (fun r K ⟨n,a,b,c,d⟩=> ⟨.int n,a,d,fun K' H' v rv=> ⟨n,Rep.of_int rv,b,c⟩⟩) q
def aEqO (C:Str) (neg:Bool) (sp:B8) (ta tb:AT):AT:=fun env h Q=> ta env h fun r env1 h1=> tb env1 h1 fun r2 env2 h2=> ∃a b fs gs,r= .val (.ref a)∧r2= .val (.ref b)∧h2 a=some (.ins C fs)∧h2 b=some (.ins C gs)∧
  sp [.ref a,.ref b] h2 (fun x h3=> ∃k:Bool,x= .val (.bl k)∧Q (.val (.bl (if neg=true then !k else k))) env2 h3) fun _ _=> False
theorem aEqO.mono {C:Str} {neg:Bool} {sp:B8} {ta tb:AT} (sm:L6 sp) (m:A9 ta) (n:A9 tb):A9 (aEqO C neg sp ta tb):=fun env h Q Q' k q=>
  m env h _ _ (fun r e g z=> n e g _ _ (fun r2 e2 g2 ⟨a,b,fs,gs,z1,z2,z3,z4,z⟩=> ⟨a,b,fs,gs,z1,z2,z3,z4,sm _ _ _ _ _ _ (fun x f ⟨b,y1,y2⟩=> ⟨b,y1,k _ _ _ y2⟩) (fun _ _ z=> z) z⟩) z) q
section
variable (gk:G.K=X.K) (O:OkM X.prog X.w X.K X.mg X.base C "__eq__" st k 2 ps [] sp) (bd:U7 C "__eq__" st ps) (hr:Room j X.A) (kj:k+1≤j) (ho:AE X G o to) (h2:AE X G o2 t2)
include gk O bd hr kj ho h2
end
structure IsO (K:PySem.W.Frag) (mg:Str→Option Value) (n C:Str) (b:Bool):Prop where
  gl:mg C=some (.ref (He.ga K C))
  cl:Cls K (He.ga K n)
  ca:PySem.W.findIn K (.ref (He.ga K n)) "__class__"=some (some (.builtin "object.__class__"))
  cn:PySem.W.specialIn K (.builtin "object.__class__") "__get__"=some (some (.builtin "getset_descriptor.__get__"))
  ct:PySem.W.takesIn K (.builtin "object.__class__")=some true
  cm:PySem.W.mroIn K (He.ga K n) (.type "object")=some true
  ko:PySem.W.kitOne K (.ref (He.ga K n)) (.ref (He.ga K C))=some b
  kl:PySem.W.kitOne K (.type "list") (.ref (He.ga K C))=some false
  kt:PySem.W.kitOne K (.type "tuple") (.ref (He.ga K C))=some false
  ks:PySem.W.kitOne K (.type "str") (.ref (He.ga K C))=some false
def B5D:W→Prop
  | .lst _=> True
  | .tup _=> True
  | .str _=> True
  | _=> False
end
end Ab
namespace Ab
open PySem PySem.Spec PyProof.Rows L2 RZ
def aMethM (C m:Str) (E:AExc→A0→AH→Prop) (sp:B8) (N:Nat) (gW:List W→List W→List W) (to:AT) (t tk:E5):AT:=fun env h Q=> to env h fun r env1 h1=> ∃a fs,r= .val (.ref a)∧h1 a=some (.ins C fs)∧fs.lookup m=none∧
  t env1 h1 fun ws env2 h2=> tk env2 h2 fun zs env3 h3=> (gW (.ref a::ws) zs).length=N∧sp (gW (.ref a::ws) zs) h3 (kRes Q env3) fun x h4=> E x env3 h4
theorem aMethM.mono {C m:Str} {E:AExc→A0→AH→Prop} {sp:B8} {N:Nat} {gW:List W→List W→List W} {to:AT} {t tk:E5} (sm:L6 sp) (a:A9 to) (b:A9 t) (c:A9 tk):A9 (aMethM C m E sp N gW to t tk):=fun env h Q Q' k q=>
  a env h _ _ (fun r e g ⟨p,fs,z1,z2,z3,z4⟩=> ⟨p,fs,z1,z2,z3,b e g _ _ (fun ws e2 g2 z=> c e2 g2 _ _ (fun zs e3 g3 z=> ⟨z.1,sm _ _ _ _ _ _ (fun r f y=> kRes.imp k r f y) (fun x f y=> y) z.2⟩) z) z4⟩) q
def aMakeM (C:Str) (E:AExc→A0→AH→Prop) (sp:B8) (N:Nat) (gW:List W→List W→List W) (t tk:E5):AT:=fun env h Q=> t env h fun ws env1 h1=> tk env1 h1 fun zs env2 h2=> (∀a:Addr,(gW (.ref a::ws) zs).length=N)∧∀a,h2 a=none→sp (gW (.ref a::ws) zs) (D6 h2 a (.ins C [])) (kMk Q env2 a) fun x h3=> E x env2 h3
theorem aMakeM.mono {C:Str} {E:AExc→A0→AH→Prop} {sp:B8} {N:Nat} {gW:List W→List W→List W} {t tk:E5} (sm:L6 sp) (b:A9 t) (c:A9 tk):A9 (aMakeM C E sp N gW t tk):=fun env h Q Q' k q=>
  b env h _ _ (fun ws e g z=> c e g _ _ (fun zs e g z=> ⟨z.1,fun a n=> sm _ _ _ _ _ _ (fun r f y=> ⟨y.1,k _ _ _ y.2⟩) (fun x f y=> y) (z.2 a n)⟩) z) q
section
variable {X:Cx} {G:Gx} {sp:B8} {C m:Str} {st:Stmt} {k j n0:Nat} {ps ks:List Str} {kws0:List (Str×V)} {mz:List V} {ds:List W} {o e:Expr} {es:List Expr} {kws:List Keyword} {pos apos p:Pos} {to:AT} {t tk:E5} {E:AExc→A0→AH→Prop} {perm:List Nat}
end
end Ab
namespace Ab
open PySem PySem.Spec PyProof.Rows L2 RZ
def B0K (l2:List (Str×W)):List (Str×W)→Bool
  | []=> true
  | p::r=> match l2.lookup p.1 with
    | none=> false
    | some u=> M1 p.2 u && B0K l2 r
def A7U (l:List (Str×W)):Bool:=l.all fun p=> p.2.dat 60
section
variable {X:Cx} {pins:List (Addr×Obj)} {σ:L2.St} {H:Hp} {s:Shared}
end
def oEqM:L7:=fun a b Q=> ∃l1 l2,a.toW=V8 l1∧b.toW=V8 l2∧A7U l1=true∧A7U l2=true∧Q (.val (.bl (l1.length==l2.length && B0K l2 l1)))
theorem oEqM.mono (a b:Vw) (Q Q':RV→Prop) (k:∀r,Q r→Q' r) (q:oEqM a b Q):oEqM a b Q':=
  let ⟨l1,l2,x1,x2,c,d,q⟩:=q
  ⟨l1,l2,x1,x2,c,d,k _ q⟩
def oNeM:L7:=fun a b Q=> ∃l1 l2,a.toW=V8 l1∧b.toW=V8 l2∧A7U l1=true∧A7U l2=true∧Q (.val (.bl (!(l1.length==l2.length && B0K l2 l1))))
theorem oNeM.mono (a b:Vw) (Q Q':RV→Prop) (k:∀r,Q r→Q' r) (q:oNeM a b Q):oNeM a b Q':=
  let ⟨l1,l2,x1,x2,c,d,q⟩:=q
  ⟨l1,l2,x1,x2,c,d,k _ q⟩
section
variable {X:Cx}
end
section
variable {X:Cx}
def B41:R2:=fun x y H Q=> ∃l k xs,x= .ref l∧y= .int k∧Rd H l (.lst xs)∧ -(2 ^ 63)≤k∧k < 2 ^ 63∧xs.length*k.toNat≤sizeLine∧∀p,H p=none→Q (.ref p) (upd H p (.lst (List.replicate k.toNat xs).flatten))
theorem C1Y:OpR X (binaryOp .Mult) B41:=by
  intro pins s σ H x y v u Q I rx ry h
  obtain ⟨l,k,xs,rfl,rfl,hH,h1,h2,hz,q⟩:=h
  cases rx
  obtain ⟨t,rfl⟩:=ry
  obtain ⟨z,its,n,r,e⟩:=A9d I hH
  have hl:=r.length
  have hlen:its.toArray.size*k.toNat≤sizeLine:=by rw [List.size_toArray,←hl];exact hz
  have hcap:¬its.toArray.size*k.toNat > (2 ^ 63 - 1) / 8:=by
    have:(sizeLine:Nat)≤(2 ^ 63 - 1) / 8:=by decide
    omega
  have hfit:¬(!Builtin.List.listFitsIndex k)=true:=by
    rw [fitsIndex_both h1 h2]
    exact Bool.false_ne_true
  have hlong:¬Builtin.List.listTooLong (its.toArray.size*k.toNat)=true:=by
    rw [notLongL hlen]
    exact Bool.false_ne_true
  have hnew:List.foldl (fun x1 x2=> x1++x2) #[] (List.replicate (if its.toArray.isEmpty=true then 0 else k.toNat) its.toArray)=(List.replicate k.toNat its).flatten.toArray:=by
    have f0:∀m:Nat,List.foldl (fun x1 x2=> x1++x2) #[] (List.replicate m its.toArray)=(List.replicate m its).flatten.toArray:=fun m=> by
      have:=foldl_rep its m []
      rw [List.nil_append] at this
      exact this
    rw [f0]
    cases its with
    | nil=> simp
    | cons a r'=> rw [if_neg (by simp)]
  refine wpAny_binaryOp_repeat_ref (T:="list") (U:="int") (by decide) ⟨_,e,rfl⟩ (fun s'=> typeIs_int s' k t) noFill_list_mul F.fills_int_mul F.slot_int_rmul repeat_list F.slot_int_index.lookup
    (call_meets F.slot_int_rmul (typeIs_int s k t) F.entry_int_rmul (F.args_int_rmul_2 _ _) (int___rmul___int_list k t l its.toArray n)
      ⟨e,rfl,⟨_,e,rfl⟩,call_meets F.slot_list_mul ⟨_,e,rfl⟩ F.entry_list_mul (F.args_list_mul_2 _ _) (AutoListH.list___mul___list_int_3 l its.toArray n k t hfit hcap hlong) ⟨e,?_⟩⟩)
  rw [hnew]
  exact ⟨.ref _,_,I.lnew (t':=s.toks) (r.rep k.toNat) (by rw [PyProof.Rows.lm_len_rep_flat,Nat.mul_comm];exact hz),rfl,q _ I.fresh⟩
def i5 (x:Str) (n:Int):Str:=⟨(List.replicate n.toNat x.cps.toList).flatten.toArray⟩
def B5F:R2:=fun x y H Q=> ∃a n,x= .str a∧y= .int n∧0≤n∧n≤1000∧a.length≤1000∧Q (.str (i5 a n)) H
theorem B2P (x:Array Nat):∀(n:Nat) (acc:Array Nat),(List.replicate n x).foldl (· ++ ·) acc=acc++(List.replicate n x.toList).flatten.toArray
  | 0,acc=> by simp
  | n+1,acc=> by
    rw [List.replicate_succ,List.foldl_cons,B2P x n,List.replicate_succ,List.flatten_cons]
    obtain ⟨x⟩:=x
    simp
theorem C0f:OpR X (binaryOp .Mult) B5F:=by
  intro pins s σ H x y v u Q I rx ry h
  obtain ⟨a,n,rfl,rfl,n0,n1,la,q⟩:=h
  obtain ⟨t,rfl⟩:=rx
  obtain ⟨t',rfl⟩:=ry
  have hz:a.length*n.toNat≤1000000:=Nat.le_trans (Nat.mul_le_mul la (show n.toNat≤1000 by omega)) (by decide)
  refine PySem.P.mul_str (by
    have h1:¬n < -(2 ^ 63:Int):=by omega
    have h2:¬n≥2 ^ 63:=by omega
    rw [decide_eq_false h1,decide_eq_false h2];rfl) (fun h1 _=> ?_) (fun _ _=> ?_) ?_
  · have h3:(9223372036854775:Int)≤(2 ^ 63 - 1) / n:=by
      have:=Int.le_ediv_of_mul_le (a:=9223372036854775) (b:=2 ^ 63 - 1) (c:=n) (by omega) (by omega)
      exact this
    omega
  · unfold Builtin.Str.tooLong
    rw [decide_eq_false]
    rw [show sizeLine=16777216 from rfl]
    omega
  · by_cases h1:n < 1
    · rw [if_pos h1]
      have e:n=0:=by omega
      subst e
      exact ⟨by decide,.str _,H,I.tok _,⟨_,rfl⟩,q⟩
    · rw [if_neg h1]
      by_cases h2:(n==1 || a.length==0)=true
      · rw [if_pos h2]
        have e:i5 a n=a:=by
          rcases Bool.or_eq_true_iff.mp h2 with e | e
          · have e:n=1:=by simpa using e
            subst e
            show Str.mk _=a
            simp
          · have e:a.length=0:=by simpa using e
            obtain ⟨⟨c⟩⟩:=a
            have:c=[]:=List.eq_nil_of_length_eq_zero e
            subst this
            unfold i5
            simp
        rw [e] at q
        exact ⟨.str a,H,I,⟨t,rfl⟩,q⟩
      · rw [if_neg h2]
        have e:(⟨(List.replicate n.toNat a.cps).foldl (· ++ ·) #[]⟩:Str)=i5 a n:=by
          unfold i5
          rw [B2P]
          simp
        rw [e]
        refine ⟨?_,.str _,H,I.tok _,⟨_,rfl⟩,q⟩
        show (i5 a n).cps.size≤_
        unfold i5
        simp only [List.size_toArray,List.length_flatten,List.map_replicate,List.sum_replicate_nat,Array.length_toList]
        rw [show sizeLine=16777216 from rfl,Nat.mul_comm]
        exact Nat.le_trans hz (by decide)
end
def oMulX:L7:=fun a b Q=> match b with
  | .wv (.int j)=> match a with
    | .wv (.int i)=> CMulW i j∧Q (.val (.int (i*j)))
    | .wv (.str x)=> (0≤j∧j≤1000∧x.length≤1000)∧Q (.val (.str (i5 x j)))
    | a=> ∃xs,a.seq=some xs∧(-(2 ^ 63)≤j∧j < 2 ^ 63∧xs.length*j.toNat≤sizeLine)∧Q (.own (.seq (List.replicate j.toNat xs).flatten))
  | _=> False
theorem oMulX.mono (a b:Vw) (Q Q':RV→Prop) (k:∀r,Q r→Q' r) (q:oMulX a b Q):oMulX a b Q':=by
  unfold oMulX at q ⊢
  split at q
  · split at q
    · exact ⟨q.1,k _ q.2⟩
    · exact ⟨q.1,k _ q.2⟩
    · obtain ⟨xs,e,z,q⟩:=q;exact ⟨xs,e,z,k _ q⟩
  · exact q
theorem B9S {K:PySem.W.Frag}:OpA K (fun x y H Q=> (rI CMulW (fun i j=> .int (i*j)) x y H Q∨B5F x y H Q)∨B41 x y H Q) oMulX:=
  ⟨oMulX.mono,fun a b x y H Q0 Q ra rb q k=> by
    unfold oMulX at q
    split at q
    · rename_i j
      have ey:y= .int j:=rb.int
      split at q
      · rename_i i
        exact .inl (.inl ⟨i,j,ra.int,ey,q.1,k _ _ (.val q.2 .int)⟩)
      · rename_i x
        exact .inl (.inr ⟨x,j,ra.str,ey,q.1.1,q.1.2.1,q.1.2.2,k _ _ (.val q.2 .str)⟩)
      · obtain ⟨xs,e,z,q⟩:=q
        obtain ⟨p,vs,ex,d1,r1⟩:=ra.seq e
        exact .inr ⟨p,j,vs,ex,ey,d1,z.1,z.2.1,by rw [←r1.length];exact z.2.2,fun p' n=> k _ _ (.lst n q (r1.rep _))⟩
    · exact q.elim⟩
section
variable {X:Cx} {G:Gx} {a b:Expr} {ta tb:AT} {pos:Pos}
theorem A8n (ha:AE X G a ta) (hb:AE X G b tb):AE X G (.BinOp a .Mult b pos) (aOp2 oMulX ta tb):=A3O ((op_mulW.or C0f).or C1Y) B9S ha hb
end
abbrev AJT:=A0→AH→(Str→A0→AH→Prop)→Prop
def fmtV (v:Vw) (Q:Str→Prop):Prop:=match v with
  | .wv (.str y)=> y.length≤sizeLine∧Q y
  | .wv (.int i)=> i.natAbs.log2 < 1920∧Q (toString i)
  | _=> False
def aFmt (t:AT):AT:=fun env h Q=> t env h fun r env1 h1=> fmtV (view env1 h1 r) fun y=> Q (.val (.str y)) env1 h1
theorem fmtV.imp {v:Vw} {Q Q':Str→Prop} (k:∀y,Q y→Q' y) (q:fmtV v Q):fmtV v Q':=by
  unfold fmtV at q ⊢
  split at q
  · exact ⟨q.1,k _ q.2⟩
  · exact ⟨q.1,k _ q.2⟩
  · exact q
theorem aFmt.mono {t:AT} (m:A9 t):A9 (aFmt t):=fun env h Q Q' k q=> m env h _ _ (fun r e g z=> z.imp fun y z=> k _ _ _ z) q
def jsL:List AT→Str→AJT
  | [],acc=> fun env h Q=> Q acc env h
  | t::ts,acc=> fun env h Q=> t env h fun r env1 h1=> ∃y:Str,r= .val (.str y)∧(acc++y).length≤sizeLine∧jsL ts (acc++y) env1 h1 Q
inductive AJ (X:Cx) (G:Gx):List Expr→List AT→Prop where
  | nil:AJ X G [] []
  | cons {e:Expr} {t:AT} {es:List Expr} {ts:List AT} (h:AE X G e t) (r:AJ X G es ts):AJ X G (e::es) (t::ts)
section
variable {X:Cx} {G:Gx} {e v1 v2:Expr} {t:AT} {es rest:List Expr} {ts:List AT} {pos:Pos}
theorem AJ.mono (a:AJ X G es ts):∀acc,A9 (jsL ts acc):=by
  induction a with
  | nil=> exact fun acc env h Q Q' k q=> k _ _ _ q
  | cons h r ih=> exact fun acc env g Q Q' k q=> h.mono env g _ _ (fun r e g ⟨y,e1,e2,z⟩=> ⟨y,e1,e2,ih _ _ _ _ _ k z⟩) q
end
end Ab
namespace Ab
open PySem PySem.Spec PyProof.Rows L2 RZ
def A1n (x:Str):List W:=x.cps.toList.map fun c=> .str ⟨#[c]⟩
theorem B9j {x:Str}:(A1n x).length=x.cps.size:=by unfold A1n;simp
theorem B9o {x:Str} {i:Nat} {w:W} (e:(A1n x)[i]? =some w):∃c,x.cps[i]? =some c∧w= .str ⟨#[c]⟩:=by
  unfold A1n at e
  rw [List.getElem?_map] at e
  cases q:x.cps.toList[i]? with
  | none=> rw [q] at e;cases e
  | some c=>
    rw [q] at e
    have e:some (W.str ⟨#[c]⟩)=some w:=e
    cases e
    exact ⟨c,by rw [←Array.getElem?_toList];exact q,rfl⟩
theorem B8z {K:PySem.W.Frag} {H:Hp} {x:Str}:A1h K (Its x) H (A1n x):=fun H' kk i=> by
  refine ⟨fun h=> (by rw [B9j] at h;exact h),fun w e=> ?_⟩
  obtain ⟨c,ec,rfl⟩:=B9o e
  have hi:i < x.cps.size:=by
    by_cases q:i < x.cps.size
    · exact q
    · rw [Array.getElem?_eq_none (by omega)] at ec;cases ec
  exact ⟨hi,fun v H2 ⟨e1,c',ec',ev⟩=> by
    subst e1
    rw [ec] at ec'
    cases ec'
    subst ev
    exact ⟨.refl _,.str⟩⟩
def B0D (t:AT):U2:=fun env h Q=> t env h fun r env1 h1=> ∃x,r= .val (.str x)∧Q (A1n x) env1 h1
section
variable {X:Cx} {G:Gx} {tg e a b o k:Expr} {t ta tb to:AT} {tk:C3} {pos:Pos}
theorem C1o (ha:AE X G e t):AI X G tg e (B0D t):=by
  refine ⟨fun env h Q Q' k q=> ha.mono env h _ _ (fun r e g ⟨x,z1,z2⟩=> ⟨x,z1,k _ _ _ z2⟩) q,PI.imp (pi_str ha.pe) fun σ H R ⟨env,h,S,q⟩=> ?_⟩
  refine ⟨env,h,S,ha.mono env h _ _ (fun r env1 h1 ⟨x,z1,z⟩ v H1 S1 x1 r1 _=> ?_) q⟩
  subst z1
  exact ⟨x,Rep.of_str (K:=G.K) (H:=H1) r1,z _ H1 S1 x1 B8z⟩
def A0V (i j:Str):Bool:= !(Builtin.Str.occurrences j i 0 j.length 1).isEmpty
def B5V (neg:Bool):R2:=fun x y H Q=> ∃i j,x= .str i∧y= .str j∧Q (.bl (if neg=true then !A0V i j else A0V i j)) H
theorem C2k:OpR X (compareOp .In) (B5V false):=op_in_str
def oInS (neg:Bool):L7:=fun a b Q=> match a,b with
  | .wv (.str i),.wv (.str j)=> Q (.val (.bl (if neg=true then !A0V i j else A0V i j)))
  | _,_=> False
theorem oInS.mono {neg:Bool} (a b:Vw) (Q Q':RV→Prop) (k:∀r,Q r→Q' r) (q:oInS neg a b Q):oInS neg a b Q':=by
  unfold oInS at q ⊢
  split at q
  · exact k _ q
  · exact q
theorem C1S {K:PySem.W.Frag} {neg:Bool}:OpA K (B5V neg) (oInS neg):=⟨oInS.mono,fun a b x y H Q0 Q ra rb q k=> by
  unfold oInS at q
  split at q
  · exact ⟨_,_,ra.str,rb.str,k _ _ (.val q .bl)⟩
  · exact q.elim⟩
theorem C2v (ha:AE X G a ta) (hb:AE X G b tb) (h1:behindInMarks .In b=false:=by rfl):AE X G (.Compare a [.In] [b] pos) (aOp2 (oInS false) ta tb):=A6k C2k C1S ha hb h1
theorem C0w {x z:Str} (hg:Gl X x) (hm:∃t,X.mg x=some (.str z t)) (hd:(x==("__debug__":Str))=false:=by decide):AE X G (.Name x pos) (aC (.str z)):=by
  obtain ⟨t,hm⟩:=hm
  exact A1l (v:= .str z) (pe_glob (v:= .str z) hg hm ⟨t,rfl⟩ hd) fun _=> .str
end
end Ab
namespace Ab
open PySem PySem.Spec PyProof.Rows L2 RZ
section
variable {X:Cx} {G:Gx} {i a b:Nat} {n f A B Sn:Str} {kx vx:Expr} {pos p1 p2 p3 p4 p5 p6 p7:Pos} {k0:Nat} {tk tv:C3} {scope:Scope} {own:List (Str×Nat)}
end
section
variable {X:Cx} {G:Gx} {elt tg iter:Expr} {ifs:List Expr} {scope:Scope} {own:List (Str×Nat)} {pos:Pos} {ti:Z1} {g:G5} {tt:G7} {te:C3} {sl:List Nat}
theorem C0h (hc:X.calm=true) (hN:X.N.Nodup) (hi:AI2 X G tg iter ti) (ok:BlkOk X.N X.env.scope scope own) (hsl:∀i∈sl,i∈own.map (·.2))
    (hg:∀(s:Shared) (H:Hp) (C:Addr) (cl:List (Str×Addr)) (fp:List Addr),AG (X.blk s H scope (compEnvC scope cl C X.env) fp) G tg sl g) (ht:∀(s:Shared) (H:Hp) (C:Addr) (cl:List (Str×Addr)) (fp:List Addr),APs (X.blk s H scope (compEnvC scope cl C X.env) fp) G ifs tt)
    (he:∀(s:Shared) (H:Hp) (C:Addr) (cl:List (Str×Addr)) (fp:List Addr),AV (X.blk s H scope (compEnvC scope cl C X.env) fp) G elt te) (hs:∀x,foldedSetIterable iter X.env x=pure x:=by intro _;rfl):
    AE X G (.ListComp elt [⟨tg,iter,ifs,0⟩] scope pos) (A44 (own.map (·.2)) ti g tt te):=
  C2I hc hN hi ok hsl hg ht he (hg X.s_0 X.H_0 0 [] []).mono (ht X.s_0 X.H_0 0 [] []).mono (he X.s_0 X.H_0 0 [] []).mono hs
variable {ti1:Z1} {g1:G5} {tt1:G7} {vs1 sl1:List Nat} {tg1 iter1:Expr} {ifs1:List Expr}
end
end Ab
namespace Ab
open PySem PySem.Spec PyProof.Rows L2 RZ
theorem VRL.three {K:PySem.W.Frag} {H:Hp} {a b c:Vw} {vs:List V} (r:VRL K H [a,b,c] vs):∃v u t,vs=[v,u,t]∧VR K H a v∧VR K H b u∧VR K H c t:=by
  cases r with
  | cons r1 rr=>
    obtain ⟨u,t,rfl,r2,r3⟩:=VRL.two rr
    exact ⟨_,u,t,rfl,r1,r2,r3⟩
def B5Z (hi:Int) (n:Nat):List W:=(List.range n).map fun (i:Nat)=> W.int (hi - i)
section
variable {X:Cx} {G:Gx} {tg e:Expr} {pos:Pos} {x:Str}
end
end Ab
namespace Ab
open PySem PySem.Spec PyProof.Rows L2 RZ
section
variable {X:Cx} {G:Gx} {body:List Stmt} {f₀:Stmt} {fs:List Stmt} {pos:Pos} {E:AExc→A0→AH→Prop}
variable {sp:B8} {st:Stmt} {k j n:Nat} {ps:List Str} {x y:Str} {p:Pos} {e:Expr} {es:List Expr} {t:E5}
end
section
variable {P:Program} {w:World} {K:PySem.W.Frag} {mg:Str→Option Value} {base:Heap} {C m:Str} {f:Addr} {fd:FuncData} {N ps:List Str} {k n:Nat} {sp:B8} {st:Stmt} {kws:List (Str×V)}
theorem OkM.mkL {t:(AExc→A0→AH→Prop)→C0} (sm:L6 sp) (cl:Cls K (He.ga K C)) (M:Meth K (He.ga K C) m f) (F:FunD K m (C++"."++m) (defArgs st) (defBody st) (defScope st) [] kws f fd) (S:FnScope N ps (defScope st)) (hn:ps.length=n)
    (lm:∀cdv,A3F K f cdv→MakesL K mg base ((C++"."++m)++".<locals>."++"<lambda>") cdv)
    (hb:∀(cdv:Value) (A:Around) (outer:List Env) (s:Shared) (H:Hp) (E:XK) (G:Gx) (E':AExc→A0→AH→Prop),MakesL K mg base ((C++"."++m)++".<locals>."++"<lambda>") cdv→Room k (A.deeper (envOfC (C++"."++m) (defScope st) s.heap.objs.size f cdv))→G.K=K→Takes (bx P w K mg base N (C++"."++m) (defScope st) f cdv A outer s H E) (cW G E')→
      ASs (bx P w K mg base N (C++"."++m) (defScope st) f cdv A outer s H E) G (defBody st) (t E'))
    (hq:∀ws h Qa Ea,ws.length=n→sp ws h Qa Ea→t (C7 Ea) (C2 Qa) (F8 N.length ws) h):OkM P w K mg base C m st (k+1) n ps kws sp:=by
  refine ⟨sm,cl,f,fd,M,F,?_⟩
  obtain ⟨oc,od,dV,kV,doc,pm,an,cdv,ct,osl,rfl,lk,hcd,_,_⟩:=F.ex
  refine fn_of lk hcd S (fun vs H Q E ⟨ws,h,Qa,Ea,hl,_,_,r,_⟩=> by rw [←r.length,hl,hn]) fun A outer s H vs Q E hr ⟨ws,h,Qa,Ea,hl,hp,tb,r,q,kq,ke⟩=> ?_
  have hwN:ws.length≤N.length:=by
    have z:=congrArg List.length S.pre
    rw [List.length_take] at z
    omega
  exact B3P hwN (hb cdv A outer s H E ⟨K,h,H⟩ (C7 Ea) (lm cdv ⟨oc,od,_,osl,lk,rfl⟩) hr rfl (B2V ke)) hp tb r (hq ws h Qa Ea hl q) kq
end
end Ab
namespace Ab
open PySem PySem.Spec PyProof.Rows L2 RZ
section
variable {K:PySem.W.Frag}
end
section
variable {X:Cx} {G:Gx} {o k e a b tg:Expr} {to ta tb:AT} {tk:C3} {t:C3} {i j:Nat} {x y:Str} {px py pt pos apos cpos:Pos} {kt:Nat} {k2:Nat} {pt2:Pos}
end
end Ab
namespace Ab
open PySem PySem.Spec PyProof.Rows L2 RZ
def C08:U3:=fun xs ws Q=> match ws with
  | [.int i,y]=> xs.length < sizeLine∧0≤i∧i < 2 ^ 63∧Q (xs.take i.toNat++[y]++xs.drop i.toNat) .non
  | _=> False
def B9w:U3:=fun xs ws Q=> match ws with
  | []=> Q xs.reverse .non
  | _=> False
def C2F:U3:=fun xs ws Q=> match ws with
  | []=> Q [] .non
  | _=> False
end Ab
namespace Ab
open PySem PySem.Spec PyProof.Rows L2 RZ
def B5N (v:Vw) (w d:W) (Q:RV→Prop):Prop:=∃l s,v.toW=V8 l∧w= .str s∧Q (.val ((l.lookup s).getD d))
def isM (v:Vw):Prop:=∃l,v.toW=V8 l
def aGetMD (to:AT) (tk td:C3):AT:=fun env h Q=> to env h fun r env1 h1=> isM (view env1 h1 r)∧tk env1 h1 fun w env2 h2=> td env2 h2 fun d env3 h3=> B5N (view env3 h3 r) w d fun x=> Q x env3 h3
theorem aGetMD.mono {tk td:C3} {to:AT} (n:A9 to) (m:A9 tk) (o:A9 td):A9 (aGetMD to tk td):=fun env h Q Q' k q=> n env h _ _ (fun r e g z=> ⟨z.1,m e g _ _ (fun w e g z=> o e g _ _ (fun d e g ⟨l,s,z1,z2,z4⟩=> ⟨l,s,z1,z2,k _ _ _ z4⟩) z) z.2⟩) q
section
variable {X:Cx} {G:Gx} {o k e:Expr} {apos cpos:Pos} {tk td:C3} {to:AT}
end
end Ab
namespace Ab
open PySem PySem.Spec PyProof.Rows L2 RZ
def B5L:L4:=fun as Q=> match as with
  | [.wv (.int i)]=> i.natAbs.log2 < 1920∧Q (.val (.str (toString i)))
  | [.wv (.str s)]=> Q (.val (.str s))
  | _=> False
def aJoin (to te:AT):AT:=fun env h Q=> to env h fun r env1 h1=> (∃s,view env1 h1 r= .wv (.str s))∧te env1 h1 fun r2 env2 h2=> ∃(s:Str) (ys:List Str),view env2 h2 r= .wv (.str s)∧(view env2 h2 r2).items=some (ys.map W.str)∧(ys.map (·.length)).sum+ys.length*s.length≤16777216∧Q (.val (.str (Txt.join s ys))) env2 h2
theorem aJoin.mono {to te:AT} (a:A9 to) (b:A9 te):A9 (aJoin to te):=fun env h Q Q' k q=>
  a env h _ _ (fun r e g z=> ⟨z.1,b e g _ _ (fun r2 e2 g2 ⟨s,ys,z1,z2,z3,z4⟩=> ⟨s,ys,z1,z2,z3,k _ _ _ z4⟩) z.2⟩) q
section
variable {X:Cx} {G:Gx} {o e:Expr} {to te:AT} {apos pos:Pos}
end
section
variable {X:Cx} {CX:CXT} {k:Nat} {f C:Addr} {fd:FuncData} {ps:List Str} {sp:Sp} {E:XK}
end
section
variable {X:Cx} {G:Gx} {sp:B8} {C:Str} {st:Stmt} {k j:Nat} {ps:List Str} {o:Expr} {p pos:Pos} {to:AT}
end
end Ab
namespace Ab
open PySem PySem.Spec PyProof.Rows L2 RZ
def aM1 (o:L4) (to te:AT):AT:=fun env h Q=> to env h fun r env1 h1=> (∃s,view env1 h1 r= .wv (.str s))∧te env1 h1 fun r2 env2 h2=> o [view env2 h2 r,view env2 h2 r2] fun x=> Q x env2 h2
theorem aM1.mono {K:PySem.W.Frag} {r:List V→Hp→VK→Prop} {o:L4} {to te:AT} (ca:CallA K r o) (a:A9 to) (b:A9 te):A9 (aM1 o to te):=fun env h Q Q' k q=>
  a env h _ _ (fun r e g z=> ⟨z.1,b e g _ _ (fun r2 e2 g2 z=> ca.mono _ _ _ (fun x q=> k _ _ _ q) z) z.2⟩) q
def C18:L4:=fun as Q=> match as with
  | [.wv (.str a),.wv (.str b)]=> (b.length==0)=false∧a.length+2≤sizeLine∧Q (.own (.seq ((Txt.split a b).map W.str)))
  | _=> False
section
variable {X:Cx} {G:Gx} {o e:Expr} {to te:AT} {apos pos:Pos}
end
end Ab
namespace Ab
open PySem PySem.Spec PyProof.Rows L2 RZ
def j5 (tab:List (Str×Int)) (x:Str):Option Int:=(tab.find? fun p=> decide (p.1=x)).map (·.2)
structure DcF (K:PySem.W.Frag) (w:World) (a:Addr) (tab:List (Str×Int)):Prop where
  kd:∃es n,KDict K w a es n
  hit:∀x i,j5 tab x=some i→∃t,PySem.W.nsIn K a x=some (some (.int i t))
  miss:∀x,j5 tab x=none→PySem.W.nsIn K a x=some none
def aInKD (neg:Bool) (tab:List (Str×Int)) (tk:C3):AT:=fun env h Q=> tk env h fun w env1 h1=> ∃s,w= .str s∧Q (.val (.bl (if neg=true then !(j5 tab s).isSome else (j5 tab s).isSome))) env1 h1
theorem aInKD.mono {neg:Bool} {tab:List (Str×Int)} {tk:C3} (m:A9 tk):A9 (aInKD neg tab tk):=fun env h Q Q' k q=> m env h _ _ (fun w e g ⟨s,z1,z2⟩=> ⟨s,z1,k _ _ _ z2⟩) q
def aIxKD (tab:List (Str×Int)) (tk:C3):AT:=fun env h Q=> tk env h fun w env1 h1=> ∃s i,w= .str s∧j5 tab s=some i∧Q (.val (.int i)) env1 h1
theorem aIxKD.mono {tab:List (Str×Int)} {tk:C3} (m:A9 tk):A9 (aIxKD tab tk):=fun env h Q Q' k q=> m env h _ _ (fun w e g ⟨s,i,z1,z0,z2⟩=> ⟨s,i,z1,z0,k _ _ _ z2⟩) q
section
variable {X:Cx} {G:Gx} {k:Expr} {pos dpos:Pos} {x:Str} {tab:List (Str×Int)} {tk:C3}
end
end Ab
namespace Ab
open PySem PySem.Spec PyProof.Rows L2 RZ
def C3L:L4:=fun as Q=> match as with
  | [.wv (.bl b)]=> Q (.val (.int (if b then 1 else 0)))
  | _=> False
end Ab
namespace Ab
open PySem PySem.Spec PyProof.Rows L2 RZ
section
variable {X:Cx} {G:Gx} {e:Expr} {t:AT} {i:Nat}
end
section
variable {X:Cx} {G:Gx} {sp:B8} {C m:Str} {st:Stmt} {k j n0:Nat} {ps ks:List Str} {kws0:List (Str×V)} {mz:List V} {ds:List W} {o e:Expr} {es:List Expr} {kws:List Keyword} {pos apos p:Pos} {to:AT} {t tk:E5} {E:AExc→A0→AH→Prop} {perm:List Nat}
end
end Ab
namespace Ab
open PySem PySem.Spec PyProof.Rows L2 RZ
open Builtin in
section
variable {X:Cx} {k:Nat} {C f:Addr} {fd:FuncData} {ps:List Str} {sp:Sp}
end
def aCmG (C:Str) (neg:Bool) (sp:B8) (ta:AT) (tb:C3):AT:=fun env h Q=> ta env h fun r env1 h1=> tb env1 h1 fun w env2 h2=> ∃a fs,r= .val (.ref a)∧h2 a=some (.ins C fs)∧B5D w∧
  sp [.ref a,w] h2 (fun x h3=> ∃k:Bool,x= .val (.bl k)∧Q (.val (.bl (if neg=true then !k else k))) env2 h3) fun _ _=> False
theorem aCmG.mono {C:Str} {neg:Bool} {sp:B8} {ta:AT} {tb:C3} (sm:L6 sp) (m:A9 ta) (n:A9 tb):A9 (aCmG C neg sp ta tb):=fun env h Q Q' k q=>
  m env h _ _ (fun r e g z=> n e g _ _ (fun r2 e2 g2 ⟨a,fs,z1,z2,z3,z⟩=> ⟨a,fs,z1,z2,z3,sm _ _ _ _ _ _ (fun x f ⟨b,y1,y2⟩=> ⟨b,y1,k _ _ _ y2⟩) (fun _ _ z=> z) z⟩) z) q
section
variable {X:Cx} {G:Gx} {sp:B8} {C:Str} {st:Stmt} {k j:Nat} {ps:List Str} {o o2:Expr} {p pos:Pos} {to:AT} {t2:C3}
variable (gk:G.K=X.K) (O:OkM X.prog X.w X.K X.mg X.base C "__eq__" st k 2 ps [] sp) (bd:U7 C "__eq__" st ps) (hr:Room j X.A) (kj:k+1≤j) (ho:AE X G o to) (h2:AV X G o2 t2)
include gk O bd hr kj ho h2
end
end Ab
namespace PpSet
open PySem PySem.Spec PyProof.Rows L2
section
variable {X:Cx}
end
end PpSet
namespace Ab
open PySem PySem.Spec PyProof.Rows L2 RZ PpSet
section
variable {G:Gx} {env e2:A0} {h h2:AH} {σ σ2:L2.St} {H H2:Hp} {vs sl:List Nat}
end
abbrev cd (k:List Int):Int:=TS.code 64 k
def B5g (k:List Int):List (List Int)→List (List Int)
  | []=> [k]
  | b::r=> if k=b then b::r else if cd k≤cd b then k::b::r else b::B5g k r
def B0Q:List (List Int)→List (List Int)
  | []=> []
  | a::r=> B5g a (B0Q r)
def C2y (d:Nat) (l:List (List Int)):Prop:=∀k∈l,k.length=d∧TS.Bd 64 k
def Few (l:List (List Int)):Prop:=∃U:List (List Int),U.length≤62∧∀x∈l,x∈U
def scLoop (vs:List Nat) (g:G5) (tt:G7) (te:C3) (Q:List (List Int)→A0→AH→Prop):List W→List (List Int)→A0→AH→Prop
  | [],acc=> fun env h=> Q acc env h
  | w::ws,acc=> fun env h=> g w (P8 env vs) h fun e1 h1=> tt e1 h1 fun b e2 h2=> if b=true then te e2 h2 fun y e3 h3=> ∃k:List Int,y= .tup (k.map .int)∧Few acc∧scLoop vs g tt te Q ws (acc++[k]) (mend env e3 vs) h3 else scLoop vs g tt te Q ws acc (mend env e2 vs) h2
theorem scLoop.mono {vs:List Nat} {g:G5} {tt:G7} {te:C3} (mg:g7 g) (mt:A9 tt) (me:A9 te) {Q Q':List (List Int)→A0→AH→Prop} (k:∀a e h,Q a e h→Q' a e h):∀(ws:List W) (acc:List (List Int)) env h,scLoop vs g tt te Q ws acc env h→scLoop vs g tt te Q' ws acc env h
  | [],acc,env,h,q=> k _ _ _ q
  | w::ws,acc,env,h,q=> mg _ _ _ _ _ (fun e1 h1 z=> mt _ _ _ _ (fun b e2 h2 z=> by
    cases b with
    | true=> rw [if_pos rfl] at z ⊢;exact me _ _ _ _ (fun y e3 h3 ⟨n,z1,z2,z3⟩=> ⟨n,z1,z2,scLoop.mono mg mt me k ws _ _ _ z3⟩) z
    | false=> rw [if_neg Bool.false_ne_true] at z ⊢;exact scLoop.mono mg mt me k ws _ _ _ z) z) q
theorem TqT.tup_ints {K:PySem.W.Frag} {H:Hp} {k:List Int} {v:V} (r:Rep K H (.tup (k.map .int)) v):∃a,v= .ref a∧TqT K H a (k.map V.int):=by
  obtain ⟨a,vs,e,s,r⟩:=r.of_tupT
  have z:=r.of_ints
  subst z
  exact ⟨a,e,s⟩
section
variable {X:Cx} {G:Gx} {elt tg iter:Expr} {ifs:List Expr} {scope:Scope} {own:List (Str×Nat)} {pos:Pos} {ti:U2} {g:G5} {tt:G7} {te:C3} {sl:List Nat}
structure ScI (G:Gx) (P:Program) (w:World) (H1:Hp) (D:Addr) (env:A0) (h:AH) (σ:L2.St) (H:Hp) (acc:List (List Int)) (L:List (Addr×List Int)) (e:A0) (k:AH) (H':Hp):Prop where
  kp:Keeps H1 H'
  at_:H' D=some (SetTO P w D L)
  tq:∀p∈L,TqT G.K H' p.1 (p.2.map V.int)
  nd:(L.map (·.2)).Nodup
  sub:∀p∈L,p.2∈acc
  all:∀x∈acc,x∈L.map (·.2)
  bs:BS G e k σ H'
  xt:Xt env h σ H e k H'
  nD:k D=none
  no:¬OwnAt e σ D
variable {x:Str} {p q:Pos}
end
end Ab
namespace Ab
open PySem PySem.Spec PyProof.Rows L2 RZ
section
variable {K:PySem.W.Frag} {H:Hp}
end
end Ab
namespace Ab
open PySem PySem.Spec PyProof.Rows L2 LamX
def Stays (H H2:Hp):Prop:=∀p o,H p=some o→¬Mu o→NT o→H2 p=some o
theorem Stays.refl (H:Hp):Stays H H:=fun _ _ e _ _=> e
theorem Stays.trans {H H1 H2:Hp} (a:Stays H H1) (b:Stays H1 H2):Stays H H2:=fun p o e m n=> b p o (a p o e m n) m n
theorem Stays.keeps {H H1:Hp} (a:Stays H H1):Keeps H H1:=fun p o e i=> a p o e (fun m=> m.imm i) i.nt
theorem Xt.stays {G:Gx} {env env':A0} {h h':AH} {σ:L2.St} {H H':Hp} (x:Xt env h σ H env' h' H') (S:BS G env h σ H):Stays H H':=fun p o e m n=>
  let ⟨a,b⟩:=S.nmu e m
  x.fr p o e a b n
structure FnB (P:Program) (w:World) (K:PySem.W.Frag) (mg:Str→Option Value) (base:Heap) (k:Nat) (H:Hp) (f:Addr) (sp:B8):Prop where
  m:L6 sp
  fn:∀(s:Shared) (H2:Hp),Stays H H2→HOk P w H2 s.heap→PySem.W.FnAt f s.heap
  run:∀(A:Around) (outer:List Env) (s:Shared) (H2:Hp) (Q:VK) (E:XK),Stays H H2→Room k A→Env0 P w K mg base A outer s H2→R9 K 0 sp [] H2 Q E→
    codeAny (model P w) A (.call (.ref f) ⟨[],[]⟩) (CR (L2.CX P w) outer P w H2 s Q E) s
theorem FnB.stays {P:Program} {w:World} {K:PySem.W.Frag} {mg:Str→Option Value} {base:Heap} {k:Nat} {H H1:Hp} {f:Addr} {sp:B8} (F:FnB P w K mg base k H f sp) (a:Stays H H1):FnB P w K mg base k H1 f sp:=
  ⟨F.m,fun s H2 b=> F.fn s H2 (a.trans b),fun A outer s H2 Q E b=> F.run A outer s H2 Q E (a.trans b)⟩
theorem FnB.up {P:Program} {w:World} {K:PySem.W.Frag} {mg:Str→Option Value} {base:Heap} {k k':Nat} {H:Hp} {f:Addr} {sp:B8} (F:FnB P w K mg base k H f sp) (a:k≤k'):FnB P w K mg base k' H f sp:=
  ⟨F.m,F.fn,fun A outer s H2 Q E b hr=> F.run A outer s H2 Q E b (hr.mono a)⟩
def K5 (X:Cx) (b:Addr):Prop:=∃y,X.env.cells.lookup y=some b
def A2h (s:Shared) (b:Addr):HO:= .ext fun h=> ∀v,s.heap.IsCell b v→h.IsCell b v
theorem C1F {s:Shared} {b:Addr}:NT (A2h s b):=fun ps e=> by unfold A2h at e;cases e
theorem C0b {s:Shared} {b:Addr}:¬Mu (A2h s b):=fun z=> z
open Classical in
noncomputable def u9 (X:Cx) (s:Shared) (H:Hp):Hp:=fun b=> if K5 X b then some (A2h s b) else H b
open Classical in
noncomputable def P9 (X:Cx) (H:Hp):Hp:=fun b=> if K5 X b then none else H b
open Classical in
noncomputable def V2 (X:Cx) (H2 H':Hp):Hp:=fun b=> if K5 X b then H2 b else H' b
section
variable {X:Cx} {pins:List (Addr×Obj)} {σ:L2.St} {H H2 H':Hp} {s s':Shared} {b:Addr}
theorem B2h (c:K5 X b):u9 X s H b=some (A2h s b):=by unfold u9;rw [if_pos c]
theorem A8i (c:¬K5 X b):u9 X s H b=H b:=by unfold u9;rw [if_neg c]
theorem A0o (c:K5 X b):P9 X H b=none:=by unfold P9;rw [if_pos c]
theorem t7 (c:¬K5 X b):P9 X H b=H b:=by unfold P9;rw [if_neg c]
theorem A6Q (c:K5 X b):V2 X H2 H' b=H2 b:=by unfold V2;rw [if_pos c]
theorem A1T (c:¬K5 X b):V2 X H2 H' b=H' b:=by unfold V2;rw [if_neg c]
theorem noC (I:Inv X pins σ H s) {o:HO} (e:H b=some o):¬K5 X b:=fun ⟨y,hy⟩=> by rw [I.freeC y b hy] at e;cases e
theorem A0P (I:Inv X pins σ H s) {o:HO} (e:H b=some o):u9 X s H b=some o:=by rw [A8i (noC I e)];exact e
theorem B8y (I:Inv X pins σ H s):HOk X.prog X.w (u9 X s H) s.heap:=fun b u e=> by
  by_cases c:K5 X b
  · rw [B2h c] at e
    cases e
    obtain ⟨y,hy⟩:=c
    obtain ⟨v,o,ho,hd⟩:=I.cell y b hy
    exact ⟨fun v hv=> hv,⟨o,ho⟩,fun h1 h2 q st v hv=> by
      obtain ⟨o',ho',hd'⟩:=q v hv
      exact ⟨o',st _ ho',hd'⟩⟩
  · rw [A8i c] at e
    exact (I.hok b u e).stay (fun _ _ _ q=> q) (fun d q=> A0P I q) fun d xs q=> A0P I q
theorem B9G (I:Inv X pins σ H s) (hf:∀x,X.fn x=true) (hex:X.ex=[]):Un X.fs [] X.H_0 (u9 X s H) X.s_0.heap s.heap:=by
  have U:Un X.fs [] X.H_0 H X.s_0.heap s.heap:=hex▸I.base
  refine ⟨U.keep,U.slot,fun b o e n x=> ?_,U.there,fun b xs e=> A0P I (U.tups b xs e),fun b o u e=> A0P I (U.frzs b o u e),fun b ps e=> ?_⟩
  · rw [A8i]
    · exact U.free b o e n x
    · rintro ⟨y,hy⟩
      exact absurd (Nat.lt_of_lt_of_le (Heap.lt_size e) (I.ok.cab y b (hf y) hy)) (Nat.lt_irrefl _)
  · obtain ⟨m,q⟩:=U.tbls b ps e
    exact ⟨m,A0P I q⟩
end
section
variable {X:Cx} {G:Gx} {env:A0} {h:AH} {σ:L2.St} {H:Hp} {s:Shared} {pins:List (Addr×Obj)} {d:LamD} {f:Addr} {k:Nat} {t:(AExc→A0→AH→Prop)→AT}
theorem B8A {A:Around} {outer:List Env} {E:XK} {scope:Scope} {f c:Addr} {g:Heap} {tk:Nat} {s1:Shared} {HZ:Hp} (I:Inv X pins σ H s) (L:LamP X.env.scope scope X.N []) (e0:Env0 X.prog X.w X.K X.mg X.base A outer s1 HZ) (hd:A.handled=none)
    (cel:∀b v,K5 X b→s.heap.IsCell b v→s1.heap.IsCell b v) (cn:∀b,K5 X b→HZ b=none) (hns:g.Ns s1.heap.objs.size fun y=> ([]:List (Str×Value)).reverse.lookup y) (kp:∀b o,s1.heap.get? b=some o→g.get? b=some o):
    Inv (Z0 X A outer s1 HZ E scope f c []) [] (σ++([]:List V).map some) HZ { s1 with heap:=g,toks:=tk }:=by
  have cellK:∀{b:Addr} {v:Option Value},K5 X b→s.heap.IsCell b v→g.IsCell b v:=fun {b v} n q=> by
    obtain ⟨o,ho,hd⟩:=cel b v n q
    exact ⟨_,kp _ _ ho,hd⟩
  have noA:∀b:Addr,b∉(Z0 X A outer s1 HZ E scope f c []).ex:=fun b z=> by
    have z:b∈([]:List Addr):=z
    cases z
  have okX:(Z0 X A outer s1 HZ E scope f c []).Ok:=
    { mod:=e0.mod,kind:=L.kind,glob:=rfl,blt:=rfl,above:=Nat.le_refl _
      inj:=fun y z b e1 e2=> I.ok.inj y z b (l7 L I.ok e1) (l7 L I.ok e2)
      has:=fun y hy=> by
        have hy:scope.names.lookup y=some .cell∨scope.names.lookup y=some .free:=hy
        rcases hy with hy | hy
        · exact absurd rfl (L.own _ (PySem.mem_of_lookup hy)).1
        · exact A6I hy
      cab:=fun y b z _=> by
        have z:false=true:=z
        cases z
      hd:=fun _=> hd,frames:=Around.frames_deeper e0.frames,stk:= .inr ⟨rfl,rfl⟩,exf:=fun b z=> absurd z (noA b),bs:=e0.bs,bsz:=e0.bsz,noex:=fun b _ _=> noA b,exfs:=fun b z=> absurd z (noA b),funs:=e0.funs,frf:=e0.frf }
  refine { ok:=okX,os:=rfl,bare:=e0.bare,base:=Un.kept kp,loc:=⟨_,hns,fun i y v e1 e2 e3=> ?_⟩,cell:=fun y b e=> ?_,free:=e0.hok.fresh (Nat.le_refl _),freeC:=fun y b e=> ?_,pin:=fun q hq=> ?_,hok:=e0.hok.kept kp,len:= ?_ }
  · have e1:(X.N++[])[i]? =some y:=e1
    have e3:Vis scope y:=e3
    have own:scope.names.lookup y=some .local→y∈[]:=fun k=> (L.own _ (PySem.mem_of_lookup k)).2 rfl
    rw [List.append_nil] at e1
    have hi:i < X.N.length:=(List.getElem?_eq_some_iff.mp e1).1
    rw [List.map_nil,List.append_nil] at e2
    rcases e3 with k | k | k
    · exact absurd (own k) (List.not_mem_nil)
    · exact absurd rfl (L.own _ (PySem.mem_of_lookup k)).1
    · obtain ⟨m,hn,lk⟩:=I.loc
      have vis:Vis X.env.scope y:=(L.free _ (PySem.mem_of_lookup k) rfl).elim (fun k=> .inr (.inl k)) fun k=> .inr (.inr k)
      obtain ⟨w,r,q⟩:=lk i y v e1 e2 vis
      obtain ⟨c2,h2⟩:=A6I (X:=X) k
      have c1:=l7 L I.ok h2
      refine ⟨w,r,.inr ⟨.inr k,c2,h2,?_⟩⟩
      rcases q with ⟨k',_⟩ | ⟨_,c3,e',z⟩
      · have k':X.env.scope.names.lookup y=some .local:=k'
        rcases L.free _ (PySem.mem_of_lookup k) rfl with k2 | k2
        · rw [show X.env.scope.names.lookup y=_ from k2] at k';cases k'
        · rw [show X.env.scope.names.lookup y=_ from k2] at k';cases k'
      · rw [c1] at e'
        cases e'
        exact cellK ⟨y,c1⟩ z
  · have c1:=l7 L I.ok e
    obtain ⟨w,z⟩:=I.cell y b c1
    exact ⟨w,cellK ⟨y,c1⟩ z⟩
  · exact cn b ⟨y,l7 L I.ok e⟩
  · have hq:q∈([]:List (Addr×Obj))++[]:=hq
    cases hq
  · show (σ++([]:List V).map some).length=(X.N++[]).length
    rw [List.map_nil,List.append_nil,List.append_nil,I.len]
theorem B3a {P:Program} {w:World} {outer:List Env} {H2:Hp} {s2:Shared} {E:XK} {u:Value} {s':Shared} (fc:∀b,K5 X b→b∉frs outer) (hok:HOk P w H2 s2.heap) (cel:∀b,K5 X b→∃s0,H2 b=some (A2h s0 b))
    (c:L2.CX P w outer (P9 X H2) s2 (fun cls d H'=> (∀b,K5 X b→H' b=none)→E cls d (V2 X H2 H')) u s'):L2.CX P w outer H2 s2 E u s':=by
  obtain ⟨a,B,H',cls,d,rfl,fl,ok,ub,na,os,ag,hE⟩:=c
  have hn:∀b,K5 X b→H' b=none:=fun b c=> by
    obtain ⟨s0,e⟩:=cel b c
    obtain ⟨_,⟨o,ho⟩,_⟩:=hok b _ e
    exact ub.free b o ho (A0o c)
  have le:∀b o,H' b=some o→V2 X H2 H' b=some o:=fun b o e=> by
    rw [A1T]
    · exact e
    · intro c
      rw [hn b c] at e;cases e
  have ex:∀{b:Addr} {o:HO},H2 b=some o→¬(∃φ,o= .ext φ)→¬K5 X b:=fun {b o} e nx c=> by
    obtain ⟨s0,e'⟩:=cel b c
    rw [e] at e'
    cases e'
    exact nx ⟨_,rfl⟩
  have lt:∀{b:Addr} {o:HO},H2 b=some o→¬(∃φ,o= .ext φ)→P9 X H2 b=some o:=fun {b o} e nx=> by rw [t7 (ex e nx)];exact e
  refine ⟨a,B,V2 X H2 H',cls,d,rfl,fl,fun b o e=> ?_,⟨fun b o e n x=> ub.keep b o e ?_ x,ub.slot,fun b o e n=> ?_,ub.there,fun b xs e=> le _ _ (ub.tups b xs (lt e fun ⟨φ,z⟩=> by cases z)),fun b o xs e=> le _ _ (ub.frzs b o xs (lt e fun ⟨φ,z⟩=> by cases z)),fun b ps e=> ?_⟩,?_,os,ag,hE hn⟩
  · by_cases c:K5 X b
    · rw [A6Q c] at e
      obtain ⟨s0,e'⟩:=cel b c
      rw [e] at e'
      cases e'
      obtain ⟨p,⟨o,ho⟩,st⟩:=hok b _ e
      have kb:∀o,s2.heap.get? b=some o→B.get? b=some o:=fun o q=> ub.keep b o q (A0o c) (fc b c)
      exact ⟨st _ _ p kb,⟨o,kb o ho⟩,st⟩
    · rw [A1T c] at e
      exact (ok b o e).stay (fun _ _ _ q=> q) (fun c q=> le _ _ q) fun c xs q=> le _ _ q
  · by_cases c:K5 X b
    · exact A0o c
    · rw [t7 c];exact n
  · have c:¬K5 X b:=fun c=> by
      obtain ⟨s0,e'⟩:=cel b c
      rw [n] at e';cases e'
    rw [A1T c]
    exact ub.free b o e (by rw [t7 c];exact n)
  · obtain ⟨m,q⟩:=ub.tbls b ps (lt e fun ⟨φ,z⟩=> by cases z)
    exact ⟨m,le _ _ q⟩
  · have c:¬K5 X a:=fun c=> by
      obtain ⟨s0,e'⟩:=cel a c
      obtain ⟨p,⟨o,ho⟩,st⟩:=hok a _ e'
      have q:=ub.keep a o ho (A0o c) (fc a c)
      rw [fl.2.1] at q
      cases q
    rw [A1T c]
    exact na
theorem C1V (gk:G.K=X.K) (I:Inv X pins σ H s) (S:BS G env h σ H) (lf:LamF X d H f) (L:LamP X.env.scope d.scope X.N [])
    (hbind:∀(q:Str) (cl:List (Str×Addr)) (pm cv ctv:Value),bindArgs (PySem.W.kla_fn "<lambda>" q d.params d.body d.scope cl pm cv ctv) ⟨[],[]⟩=pure [])
    (hr0:Room (k+1) X.A)
    (hbody:∀(A:Around) (outer:List Env) (s:Shared) (H:Hp) (E:XK) (f c:Addr) (G:Gx) (E':AExc→A0→AH→Prop),Room k (A.deeper (lamEnv X d.scope s.heap.objs.size f c))→G.K=X.K→Takes (Z0 X A outer s H E d.scope f c []) (cW G E')→AE (Z0 X A outer s H E d.scope f c []) G d.body (t E')):
    FnB X.prog X.w X.K X.mg X.base (k+1) (u9 X s H) f (u7 t env):=by
  obtain ⟨c,hf,hc⟩:=lf
  have mt:∀E',A9 (t E'):=fun E'=> (hbody X.A [] s H (fun _ _ _=> True) f c ⟨X.K,h,H⟩ E' (hr0.deeper _) rfl (Takes.imp (W:=fun _ _ _ _=> True) (takes_of rfl rfl rfl rfl) fun _ _ _ _ _=> trivial)).mono
  refine ⟨fun ws h' Q Q' E E' k k' ⟨Ein,ke,q⟩=> ⟨Ein,fun x e g z=> (by obtain ⟨g',le,z⟩:=ke x e g z;exact ⟨g',le,k' _ _ z⟩),?_⟩,fun s2 H2 st hok=> ?_,fun A outer s2 H2 Q E st hr e0 sp=> ?_⟩
  · refine mt _ _ _ _ _ (fun r e g z=> ?_) q
    obtain ⟨h2,le,z⟩:=z
    refine ⟨h2,le,?_⟩
    cases r with
    | val w=> exact k _ _ z
    | own c=> exact k _ _ z
    | slot i=>
      have z:match e[i]? with
        | some (some (.val w))=> Q (.val w) h2
        | some (some (.own c))=> Q (.own c) h2
        | _=> False:=z
      show match e[i]? with
        | some (some (.val w))=> Q' (.val w) h2
        | some (some (.own c))=> Q' (.own c) h2
        | _=> False
      split at z
      · exact k _ _ z
      · exact k _ _ z
      · exact z
  · have hf2:=st _ _ (A0P I hf) A56 A25
    obtain ⟨⟨pm,ctv,e⟩,_,_⟩:=hok f _ hf2
    exact ⟨_,_,_,_,e⟩
  · have hf2:=st _ _ (A0P I hf) A56 A25
    have hc2:=st _ _ (A0P I hc) A8L A2z
    have cK:∀b,K5 X b→H2 b=some (A2h s b):=fun b c=> st _ _ (B2h c) C0b C1F
    have cel:∀b v,K5 X b→s.heap.IsCell b v→s2.heap.IsCell b v:=fun b v c q=> (e0.hok b _ (cK b c)).1 v q
    obtain ⟨⟨pm,ctv,of⟩,_,_⟩:=e0.hok f _ hf2
    obtain ⟨⟨oc,fs,tk,hoc,hdc,hvc⟩,_,_⟩:=e0.hok c _ hc2
    obtain ⟨ws,h2,Qa,Ea,wl,hp,tb,rl,⟨Ein,kx,q⟩,kq,ke⟩:=sp
    have ex:∀{b:Addr} {o:HO},H2 b=some o→¬(∃φ,o= .ext φ)→¬K5 X b:=fun {b o} e nx c=> by
      rw [cK b c] at e
      cases e
      exact nx ⟨_,rfl⟩
    have lt:∀{b:Addr} {o:HO},H2 b=some o→¬(∃φ,o= .ext φ)→P9 X H2 b=some o:=fun {b o} e nx=> by rw [t7 (ex e nx)];exact e
    have frC:∀b,K5 X b→b∉frs outer:=fun b c z=> by
      have y:=e0.frf b z
      rw [cK b c] at y;cases y
    have nn:∀{b:Addr},H2 b=none→P9 X H2 b=none:=fun {b} n=> by
      by_cases c:K5 X b
      · exact A0o c
      · rw [t7 c];exact n
    have e3:Env0 X.prog X.w X.K X.mg X.base A outer s2 (P9 X H2):=by
      refine ⟨e0.frames,e0.mod,fun b o e=> ⟨(e0.bs b o e).1,nn (e0.bs b o e).2⟩,e0.bsz,e0.funs,fun b z=> nn (e0.frf b z),fun b o e=> ?_,e0.bare⟩
      have c:¬K5 X b:=fun c=> by rw [A0o c] at e;cases e
      rw [t7 c] at e
      exact (e0.hok b o e).stay (fun _ _ _ q=> q) (fun d q=> lt q fun ⟨φ,z⟩=> by cases z) fun d xs q=> lt q fun ⟨φ,z⟩=> by cases z
    have k23:Keeps H2 (P9 X H2):=fun p o e i=> lt e fun ⟨φ,z⟩=> by rw [z] at i;exact i
    have hp3:∀a o,h2 a=some o→ORep X.K (P9 X H2) a o:=fun a o e=> by
      obtain ⟨u,eu,mu⟩:=(hp a o e).there
      exact (hp a o e).mono k23 ((lt eu fun ⟨φ,z⟩=> by rw [z] at mu;exact mu).trans eu.symm)
    have tb3:TabsK X.K (P9 X H2):=fun p hp=> by
      obtain ⟨ps,h1,h2,h3⟩:=tb p hp
      refine ⟨ps,lt h1 (fun ⟨φ,z⟩=> by cases z),h2,fun pos cv hc=> ?_⟩
      obtain ⟨c1,e1,e2⟩:=h3 pos cv hc
      refine ⟨c1,e1,?_⟩
      rw [t7]
      · exact e2
      · intro cc
        obtain ⟨⟨oc,vs,t,y1,y2,y3⟩,_,_⟩:=e0.hok c1 _ e2
        obtain ⟨y,hy⟩:=cc
        obtain ⟨v,hv⟩:=I.cell y c1 hy
        obtain ⟨o2,z1,z2⟩:=cel c1 v ⟨y,hy⟩ hv
        rw [y1] at z1
        cases z1
        rw [y2] at z2
        cases z2
    have rl3:RepL X.K (P9 X H2) ws []:=RepL.mono k23 _ _ rl
    refine PySem.W.kla_callFunE hr.depth of rfl L.co L.gen rfl ⟨c,oc,fs,tk,rfl,hoc,hdc,hvc⟩ ?_
    rw [hbind]
    refine wpAny_pure (wpAny_newFunctionEnv (fun y hy=> (L.own y hy).1) (fun y hy=> (List.not_mem_nil hy).elim) (fun h₁ hns hsb=> ⟨?_,?_⟩) L.kind)
    · have nl:s2.heap.NoLimit:=e0.mod.nolimit.keeps fun b o e=> (e0.bs b o e).1
      exact nl.fresh _ hsb
    · show codeAny _ _ (.expr d.body (lamEnv X d.scope s2.heap.objs.size f c)) _ _
      have kp:∀b o,s2.heap.get? b=some o→h₁.get? b=some o:=fun b o e=> hsb.extBut b o (Nat.ne_of_lt (Heap.lt_size e)) (Heap.get?_push_of_some _ e)
      have J:=B8A (E:=fun cls d H'=> (∀b,K5 X b→H' b=none)→E cls d (V2 X H2 H')) (f:=f) (c:=c) (tk:=s2.toks+([]:List (Str×Value)).length) I L e3 hr.hd cel (fun b c=> A0o c) hns kp
      have kk:Keeps H (P9 X H2):=fun p o e i=> lt (st p o (A0P I e) (fun m=> m.imm i) i.nt) fun ⟨φ,z⟩=> by rw [z] at i;exact i
      have S2:BS ⟨X.K,h2,P9 X H2⟩ (A1X env ws) h2 (σ++([]:List V).map some) (P9 X H2):=BS.lam gk S kk hp3 tb3 rl3
      have fin:∀{h4:AH} {H4:Hp},(∀b,K5 X b→H4 b=none)→HS ⟨X.K,h2,P9 X H2⟩ h4 H4→HS ⟨X.K,h2,H2⟩ h4 (V2 X H2 H4)∧∀b o,H4 b=some o→V2 X H2 H4 b=some o:=fun {h4 H4} hn hs=> by
        have le:∀b o,H4 b=some o→V2 X H2 H4 b=some o:=fun b o e=> by
          rw [A1T]
          · exact e
          · intro c
            rw [hn b c] at e;cases e
        refine ⟨⟨fun a o e=> ?_,fun p o e n y=> ?_,fun a o e n=> ?_,fun p o e=> ?_,hs.tabs.keep fun a o e _=> le a o e⟩,le⟩
        · obtain ⟨u,eu,mu⟩:=(hs.hp a o e).there
          exact (hs.hp a o e).mono (fun b u q _=> le b u q) ((le a u eu).trans eu.symm)
        · have e:H2 p=some o:=e
          by_cases c:K5 X p
          · rw [A6Q c];exact e
          · exact le p o (hs.fr p o (by show P9 X H2 p=_;rw [t7 c];exact e) n y)
        · have y:P9 X H2 a=none:=hs.ext a o e n
          have c:¬K5 X a:=fun c=> by
            obtain ⟨u,eu,mu⟩:=(hs.hp a o e).there
            rw [hn a c] at eu;cases eu
          rw [t7 c] at y
          exact y
        · have e:H2 p=some o:=e
          by_cases c:K5 X p
          · exact ⟨o,by rw [A6Q c];exact e⟩
          · obtain ⟨u,y⟩:=hs.tr p o (by show P9 X H2 p=_;rw [t7 c];exact e)
            exact ⟨u,le p u y⟩
      have tkl:Takes (Z0 X A outer s2 (P9 X H2) (fun cls d H'=> (∀b,K5 X b→H' b=none)→E cls d (V2 X H2 H')) d.scope f c []) (cW ⟨X.K,h2,P9 X H2⟩ Ein):=
        Takes.imp (W:=fun cls d _ H'=> (∀b,K5 X b→H' b=none)→E cls d (V2 X H2 H')) (takes_of rfl rfl rfl rfl) fun cls d σ' H' ⟨x,e',g',SB,xr,z⟩ hn=> (by
          obtain ⟨g2,le,z⟩:=kx x e' g' z
          obtain ⟨a,b⟩:=fin hn (SB.hs.le le)
          obtain ⟨r1,dd,vs,r2,r3,r4⟩:=xr
          exact ke x g2 cls d _ z a ⟨r1,dd,vs,r2,b _ _ r3,r4.1,RepL.mono (fun b' u q _=> b b' u q) _ _ r4.2⟩)
      have rn:=(hbody _ _ s2 (P9 X H2) (fun cls d H'=> (∀b,K5 X b→H' b=none)→E cls d (V2 X H2 H')) f c ⟨X.K,h2,P9 X H2⟩ Ein ((hr.deeper _)) rfl tkl).pe.run [] _ _ (P9 X H2) (fun v H'=> (∀b,K5 X b→H' b=none)→Q v (V2 X H2 H')) J ⟨_,h2,S2,mt _ _ _ _ _ (fun r env3 h3 z v H3 S3 x3 r3 f3=> ?_) q⟩
      · refine PySem.W.kla_codeExpr (wpAny_mono rn (fun v s' hq=> ?_) fun e s' hq=> ?_)
        · obtain ⟨w',H',J',rv',q'⟩:=hq
          have U:Un (frs outer) [] (P9 X H2) H' s2.heap s'.heap:=J'.base
          have hn:∀b,K5 X b→H' b=none:=fun b c=> by
            obtain ⟨_,⟨o,ho⟩,_⟩:=e0.hok b _ (cK b c)
            exact U.free b o ho (A0o c) (List.not_mem_nil)
          have le:∀b o,H' b=some o→V2 X H2 H' b=some o:=fun b o e=> by
            rw [A1T]
            · exact e
            · intro c
              rw [hn b c] at e;cases e
          refine ⟨w',V2 X H2 H',J'.os,J'.bare,⟨fun b o e n x y=> U.keep b o e (nn n) x y,fun b o e n x y=> U.slot b o e (nn n) x y,fun b o e n y=> ?_,U.there,fun b xs e=> le _ _ (U.tups b xs (lt e fun ⟨φ,z⟩=> by cases z)),fun b o u e=> le _ _ (U.frzs b o u (lt e fun ⟨φ,z⟩=> by cases z)),fun b ps e=> ?_⟩,fun b o e=> ?_,rv',q' hn⟩
          · have cc:¬K5 X b:=fun cc=> by rw [cK b cc] at n;cases n
            rw [A1T cc]
            exact U.free b o e (nn n) y
          · obtain ⟨m,z⟩:=U.tbls b ps (lt e fun ⟨φ,z⟩=> by cases z)
            exact ⟨m,le _ _ z⟩
          · by_cases cc:K5 X b
            · rw [A6Q cc,cK b cc] at e
              cases e
              obtain ⟨p,⟨o,ho⟩,st'⟩:=e0.hok b _ (cK b cc)
              have kb:∀o,s2.heap.get? b=some o→s'.heap.get? b=some o:=fun o q=> U.keep b o q (A0o cc) (frC b cc) (List.not_mem_nil)
              exact ⟨st' _ _ p kb,⟨o,kb o ho⟩,st'⟩
            · rw [A1T cc] at e
              exact (J'.hok b o e).stay (fun _ _ _ q=> q) (fun d q=> le _ _ q) fun d xs q=> le _ _ q
        · exact wpAny_mono hq (fun _ s'' z=> B3a frC e0.hok (fun b c=> ⟨s,cK b c⟩) z) fun e' s'' z=> B3a frC e0.hok (fun b c=> ⟨s,cK b c⟩) z
      · intro hn
        obtain ⟨h4,le,z⟩:=z
        obtain ⟨hs,lb⟩:=fin hn (S3.hs.le le)
        have kb:Keeps H3 (V2 X H2 H3):=fun b u q _=> lb b u q
        have own_end:∀{p:Addr} {c:Cont},v= .ref p→CRep X.K H3 p c→h3 p=none→P9 X H2 p=none→A0U ⟨X.K,h2,H2⟩ h4 (V2 X H2 H3) (.own c) v:=fun {p c} e1 e2 e3 e4=> by
          have e5:h4 p=none:=by
            cases z:h4 p with
            | none=> rfl
            | some u=> rw [le p u z] at e3;cases e3
          obtain ⟨u,eu,mu⟩:=e2.there
          have cc:¬K5 X p:=fun cc=> by rw [hn p cc] at eu;cases eu
          rw [t7 cc] at e4
          exact ⟨p,e1,e2.mono kb ((lb p u eu).trans eu.symm),e5,e4⟩
        cases r with
        | val w=> exact kq (.val w) h4 v _ z hs (Rep.mono kb _ _ r3)
        | own c=>
          obtain ⟨p,e1,cr,a,b,_⟩:=r3
          exact kq (.own c) h4 v _ z hs (own_end e1 cr a b)
        | slot i=>
          have es:(σ++([]:List V).map some)[i]? =some (some v):=r3
          have z:match env3[i]? with
            | some (some (.val w))=> Qa (.val w) h4
            | some (some (.own c))=> Qa (.own c) h4
            | _=> False:=z
          split at z
          · rename_i w ei
            obtain ⟨u,e3,rv⟩:=S3.val i w ei
            rw [es] at e3;cases e3
            exact kq (.val w) h4 v _ z hs (Rep.mono kb _ _ rv)
          · rename_i c ei
            obtain ⟨p,e3,cr,a,b⟩:=S3.own i c ei
            rw [es] at e3;cases e3
            exact kq (.own c) h4 _ _ z hs (own_end rfl cr a b)
          · exact z.elim
end
end Ab
namespace Ab
open PySem PySem.Spec PyProof.Rows L2 LamX
open Classical in
noncomputable def Gx.up (G:Gx) (H:Hp):Gx:=⟨G.K,fun p=> if ∃o,H p=some o∧¬Mu o then none else G.h0 p,fun p=> if ∃o,H p=some o∧¬Mu o then H p else G.H0 p⟩
section
variable {G:Gx} {env env':A0} {h h':AH} {σ σ':L2.St} {H H':Hp} {p:Addr}
theorem A01 {o:HO} (e:H p=some o) (m:¬Mu o):(G.up H).H0 p=some o∧(G.up H).h0 p=none:=by
  have c:∃o,H p=some o∧¬Mu o:=⟨o,e,m⟩
  refine ⟨?_,?_⟩
  · unfold Gx.up;dsimp only;rw [if_pos c];exact e
  · unfold Gx.up;dsimp only;rw [if_pos c]
theorem A1g (c:¬∃o,H p=some o∧¬Mu o):(G.up H).H0 p=G.H0 p∧(G.up H).h0 p=G.h0 p:=by
  refine ⟨?_,?_⟩
  · unfold Gx.up;dsimp only;rw [if_neg c]
  · unfold Gx.up;dsimp only;rw [if_neg c]
theorem BS.up (S:BS G env h σ H):BS (G.up H) env h σ H:=by
  refine ⟨S.len,S.val,fun i c e=> ?_,S.uni,S.hp,fun p o e n y=> ?_,fun a o e n=> ?_,fun p o e=> ?_,S.tabs⟩
  · obtain ⟨p,x,y,n,n0⟩:=S.own i c e
    refine ⟨p,x,y,n,?_⟩
    rw [(A1g fun ⟨o,z,m⟩=> m (y.mu_at z)).1]
    exact n0
  · by_cases c:∃o,H p=some o∧¬Mu o
    · obtain ⟨o',z,m⟩:=c
      rw [(A01 z m).1] at e
      cases e;exact z
    · obtain ⟨a,b⟩:=A1g (G:=G) c
      rw [a] at e;rw [b] at n
      exact S.fr p o e n y
  · obtain ⟨u,eu,mu⟩:=(S.hp a o e).there
    obtain ⟨x,y⟩:=A1g (G:=G) (H:=H) (p:=a) fun ⟨o,z,m⟩=> by
      rw [eu] at z;cases z;exact m mu
    rw [y] at n;rw [x]
    exact S.ext a o e n
  · by_cases c:∃o,H p=some o∧¬Mu o
    · obtain ⟨o',z,m⟩:=c
      exact ⟨o',z⟩
    · rw [(A1g (G:=G) c).1] at e
      exact S.tr p o e
theorem BS.down (S1:BS G env h σ H) (S:BS (G.up H) env' h' σ' H'):BS G env' h' σ' H':=by
  refine ⟨S.len,S.val,fun i c e=> ?_,S.uni,S.hp,fun p o e n y=> ?_,fun a o e n=> ?_,fun p o e=> ?_,S.tabs⟩
  · obtain ⟨p,x,y,n,n0⟩:=S.own i c e
    refine ⟨p,x,y,n,?_⟩
    by_cases c:∃o,H p=some o∧¬Mu o
    · obtain ⟨o',z,m⟩:=c
      rw [(A01 z m).1] at n0;cases n0
    · rw [(A1g c).1] at n0
      exact n0
  · by_cases c:∃o,H p=some o∧¬Mu o
    · obtain ⟨o',z,m⟩:=c
      have z':=S1.fr p o e n y
      rw [z] at z';cases z'
      exact S.fr p _ (A01 z m).1 (A01 z m).2 y
    · obtain ⟨a,b⟩:=A1g (G:=G) c
      exact S.fr p o (a.trans e) (b.trans n) y
  · by_cases c:∃o,H a=some o∧¬Mu o
    · obtain ⟨o',z,m⟩:=c
      have q:=S.ext a o e (A01 z m).2
      rw [(A01 z m).1] at q;cases q
    · obtain ⟨x,y⟩:=A1g (G:=G) c
      rw [←x]
      exact S.ext a o e (y.trans n)
  · by_cases c:∃o,H p=some o∧¬Mu o
    · obtain ⟨o',z,m⟩:=c
      exact S.tr p o' (A01 z m).1
    · exact S.tr p o ((A1g c).1.trans e)
end
structure FnG (X:Cx) (k:Nat) (G:Gx) (f:Addr) (sp:B8):Prop where
  m:L6 sp
  at_:∀(H:Hp) (s:Shared),(∀p o,G.H0 p=some o→G.h0 p=none→NT o→H p=some o)→HOk X.prog X.w H s.heap→FnB X.prog X.w X.K X.mg X.base k H f sp
theorem FnB.g {X:Cx} {k:Nat} {G:Gx} {H:Hp} {f:Addr} {sp:B8} (F:FnB X.prog X.w X.K X.mg X.base k H f sp):FnG X k (G.up H) f sp:=
  ⟨F.m,fun H' s fr _=> F.stays fun p o e m n=> fr p o (A01 e m).1 (A01 e m).2 n⟩
def B5f (K:PySem.W.Frag):Gx:=⟨K,fun _=> none,fun _=> some (.ext fun _=> False)⟩
theorem C0s {X:Cx} {k:Nat} {f:Addr} {sp:B8} (m:L6 sp):FnG X k (B5f X.K) f sp:=
  ⟨m,fun H s fr ok=> ((ok 0 _ (fr 0 _ rfl rfl fun ps e=> by cases e)).1).elim⟩
def B0G (E:AExc→A0→AH→Prop) (m:Nat) (tc:Addr→B8→(AExc→A0→AH→Prop)→C0) (i:Nat) (f:Addr) (sp:B8):AT:=fun env h Q=> env[i]? =some (some (.val (.ref f)))∧∃Qa Ea,
  (∀r h2,Qa r h2→match r with
    | RR.val w=> Q (.val w) env h2
    | RR.own c=> Q (.own c) env h2)∧(∀x h2,Ea x h2→E x env h2)∧tc f sp (C7 Ea) (C2 Qa) (F8 m [.ref f]) h
section
variable {X:Cx} {G:Gx} {kg kl i:Nat} {g f:Addr} {fd:FuncData} {x a:Str} {st:Stmt} {Ng psg:List Str} {p p2 pos:Pos} {sp:B8} {tc:Addr→B8→(AExc→A0→AH→Prop)→C0} {E:AExc→A0→AH→Prop}
theorem C2G (gk:G.K=X.K) (hF:FnG X kl G f sp) (FD:FunD X.K x x (defArgs st) (defBody st) (defScope st) [] [] g fd) (hm:X.mg x=some (.ref g)) (bd:T2 x st psg) (Sg:FnScope Ng psg (defScope st)) (hn:psg.length=1) (hg:Gl X x) (tk:Takes X (cW G E)) (hr:Room (kg+1) X.A)
    (hN:X.N[i]? =some a) (hv:Vis X.env.scope a) (hk:kl≤kg)
    (hb:∀(cdv:Value) (s:Shared) (H:Hp) (EX:XK) (G':Gx) (E':AExc→A0→AH→Prop) (f:Addr) (sp:B8),Room kg (X.A.deeper (envOfC x (defScope st) s.heap.objs.size g cdv))→G'.K=X.K→
      Takes (bx X.prog X.w X.K X.mg X.base Ng x (defScope st) g cdv X.A X.stack s H EX) (cW G' E')→LamHas (bx X.prog X.w X.K X.mg X.base Ng x (defScope st) g cdv X.A X.stack s H EX) G' f 0 sp→
      ASs (bx X.prog X.w X.K X.mg X.base Ng x (defScope st) g cdv X.A X.stack s H EX) G' (defBody st) (tc f sp E'))
    (hdb:(x==("__debug__":Str))=false:=by decide) (had:(a==("__debug__":Str))=false:=by decide) (hcd:(a==("__classdict__":Str))=false:=by decide)
    (he:starEach [.Name a p2] X.env=(false,eval (.Name a p2) X.env)::starEach [] X.env:=by rfl) (hpl:(backTo pos (starEach [] X.env)).any (·.1)=false:=by rfl):
    AE X G (.Call (.Name x p) [.Name a p2] [] pos) (B0G E Ng.length tc i f sp):=by
  refine ⟨fun env h Q Q' k ⟨e,Qa,Ea,a,b,z⟩=> ⟨e,Qa,Ea,fun r h2 y=> by
    have y:=a r h2 y
    cases r with
    | val w=> exact k _ _ _ y
    | own c=> exact k _ _ _ y,b,z⟩,⟨fun pins s σ H Q I ⟨env,h,S,es,q⟩=> ?_⟩⟩
  obtain ⟨Qa,Ea,qa,ea,z⟩:=q
  refine wpAny_Call_Name_kw (ld_glob I hg hm ?_ hdb)
  have ap:PA X [.Name a p2] _:=pa_cons (pe_var (pos:=p2) hN hv had hcd) pa_nil he
  obtain ⟨v0,ev0,rv0⟩:=S.val i _ es
  have rv0:=Rep.of_ref (K:=G.K) (H:=H) rv0
  subst rv0
  refine PySem.W.callWith_K (h₀:=X.base) I.ok.mod.kin FD.kp (thn (ap.run pos pins s σ H (fun vs H1=> vs=[.ref f]∧H1=H) I ⟨.ref f,ev0,rfl,rfl⟩) fun us s1 ⟨vs,H1,I1,r,ev,eH⟩=> ⟨I1.kIn,?_⟩) he hpl
  subst ev
  subst eH
  have hlv:([V.ref f]:List V).length=psg.length:=by rw [hn];rfl
  have hlu:us.length=psg.length:=by rw [←r.length];exact hlv
  have b:=FD.bindsA (ps:=psg) bd s1 us hlu
  obtain ⟨oc,od,dV,kV,doc,pm,an,cdv,ct,osl,rfl,lk,hcd',_,_⟩:=FD.ex
  have hwN:([W.ref f]:List W).length≤Ng.length:=by
    have z:=congrArg List.length Sg.pre
    rw [List.length_take,hn] at z
    have:([W.ref f]:List W).length=1:=rfl
    omega
  have ke:∀x h' cls d H',Ea x h'→HS ⟨G.K,h,H1⟩ h' H'→XRep G.K H' x cls d→WE (cW G E) σ cls d H':=fun x h' cls d H' y c xr=> by
    obtain ⟨S2,x2⟩:=S.after c
    exact ⟨x,env,h',S2,xr,ea _ _ y⟩
  have kq:∀r h' v H',Qa r h'→HS ⟨G.K,h,H1⟩ h' H'→A0U ⟨G.K,h,H1⟩ h' H' r v→Q v H':=fun r h' v H' y c rr=> by
    obtain ⟨S2,x2⟩:=S.after c
    have y:=qa r h' y
    cases r with
    | val w=> exact y v H' S2 x2 rr trivial
    | own c0=>
      obtain ⟨p,e,cr,a,b⟩:=rr
      have nw:H1 p=none:=b
      obtain ⟨_,g0,no⟩:=S.noAt nw
      exact y v H' S2 x2 ⟨p,e,cr,a,g0,no⟩ fun p' e'=> by
        rw [e] at e';cases e';exact nw
  have rr1:RepL X.K H1 [.ref f] [.ref f]:= .cons .ref .nil
  have tb1:TabsK X.K H1:=gk▸S.tabs
  have hp1:∀a o,h a=some o→ORep X.K H1 a o:=gk▸S.hp
  rw [gk] at ke kq
  have B:=hF.at_ H1 s1 (fun p o x y z=> S.fr p o x y z) I1.hok
  refine wpAny_call (codeAny_mono (run_ofS (CX:=L2.CX X.prog X.w) (N:=Ng) (ps:=psg) (vs:=[.ref f]) (k:=kg) (Q:=Q) (E:=WE (cW G E) σ) lk hcd' Sg hr I1.env0 b r hlv fun hr'=> ?_) fun r s' hq=> ?_)
  · have tk':Takes (bx X.prog X.w X.K X.mg X.base Ng x (defScope st) g cdv X.A X.stack s1 H1 (WE (cW G E) σ)) (cW ⟨X.K,h,H1⟩ (C7 Ea)):=
      Takes.imp (W:=fun cls d _ H'=> WE (cW G E) σ cls d H') (takes_of rfl rfl rfl rfl) fun cls d σ' H' ⟨x,env,h',SB,xr,h'',le,e⟩=> ke x h'' cls d H' e (HS.le (G:=⟨X.K,h,H1⟩) SB.hs le) xr
    have sty:∀H2:Hp,(∀p o,H1 p=some o→h p=none→NT o→H2 p=some o)→Stays H1 H2:=fun H2 fr p o e m n=> fr p o e (S.nmu e m).1 n
    have lh:LamHas (bx X.prog X.w X.K X.mg X.base Ng x (defScope st) g cdv X.A X.stack s1 H1 (WE (cW G E) σ)) ⟨X.K,h,H1⟩ f 0 sp:=by
      refine ⟨hF.m,fun s2 H2 fr hok=> B.fn s2 H2 (sty H2 fr) hok,fun s2 H2 us2 vs2 Q2 E2 fr un e0 rv csp=> ?_⟩
      obtain ⟨ws,h2,Qa2,Ea2,wl,hp2,tb2,rl,rest⟩:=csp
      obtain rfl:ws=[]:=List.eq_nil_of_length_eq_zero wl
      have ev:=rl.of_nil
      subst ev
      cases rv
      exact B.run _ _ s2 H2 Q2 E2 (sty H2 fr) (hr'.mono hk) e0 ⟨[],h2,Qa2,Ea2,rfl,hp2,tb2,.nil,rest⟩
    refine ⟨_,(hb cdv s1 H1 (WE (cW G E) σ) ⟨X.K,h,H1⟩ (C7 Ea) f sp hr' rfl tk' lh).ps,F8 Ng.length [.ref f],h,C2 Qa,BS.begin hp1 tb1 rr1 hwN,z,?_⟩
    refine ⟨fun env h' σ' H' SB _ ⟨h'',le,e⟩=> kq (.val .non) h'' .non H' e (SB.hs.le le) (show Rep X.K H' .non .non from .non),fun r0 env h' σ' H' v SB _ rr ⟨h'',le,e⟩=> ?_,fun _ _ _ _ _ _ z=> z.elim,fun _ _ _ _ _ _ z=> z.elim⟩
    have own_end:∀{p:Addr} {c:Cont},v= .ref p→CRep X.K H' p c→h' p=none→H1 p=none→A0U ⟨X.K,h,H1⟩ h'' H' (.own c) v:=fun {p c} e1 e2 e3 e4=> by
      have e5:h'' p=none:=by
        cases z:h'' p with
        | none=> rfl
        | some u=> rw [le p u z] at e3;cases e3
      exact ⟨p,e1,e2,e5,e4⟩
    cases r0 with
    | val w0=> exact kq (.val w0) h'' v H' e (SB.hs.le le) rr
    | own c=>
      obtain ⟨p,e1,cr,a,b,_⟩:=rr
      exact kq (.own c) h'' v H' e (SB.hs.le le) (own_end e1 cr a b)
    | slot i=>
      have es:σ'[i]? =some (some v):=rr
      have e:match env[i]? with
        | some (some (.val w))=> Qa (.val w) h''
        | some (some (.own c))=> Qa (.own c) h''
        | _=> False:=e
      split at e
      · rename_i w0 ei
        obtain ⟨u,e3,rv⟩:=SB.val i w0 ei
        rw [es] at e3;cases e3
        exact kq (.val w0) h'' v H' e (SB.hs.le le) rv
      · rename_i c ei
        obtain ⟨p,e3,cr,a,b⟩:=SB.own i c ei
        rw [es] at e3;cases e3
        exact kq (.own c) h'' _ H' e (SB.hs.le le) (own_end rfl cr a b)
      · exact e.elim
  · cases r with
    | error e=> exact passAt tk σ pins H1 s1 e s' I1 hq
    | ok fl=>
      cases fl with
      | ret u=> exact I1.after hq
      | next=> exact False.elim hq
      | brk=> exact False.elim hq
      | cont=> exact False.elim hq
end
def FnsB (P:Program) (w:World) (K:PySem.W.Frag) (mg:Str→Option Value) (base:Heap) (k:Nat) (H:Hp) (fs:List Addr) (sps:List B8):Prop:=
  fs.length=sps.length∧∀(i:Nat) (f:Addr) (sp:B8),fs[i]? =some f→sps[i]? =some sp→FnB P w K mg base k H f sp
theorem FnsB.stays {P:Program} {w:World} {K:PySem.W.Frag} {mg:Str→Option Value} {base:Heap} {k:Nat} {H H1:Hp} {fs:List Addr} {sps:List B8} (F:FnsB P w K mg base k H fs sps) (a:Stays H H1):FnsB P w K mg base k H1 fs sps:=
  ⟨F.1,fun i f sp x y=> (F.2 i f sp x y).stays a⟩
theorem FnsB.append {P:Program} {w:World} {K:PySem.W.Frag} {mg:Str→Option Value} {base:Heap} {k:Nat} {H:Hp} {fs gs:List Addr} {sps tps:List B8} (F:FnsB P w K mg base k H fs sps) (G:FnsB P w K mg base k H gs tps):FnsB P w K mg base k H (fs++gs) (sps++tps):=by
  refine ⟨by rw [List.length_append,List.length_append,F.1,G.1],fun i f sp x y=> ?_⟩
  by_cases hi:i < fs.length
  · rw [List.getElem?_append_left hi] at x
    rw [List.getElem?_append_left (by rw [←F.1];exact hi)] at y
    exact F.2 i f sp x y
  · rw [List.getElem?_append_right (by omega)] at x
    rw [List.getElem?_append_right (by rw [←F.1];omega),←F.1] at y
    exact G.2 _ f sp x y
abbrev AFT:=A0→AH→(List B8→A0→AH→Prop)→Prop
def cF (X:Cx) (k:Nat) (G:Gx) (t:AFT):TE:=fun σ H Q=> ∃env h,BS G env h σ H∧t env h fun sps env' h'=> ∀p fs H',BS G env' h' σ H'→Xt env h σ H env' h' H'→LsF H' p (fs.map V.ref)→FnsB X.prog X.w X.K X.mg X.base k H' fs sps→Q (.ref p) H'
structure AF (X:Cx) (k:Nat) (G:Gx) (e:Expr) (t:AFT):Prop where
  mono:A9 t
  sm:∀env h (R:List B8→A0→AH→Prop),t env h R→t env h fun sps e g=> (∀sp∈sps,L6 sp)∧R sps e g
  pe:PE X e (cF X k G t)
abbrev A3c:=List W→AH→(List B8→AH→Prop)→Prop
def cAk (P:Program) (w:World) (K:PySem.W.Frag) (mg:Str→Option Value) (base:Heap) (k n:Nat) (ak:A3c):Sp:=fun vs H Q _=> ∃ws h Qa,ws.length=n∧(∀a o,h a=some o→ORep K H a o)∧TabsK K H∧RepL K H ws vs∧ak ws h Qa∧
  ∀sps h' p fs H',Qa sps h'→HS ⟨K,h,H⟩ h' H'→H' p=some (.lst (fs.map V.ref))→h' p=none→H p=none→FnsB P w K mg base k H' fs sps→Q (.ref p) H'
structure AkOk (P:Program) (w:World) (K:PySem.W.Frag) (mg:Str→Option Value) (base:Heap) (x:Str) (st:Stmt) (kl k n:Nat) (ps:List Str) (ak:A3c):Prop where
  mono:∀ws h Q Q',(∀a b,Q a b→Q' a b)→ak ws h Q→ak ws h Q'
  sm:∀ws h (R:List B8→AH→Prop),ak ws h R→ak ws h fun sps g=> (∀sp∈sps,L6 sp)∧R sps g
  ex:∃f fd,mg x=some (.ref f)∧FunD K x x (defArgs st) (defBody st) (defScope st) [] [] f fd∧FnOk P w K mg base (L2.CX P w) k f fd ps (cAk P w K mg base kl n ak)
def aAk (ak:A3c) (t:E5):AFT:=fun env h Q=> t env h fun ws env1 h1=> ak ws h1 fun sps h2=> Q sps env1 h2
section
variable {X:Cx} {G:Gx} {ak:A3c} {st:Stmt} {kl k j n:Nat} {ps:List Str} {x:Str} {p pos:Pos} {e:Expr} {es:List Expr} {t:E5}
theorem C0i (gk:G.K=X.K) (O:AkOk X.prog X.w X.K X.mg X.base x st kl k n ps ak) (bd:T2 x st ps) (hr:Room j X.A) (kj:k≤j) (hg:Gl X x) (ha:AN X G (e::es) n t)
    (hdb:(x==("__debug__":Str))=false:=by decide) (he:starEach (e::es) X.env=(false,eval e X.env)::starEach es X.env:=by rfl) (hpl:(backTo pos (starEach es X.env)).any (·.1)=false:=by rfl):
    AF X kl G (.Call (.Name x p) (e::es) [] pos) (aAk ak t):=by
  obtain ⟨f,fd,hm,FD,F⟩:=O.ex
  refine ⟨fun env h Q Q' k q=> ha.aa.mono env h _ _ (fun ws e g z=> O.mono _ _ _ _ (fun a b y=> k _ _ _ y) z) q,fun env h R q=> ha.aa.mono env h _ _ (fun ws e g z=> O.sm _ _ _ z) q,⟨fun pins s σ H Q I ⟨env,h,S,q⟩=> ?_⟩⟩
  have P:=pe_callS (E:=fun σ=> WE (cW G fun _ _ _=> False) σ) (F.mono kj) hr hg hm FD.kp (FD.bindsN bd) (fun σ=> passAt A2H σ) ha.aa.pa hdb he hpl (p:=p) (pos:=pos)
  refine thn (P.run pins s σ H (fun v H1=> ∃p fs sps env' h',v= .ref p∧BS G env' h' σ H1∧Xt env h σ H env' h' H1∧H1 p=some (.lst (fs.map V.ref))∧h' p=none∧G.H0 p=none∧¬OwnAt env' σ p∧H p=none∧FnsB X.prog X.w X.K X.mg X.base kl H1 fs sps∧
      ∀p fs H',BS G env' h' σ H'→Xt env h σ H env' h' H'→LsF H' p (fs.map V.ref)→FnsB X.prog X.w X.K X.mg X.base kl H' fs sps→Q (.ref p) H') I ?_) fun v s1 ⟨xv,H1,I1,r1,z⟩=> ?_
  · refine ⟨env,h,S,ha.aa.mono env h _ _ (fun ws env1 h1 ⟨hl,z⟩ vs H1 S1 x1 r1=> ?_) (ha.ln _ _ _ q)⟩
    refine ⟨ws,h1,_,hl,gk▸S1.hp,gk▸S1.tabs,gk▸r1,z,fun sps h' p fs H' y c el n0 n1 B=> ?_⟩
    obtain ⟨S2,x2⟩:=S1.after (gk▸c)
    obtain ⟨_,g0,no⟩:=S1.noAt n1
    exact ⟨p,fs,sps,env1,h',rfl,S2,x1.trans x2,el,n0,g0,no,x1.fresh n1,B,y⟩
  · obtain ⟨p,fs,sps,env',h',rfl,S1,x1,el,n0,g0,no,hp0,B,k⟩:=z
    obtain ⟨od,I2⟩:=I1.lock el (Mu.mut (o:= .lst (fs.map V.ref)) trivial)
    have S2:=S1.freeze od el trivial n0 g0 rfl (fun i w e=> .inl e) fun i c e=> ⟨e,fun y=> no ⟨i,c,e,y⟩⟩
    have x2:=x1.freeze (od:=od) el (.inl hp0) fun i c e=> e
    refine ⟨.ref p,_,I2,r1,k p fs _ S2 x2 ⟨od,upd_same⟩ (B.stays fun q o e m n=> ?_)⟩
    have ne:q≠p:=fun y=> by rw [y,el] at e;cases e;exact m trivial
    rw [upd_ne ne];exact e
end
end Ab
namespace Ab
open PySem PySem.Spec PyProof.Rows L2 LamX
def lcLoopF (vs:List Nat) (j:Nat) (te:Addr→B8→C3) (Q:List W→A0→AH→Prop):List B8→List W→A0→AH→Prop
  | [],acc=> fun env h=> Q acc env h
  | sp::r,acc=> fun env h=> ∀f:Addr,te f sp ((P8 env vs).set j (some (.val (.ref f)))) h fun y e3 h3=> acc.length < sizeLine∧lcLoopF vs j te Q r (acc++[y]) (mend env e3 vs) h3
def A7a (vs:List Nat) (j:Nat) (tf:AFT) (te:Addr→B8→C3):AT:=fun env h Q=> tf env h fun sps e1 h1=> lcLoopF vs j te (fun acc e h=> Q (.own (.seq acc)) e h) sps [] e1 h1
theorem lcLoopF.mono {vs:List Nat} {j:Nat} {te:Addr→B8→C3} (me:∀f sp,L6 sp→A9 (te f sp)) {Q Q':List W→A0→AH→Prop} (k:∀a e h,Q a e h→Q' a e h):∀(sps:List B8),(∀sp∈sps,L6 sp)→∀(acc:List W) env h,lcLoopF vs j te Q sps acc env h→lcLoopF vs j te Q' sps acc env h
  | [],_,acc,env,h,q=> k _ _ _ q
  | sp::r,sm,acc,env,h,q=> fun f=> me f sp (sm sp (List.mem_cons_self)) _ _ _ _ (fun y e3 h3 z=> ⟨z.1,lcLoopF.mono me k r (fun s hs=> sm s (List.mem_cons_of_mem _ hs)) _ _ _ z.2⟩) (q f)
section
variable {X:Cx} {G:Gx} {elt tg iter:Expr} {scope:Scope} {own:List (Str×Nat)} {pos:Pos} {tf:AFT} {te:Addr→B8→C3} {sl:List Nat} {kl j:Nat}
def gFn (sl:List Nat) (j:Nat):TG:=fun v σ H Q=> ∃G1:Gx,cG G1 sl (M5 j) v σ H Q
def eF (X:Cx) (kl:Nat) (te:Addr→B8→C3):TE:=fun σ H Q=> ∃(G1:Gx) (f:Addr) (sp:B8),G1.K=X.K∧FnG X kl G1 f sp∧cV G1 (te f sp) σ H Q
theorem B9O {σ:L2.St} {H:Hp} {Q:VK} (gk:G.K=X.K) (hf:AF X kl G iter tf) (hsl:∀i∈sl,i∈own.map (·.2)) (me:∀f sp,L6 sp→A9 (te f sp)) (q:cE G (A7a (own.map (·.2)) j tf te) σ H Q):
    tLc (iList X.K (cF X kl G tf)) (gFn sl j) tYes (eF X kl te) (own.map (·.2)) σ H Q:=by
  obtain ⟨env,h,S,q⟩:=q
  refine ⟨env,h,S,hf.mono env h _ _ (fun sps env1 h1 ⟨sm,z⟩ p fs H1 S1 x1 l1 F1=> ⟨p,rfl,⟨_,l1.sq⟩,?_⟩) (hf.sm _ _ _ q)⟩
  intro D nD
  have hD:H D=none:=x1.fresh nD
  obtain ⟨hd1,hd0,hdo⟩:=S1.noAt nD
  have nw0:New H1 (upd H1 D (.lst [])):=New.upd nD
  obtain ⟨G1,eG⟩:∃G1,G1=G.up H1:=⟨_,rfl⟩
  have gk1:G1.K=X.K:=by rw [eG];exact gk
  have gK:G1.K=G.K:=by rw [eG];rfl
  have U1:BS G1 env1 h1 σ H1:=by rw [eG];exact S1.up
  have dn:∀{e:A0} {k:AH} {H':Hp},BS G1 e k σ H'→BS G e k σ H':=fun {e k H'} s=> S1.down (by rw [←eG];exact s)
  have fg:∀i f sp,fs[i]? =some f→sps[i]? =some sp→FnG X kl G1 f sp:=fun i f sp a b=> by rw [eG];exact (F1.2 i f sp a b).g
  have hd01:G1.H0 D=none:=(U1.noAt nD).2.1
  have sy0:Stays H1 (upd H1 D (.lst [])):=fun p o e m n=> nw0 p o e
  refine ⟨fun i m H'=> sps.length≤i+m∧Stays H1 H'∧∃acc vacc e k,H' D=some (.lst vacc)∧RepL G1.K H' acc vacc∧BS G1 e k σ H'∧Xt env h σ H e k H'∧k D=none∧¬OwnAt e σ D∧
    lcLoopF (own.map (·.2)) j te (fun acc e h'=> ∀v H',BS G e h' σ H'→Xt env h σ H e h' H'→RvRep G e h' σ H' (.own (.seq acc)) v→Q9 H (.own (.seq acc)) v→Q v H') (sps.drop i) acc e k,
    ⟨sps.length,by omega,sy0,[],[],env1,h1,upd_same,.nil,nw0.bs U1,x1.trans nw0.xt,hd1,hdo,by simpa using z⟩,?_⟩
  rintro i m H2 ⟨hm,k2,acc,vacc,e2,g2,d2,r2,S2,x2,n2,no2,z2⟩
  have lp:LsF H2 p (fs.map V.ref):=k2.keeps.lsF l1
  cases e:sps[i]? with
  | none=>
    have hl:=List.getElem?_eq_none_iff.mp e
    rw [List.drop_eq_nil_of_le hl] at z2
    refine .inl ⟨⟨_,lp.sq,by rw [List.length_map,F1.1];exact hl⟩,z2 _ H2 (dn S2) x2 ⟨D,rfl,⟨vacc,d2,gK▸r2⟩,n2,hd0,no2⟩ fun p ep=> by cases ep;exact hD⟩
  | some sp=>
    obtain ⟨hl,ew⟩:=List.getElem?_eq_some_iff.mp e
    have ed:sps.drop i=sp::sps.drop (i+1):=by rw [List.drop_eq_getElem_cons hl,ew]
    rw [ed] at z2
    simp only [lcLoopF] at z2
    have hlf:i < fs.length:=by rw [F1.1];exact hl
    obtain ⟨f,ef⟩:∃f,fs[i]? =some f:=⟨_,List.getElem?_eq_getElem hlf⟩
    have evf:(fs.map V.ref)[i]? =some (.ref f):=by rw [List.getElem?_map,ef];rfl
    refine .inr ⟨⟨_,_,lp.sq,evf⟩,fun H'=> Stays H1 H'∧∃acc vacc e k,H' D=some (.lst vacc)∧RepL G1.K H' acc vacc∧BS G1 e k σ H'∧Xt env h σ H e k H'∧k D=none∧¬OwnAt e σ D∧
      lcLoopF (own.map (·.2)) j te (fun acc e h'=> ∀v H',BS G e h' σ H'→Xt env h σ H e h' H'→RvRep G e h' σ H' (.own (.seq acc)) v→Q9 H (.own (.seq acc)) v→Q v H') (sps.drop (i+1)) acc e k,fun H' n=> ⟨m - 1,by omega,by omega,n.1,n.2⟩,fun x H3 y=> ?_⟩
    obtain ⟨e3,y⟩:=y
    subst e3
    have ex:=y _ lp.sq
    rw [evf] at ex
    cases ex
    refine ⟨G1,.ref f,P8 e2 (own.map (·.2)),g2,.ref,S2.wipe,fun σ4 H4 S4 x4=> ?_⟩
    refine ⟨A8j x4.bt hsl,?_⟩
    unfold tYes
    refine iteT ?_
    refine ⟨G1,f,sp,gk1,fg i f sp ef e,(P8 e2 (own.map (·.2))).set j (some (.val (.ref f))),g2,S4,me f sp (sm sp (List.mem_of_getElem? e)) _ _ _ _ (fun y e6 g6 ⟨hz,z6⟩ v H6 S6 x6 r6=> ?_) (z2 f)⟩
    have fin:∀{e6:A0} {g6:AH} {H6:Hp},BS G1 e6 g6 σ4 H6→Xt ((P8 e2 (own.map (·.2))).set j (some (.val (.ref f)))) g2 σ4 H4 e6 g6 H6→H6 D=some (.lst vacc)∧Stays H3 H6∧BS G1 (mend e2 e6 (own.map (·.2))) g6 σ H6∧g6 D=none∧¬OwnAt (mend e2 e6 (own.map (·.2))) σ D∧
        ∀ys,Xt env h σ H (mend e2 e6 (own.map (·.2))) g6 (upd H6 D (.lst ys)):=fun {e6 g6 H6} S6 x6=> by
      have xx:=x4.trans x6.xg
      have noW:¬OwnAt (P8 e2 (own.map (·.2))) (wipe σ (own.map (·.2))) D:=fun q=> no2 q.wiped
      have f6:∀p o,H3 p=some o→g2 p=none→¬OwnAt e2 σ p→NT o→H6 p=some o:=fun p o e n q t=> xx.fr p o e n (fun q'=> q q'.wiped) t
      have ks:Stays H3 H6:=fun p o e m n=> f6 p o e (S2.nmu e m).1 (S2.nmu e m).2 n
      have kk:Keeps H3 H6:=ks.keeps
      have Sm:=BS.mend (sl:=sl++[]) S2 S6 kk xx.bt fun i hi=> hsl i (by simpa using hi)
      have g6D:g6 D=none:=by
        cases q:g6 D with
        | none=> rfl
        | some u=> have y:=xx.hn D u q n2;rw [d2] at y;cases y
      have sameOut:∀{j:Nat},j∉own.map (·.2)→σ4[j]? =σ[j]? :=fun {j} hj=> (x4.bt.2 j fun q=> hj (hsl j q)).trans (s4 hj)
      have oM:∀p,OwnAt (mend e2 e6 (own.map (·.2))) σ p→OwnAt e2 σ p:=fun p ⟨j,c,a,b⟩=> by
        by_cases hj:j∈own.map (·.2)
        · obtain ⟨w',e0,_⟩:=t8 hj a;cases e0
        · rw [t4 hj] at a
          exact (xx.ow p ⟨j,c,a,(sameOut hj).trans b⟩).wiped
      refine ⟨f6 D _ d2 n2 no2 (Mu.nt (o:= .lst vacc) trivial),ks,Sm,g6D,fun q=> no2 (oM D q),fun ys=> ⟨fun p o e n q t=> ?_,fun p o e n=> ?_,fun p o e=> ?_,fun j c e=> ?_⟩⟩
      · have np:p≠D:=fun z=> by rw [z,hD] at e;cases e
        rw [upd_ne np]
        refine f6 p o (x2.fr p o e n q t) ?_ (fun y=> q (x2.own y)) t
        cases y:g2 p with
        | none=> rfl
        | some u=> rw [x2.hn p u y n] at e;cases e
      · cases y:g2 p with
        | some u=> exact x2.hn p u y n
        | none=>
          have y3:=xx.hn p o e y
          cases y4:H p with
          | none=> rfl
          | some u=>
            obtain ⟨u',y5⟩:=x2.th p u y4
            rw [y5] at y3;cases y3
      · by_cases hp:p=D
        · subst hp;exact ⟨_,upd_same⟩
        · obtain ⟨u,y⟩:=x2.th p o e
          obtain ⟨u',y'⟩:=xx.th p u y
          exact ⟨u',by rw [upd_ne hp];exact y'⟩
      · by_cases hj:j∈own.map (·.2)
        · obtain ⟨w',e0,_⟩:=t8 hj e;cases e0
        · rw [t4 hj] at e
          obtain ⟨c1,y⟩:=xx.so j _ e
          obtain ⟨y1,_⟩:=A0n y
          exact x2.sl j c1 y1
    obtain ⟨d6,k6,Sm,n6,no6,xm⟩:=fin S6 x6
    obtain ⟨k7,S7⟩:=Sm.unseen (o':= .lst (vacc++[v])) d6 trivial n6 hd01 no6
    have s7:Stays H6 (upd H6 D (.lst (vacc++[v]))):=fun p o e m n=> by
      have np:p≠D:=fun z=> by rw [z,d6] at e;cases e;exact m trivial
      rw [upd_ne np];exact e
    exact ⟨vacc,d6,by rw [←r2.length];exact hz,(k2.trans k6).trans s7,acc++[y],vacc++[v],_,g6,upd_same,(RepL.mono (k6.keeps.trans k7) _ _ r2).append (.cons (Rep.mono k7 _ _ r6) .nil),S7,xm _,n6,no6,z6⟩
theorem FnG.to {X Y:Cx} {f:Addr} {sp:B8} {G1:Gx} (a:FnG X kl G1 f sp) (h1:X.prog=Y.prog:=by rfl) (h2:X.w=Y.w:=by rfl) (h3:X.K=Y.K:=by rfl) (h4:X.mg=Y.mg:=by rfl) (h5:X.base=Y.base:=by rfl):FnG Y kl G1 f sp:=by
  refine ⟨a.m,fun H s fr ok=> ?_⟩
  rw [←h1,←h2,←h3,←h4,←h5]
  exact a.at_ H s fr (by rw [h1,h2];exact ok)
theorem C17 (gk:G.K=X.K) (hc:X.calm=true) (hN:X.N.Nodup) (hf:AF X kl G iter tf) (ok:BlkOk X.N X.env.scope scope own) (hsl:∀i∈sl,i∈own.map (·.2))
    (hg:∀(G1:Gx) (s:Shared) (H:Hp) (C:Addr) (cl:List (Str×Addr)) (fp:List Addr),AG (X.blk s H scope (compEnvC scope cl C X.env) fp) G1 tg sl (M5 j))
    (he:∀(s:Shared) (H:Hp) (C:Addr) (cl:List (Str×Addr)) (fp:List Addr) (G1:Gx) (f:Addr) (sp:B8),G1.K=(X.blk s H scope (compEnvC scope cl C X.env) fp).K→FnG (X.blk s H scope (compEnvC scope cl C X.env) fp) kl G1 f sp→AV (X.blk s H scope (compEnvC scope cl C X.env) fp) G1 elt (te f sp)) (hs:∀x,foldedSetIterable iter X.env x=pure x:=by intro _;rfl):
    AE X G (.ListComp elt [⟨tg,iter,[],0⟩] scope pos) (A7a (own.map (·.2)) j tf te):=by
  have me:∀f sp,L6 sp→A9 (te f sp):=fun f sp m=> (he X.s_0 X.H_0 0 [] [] (B5f X.K) f sp rfl (C0s (X:=X) m).to).mono
  refine ⟨fun env h Q Q' k q=> hf.mono env h _ _ (fun sps e1 h1 ⟨sm,z⟩=> lcLoopF.mono me (fun a e h q=> k _ _ _ q) sps sm [] e1 h1 z) (hf.sm _ _ _ q),PE.imp (pe_lc hc hN (pi_list hf.pe) ok (fun s H C cl fp=> ⟨fun pins s2 σ H v u Q I r ⟨G1,q⟩=> (hg G1 _ _ _ _ _).pg.run pins s2 σ H v u Q I r q⟩) (fun s H C cl fp=> pts_nil) (fun s H C cl fp=> ⟨fun pins s2 σ H Q I ⟨G1,f,sp,gk1,fg,q⟩=> (he _ _ _ _ _ G1 f sp gk1 fg.to).pe.run pins s2 σ H Q I q⟩) hs) fun σ H Q q=> B9O gk hf hsl me q⟩
end
abbrev TR:=(V→L2.St→Hp→Prop)→L2.St→Hp→Prop
structure PSr (X:Cx) (st:List Stmt) (t:TR):Prop where
  run:∀(pins:List (Addr×Obj)) (s:Shared) (σ:L2.St) (H:Hp) (R:V→L2.St→Hp→Prop),Inv X pins σ H s→t R σ H→
    wpAny (model X.prog X.w) X.A (execs st X.env) (fun fl s'=> ∃u v σ' H',fl= .ret u∧Inv X pins σ' H' s'∧RelV v u∧R v σ' H') X.xe s
theorem PSr.imp {X:Cx} {st:List Stmt} {t t':TR} (a:PSr X st t) (i:∀R σ H,t' R σ H→t R σ H):PSr X st t':=⟨fun pins s σ H R I q=> a.run pins s σ H R I (i _ _ _ q)⟩
theorem A8g {X:Cx} {st:Stmt} {rest:List Stmt} {t:TS} {u:TR} (h1:PS X st t) (h2:PSr X rest u):PSr X (st::rest) (fun R σ H=> t { nx:=u R,rt:=fun _ _=> False } σ H):=by
  refine ⟨fun pins s σ H R I h=> ?_⟩
  refine wpAny_execs_cons (thn (h1.run pins s σ H { nx:=u R,rt:=fun _ _=> False } I h) fun f s1 q=> ?_)
  cases f with
  | next=>
    obtain ⟨σ',H',I',q⟩:=q
    exact h2.run pins s1 σ' H' R I' q
  | ret v=>
    obtain ⟨_,_,_,_,_,q⟩:=q
    exact q.elim
  | brk=>
    obtain ⟨_,_,_,q⟩:=q
    exact q.elim
  | cont=>
    obtain ⟨_,_,_,q⟩:=q
    exact q.elim
theorem C1C {X:Cx} {e:Expr} {te:TE} {pos:Pos} (he:PE X e te):PSr X [.Return (some e) pos] (fun R σ H=> te σ H fun v H1=> R v σ H1):=by
  refine ⟨fun pins s σ H R I h=> ?_⟩
  refine wpAny_execs_cons (wpAny_Return_some (thn (he.run pins s σ H _ I h) fun v s1 ⟨x,H1,I1,r1,q1⟩=> ?_))
  exact ⟨v,x,σ,H1,rfl,I1,r1,q1⟩
end Ab
namespace Ab
open PySem PySem.Spec PyProof.Rows L2 LamX
structure GrowL (X:Cx) (H H':Hp) (p:Addr):Prop where
  but:∀b o,H b=some o→NT o→b≠p→H' b=some o
  th:∀b o,H b=some o→∃u,H' b=some u
  tabs:TabsK X.K H'
theorem GrowL.trans {X:Cx} {H H1 H2:Hp} {p:Addr} (a:GrowL X H H1 p) (b:GrowL X H1 H2 p):GrowL X H H2 p:=
  ⟨fun q o e n y=> b.but q o (a.but q o e n y) n y,fun q o e=> let ⟨u,z⟩:=a.th q o e;b.th q u z,b.tabs⟩
structure LamK (X:Cx) (d:LamD):Prop where
  at_:∃c P,LamAt X d c P
theorem Made.tabX {X:Cx} {T:List (Addr×Str)} {P:Addr} {params:Arguments} {body:Expr} {scope:Scope} {H H1:Hp} {f c:Addr} (M:Made X T P params body scope H H1 f c) {ps:Array Value} (hP:H P=some (.tbl ps)):(∀b o,H b=some o→NT o→H1 b=some o)∧∀b o,H b=some o→∃u,H1 b=some u:=
  ⟨fun b o e y=> M.but b o e fun z=> by
    rw [z,hP] at e
    exact y ps (Option.some.inj e).symm,fun b o e=> by
    by_cases z:b=P
    · obtain ⟨ps',y⟩:=M.tab
      exact ⟨_,z▸y⟩
    · exact ⟨o,M.but b o e z⟩⟩
def C4Z (X:Cx) (i:Nat) (ds:List LamD):TR:=fun R σ H=> ∃p vs,σ[i]? =some (some (.ref p))∧H p=some (.lst vs)∧vs.length+ds.length < sizeLine∧TabsK X.K H∧
  ∀(fs:List Addr) H',fs.length=ds.length→GrowL X H H' p→H' p=some (.lst (vs++fs.map V.ref))→(∀(k:Nat) f d,fs[k]? =some f→ds[k]? =some d→LamF X d H' f)→R (.ref p) σ H'
structure APr (X:Cx) (a:Str) (i:Nat) (st:List Stmt) (ds:List LamD):Prop where
  run:PSr X st (C4Z X i ds)
theorem LamF.grow {X:Cx} {d:LamD} {H H':Hp} {p f:Addr} {vs:List V} (l:LamF X d H f) (e:H p=some (.lst vs)) (g:GrowL X H H' p):LamF X d H' f:=by
  obtain ⟨c,a,b⟩:=l
  refine ⟨c,g.but _ _ a A25 fun z=> ?_,g.but _ _ b A2z fun z=> ?_⟩
  · rw [z,e] at a;cases a
  · rw [z,e] at b;cases b
section
variable {X:Cx} {a:Str} {i:Nat} {p p1 pos apos cpos epos lpos:Pos} {st:List Stmt} {ds:List LamD} {params:Arguments} {body:Expr} {scope:Scope}
theorem C0x (hN:X.N[i]? =some a) (hv:Vis X.env.scope a) (hd:(a==("__debug__":Str))=false:=by decide) (hcd:(a==("__classdict__":Str))=false:=by decide):APr X a i [.Return (some (.Name a p)) pos] []:=by
  refine ⟨PSr.imp (C1C (pe_var (pos:=p) hN hv hd hcd)) fun R σ H ⟨q,vs,e1,e2,_,tb,k⟩=> ⟨.ref q,e1,?_⟩⟩
  exact k [] H rfl ⟨fun b o e _ _=> e,fun b o e=> ⟨o,e⟩,tb⟩ (by simpa using e2) fun k f d z=> by simp at z
theorem A0R (hN:X.N[i]? =some a) (hv:Vis X.env.scope a) (K:LamK X ⟨params,body,scope⟩) (rest:APr X a i st ds) (hd:(a==("__debug__":Str))=false:=by decide) (hcd:(a==("__classdict__":Str))=false:=by decide)
    (hbase:attributeBase (.Name a p1) "append" X.env (eval (.Name a p1) X.env)=eval (.Name a p1) X.env:=by rfl)
    (hfew:((backTo cpos (starEach [.Lambda params body scope lpos] X.env)).all (fun x=> !x.1) && (backToKw cpos (keywordEach [] X.env)).all (fun x=> x.1.isSome)
      && decide (([.Lambda params body scope lpos]:List Expr).length+([]:List Keyword).length+(if ([]:List Keyword).isEmpty then 0 else 1) < 30))=true:=by rfl)
    (hline:(apos.endLine==cpos.line)=true:=by rfl) (hs:starEach [.Lambda params body scope lpos] X.env=(false,eval (.Lambda params body scope lpos) X.env)::starEach [] X.env:=by rfl) (hplain:(backTo cpos (starEach [] X.env)).any (·.1)=false:=by rfl)
    (hsw:swapsWith (.Call (.Attribute (.Name a p1) "append" apos) [.Lambda params body scope lpos] [] cpos) none epos.line X.env=pure false:=by rfl):
    APr X a i (.Expr (.Call (.Attribute (.Name a p1) "append" apos) [.Lambda params body scope lpos] [] cpos) epos::st) (⟨params,body,scope⟩::ds):=by
  obtain ⟨c,P,L⟩:=K.at_
  have pl:=A83 (X:=X) (T:=A1Z X.K) (params:=params) (body:=body) (scope:=scope) (pos:=lpos) L.TB L.code L.mem L.uni L.dfl L.free
  have pb:=pe_bm PySem.F.plainAttrs_list PySem.F.slot_list_append PySem.F.type_list_append (mt_append (X:=X)) (pe_var (pos:=p1) hN hv hd hcd) (pa_cons pl pa_nil hs) hbase hfew hline hs hplain
  refine ⟨PSr.imp (A8g (ps_expr pb hsw) rest.run) fun R σ H ⟨q,vs,e1,e2,hl,tb,k⟩=> ?_⟩
  refine ⟨.ref q,e1,.inl ⟨rfl,_,.inl (.inl e2)⟩,tb,fun f c' H1 M=> ?_⟩
  obtain ⟨ps,hP,_⟩:=tb _ L.mem
  obtain ⟨b1,t1⟩:=M.tabX hP
  have q1:H1 q=some (.lst vs):=b1 _ _ e2 fun ps e=> by cases e
  rw [List.length_cons] at hl
  refine ⟨q,vs,.ref f,rfl,rfl,q1,by omega,?_⟩
  have fq:f≠q:=fun z=> by
    have y:=M.lam
    rw [z,q1] at y;cases y
  have cq:c'≠q:=fun z=> by
    have y:=M.code
    rw [z,q1] at y;cases y
  have g1:GrowL X H (upd H1 q (.lst (vs++[.ref f]))) q:=by
    refine ⟨fun b o e n y=> by rw [upd_ne y];exact b1 b o e n,fun b o e=> ?_,TabsK.upd M.tabs fun o e=> by rw [q1] at e;cases e;trivial⟩
    by_cases z:b=q
    · exact ⟨_,by rw [z];exact upd_same⟩
    · obtain ⟨u,y⟩:=t1 b o e
      exact ⟨u,by rw [upd_ne z];exact y⟩
  have lf:LamF X ⟨params,body,scope⟩ (upd H1 q (.lst (vs++[.ref f]))) f:=⟨c',by rw [upd_ne fq];exact M.lam,by rw [upd_ne cq];exact M.code⟩
  refine ⟨q,vs++[.ref f],e1,upd_same,by rw [List.length_append];show vs.length+1+ds.length < sizeLine;omega,g1.tabs,fun fs H' fl g l lk=> ?_⟩
  refine k (f::fs) H' (by rw [List.length_cons,List.length_cons,fl]) (g1.trans g) (by rw [l,List.append_assoc];rfl) fun j f' d' x y=> ?_
  cases j with
  | zero=>
    simp at x y
    subst x;subst y
    exact lf.grow upd_same g
  | succ j=> exact lk j f' d' (by simpa using x) (by simpa using y)
end
abbrev ARS:=(List B8→A0→AH→Prop)→A0→AH→Prop
def cRs (X:Cx) (kl:Nat) (G:Gx) (u:ARS):TR:=fun R σ H=> ∃env h,BS G env h σ H∧u (fun sps env' h'=> ∀p fs σ' H',BS G env' h' σ' H'→H' p=some (.lst (fs.map V.ref))→h' p=none→G.H0 p=none→
  (∀pins s',Inv X pins σ' H' s'→FnsB X.prog X.w X.K X.mg X.base kl (u9 X s' H') fs sps)→R (.ref p) σ' H') env h
structure ASr (X:Cx) (kl:Nat) (G:Gx) (st:List Stmt) (u:ARS):Prop where
  mono:∀Q Q' env h,(∀a b c,Q a b c→Q' a b c)→u Q env h→u Q' env h
  ps:PSr X st (cRs X kl G u)
def B5R (t:C0) (u:ARS):ARS:=fun Q env h=> t { nx:=fun e g=> u Q e g,rt:=fun _ _ _=> False } env h
def A9x (i:Nat) (ts:List ((AExc→A0→AH→Prop)→AT)):ARS:=fun Q env h=> Q (ts.map fun t=> u7 t (env.set i none)) (env.set i none) h
structure LamB (X:Cx) (k:Nat) (d:LamD) (t:(AExc→A0→AH→Prop)→AT):Prop where
  L:LamP X.env.scope d.scope X.N []
  bind:∀(q:Str) (cl:List (Str×Addr)) (pm cv ctv:Value),bindArgs (PySem.W.kla_fn "<lambda>" q d.params d.body d.scope cl pm cv ctv) ⟨[],[]⟩=pure []
  body:∀(A:Around) (outer:List Env) (s:Shared) (H:Hp) (E:XK) (f c:Addr) (G:Gx) (E':AExc→A0→AH→Prop),Room k (A.deeper (lamEnv X d.scope s.heap.objs.size f c))→G.K=X.K→Takes (Z0 X A outer s H E d.scope f c []) (cW G E')→AE (Z0 X A outer s H E d.scope f c []) G d.body (t E')
inductive LamBs (X:Cx) (k:Nat):List LamD→List ((AExc→A0→AH→Prop)→AT)→Prop where
  | nil:LamBs X k [] []
  | cons {d:LamD} {t:(AExc→A0→AH→Prop)→AT} {ds:List LamD} {ts:List ((AExc→A0→AH→Prop)→AT)}:LamB X k d t→LamBs X k ds ts→LamBs X k (d::ds) (t::ts)
theorem LamBs.get {X:Cx} {k:Nat} {ds:List LamD} {ts:List ((AExc→A0→AH→Prop)→AT)} (l:LamBs X k ds ts):ds.length=ts.length∧∀(j:Nat) d t,ds[j]? =some d→ts[j]? =some t→LamB X k d t:=by
  induction l with
  | nil=> exact ⟨rfl,fun j d t e=> by simp at e⟩
  | cons a b ih=>
    refine ⟨by rw [List.length_cons,List.length_cons,ih.1],fun j d t e1 e2=> ?_⟩
    cases j with
    | zero=> simp at e1 e2;subst e1;subst e2;exact a
    | succ j=> exact ih.2 j d t (by simpa using e1) (by simpa using e2)
theorem u0 {X:Cx} {d:LamD} {q:Str} {N ps:List Str} (lm:MakesL X.K X.mg X.base q X.env.code) (hq:q=X.env.qual++"<lambda>") (L:LamP X.env.scope d.scope N ps) (dfl:defaultsOf d.params X.env=([],[])):LamK X d:=by
  obtain ⟨c,P,e,tb,m,u⟩:=lm.ex
  subst hq
  exact ⟨c,P,tb,e,m,u,dfl,fun ok=> L.has ok⟩
section
variable {G:Gx} {env:A0} {h:AH} {σ:L2.St} {H:Hp} {i:Nat}
theorem BS.junk {v:Option V} (S:BS G env h σ H):BS G (env.set i none) h (σ.set i v) H:=by
  have at_:∀{j:Nat} {sv:SV},(env.set i none)[j]? =some (some sv)→j≠i∧env[j]? =some (some sv):=fun {j sv} e=> by
    by_cases z:i=j
    · subst z
      by_cases hl:i < env.length
      · rw [List.getElem?_set_self hl] at e;cases e
      · rw [List.getElem?_eq_none (by rw [List.length_set];omega)] at e;cases e
    · rw [List.getElem?_set_ne z] at e
      exact ⟨Ne.symm z,e⟩
  have so:∀{j:Nat},j≠i→(σ.set i v)[j]? =σ[j]? :=fun {j} n=> List.getElem?_set_ne (Ne.symm n)
  refine ⟨by rw [List.length_set,List.length_set,S.len],fun j w e=> ?_,fun j c e=> ?_,fun j k c c' p e1 e2 f1 f2=> ?_,S.hp,S.fr,S.ext,S.tr,S.tabs⟩
  · obtain ⟨n,e⟩:=at_ e
    rw [so n];exact S.val j w e
  · obtain ⟨n,e⟩:=at_ e
    rw [so n];exact S.own j c e
  · obtain ⟨n,e1⟩:=at_ e1
    obtain ⟨m,e2⟩:=at_ e2
    rw [so n] at f1;rw [so m] at f2
    exact S.uni j k c c' p e1 e2 f1 f2
end
section
variable {X:Cx} {G:Gx} {kl:Nat} {s:Stmt} {rest:List Stmt} {t:C0} {u:ARS} {a:Str} {i:Nat} {p pos lpos llpos:Pos} {st:List Stmt} {ds:List LamD} {params:Arguments} {body:Expr} {scope:Scope} {t0:(AExc→A0→AH→Prop)→AT} {ts:List ((AExc→A0→AH→Prop)→AT)}
theorem B9X (A:AS X G s t) (B:ASr X kl G rest u):ASr X kl G (s::rest) (B5R t u):=by
  refine ⟨fun Q Q' env h k q=> A.mono { nx:=fun e g=> u Q e g,rt:=fun _ _ _=> False } _ env h ⟨fun e g z=> B.mono Q Q' _ _ k z,fun _ _ _ z=> z,fun _ _ z=> z,fun _ _ z=> z⟩ q,PSr.imp (A8g A.ps B.ps) fun R σ H ⟨env,h,S,q⟩=> ?_⟩
  exact ⟨env,h,_,S,q,fun e g σ' H' S' _ z=> ⟨e,g,S',z⟩,fun _ _ _ _ _ _ _ _ _ z=> z,fun _ _ _ _ _ _ z=> z,fun _ _ _ _ _ _ z=> z⟩
theorem B9d (gk:G.K=X.K) (hN:X.N.Nodup) (hi:X.N[i]? =some a) (hx:Loc X.env.scope a) (hr:Room (kl+1) X.A) (K:LamK X ⟨params,body,scope⟩) (tail:APr X a i st ds) (B:LamBs X kl (⟨params,body,scope⟩::ds) (t0::ts)) (hds:1+ds.length < sizeLine)
    (hf:X.fn a=true∨X.env.scope.names.lookup a=some .local:=by first | exact .inl rfl | exact .inr rfl | assumption)
    (hs:starEach [.Lambda params body scope lpos] X.env=(false,eval (.Lambda params body scope lpos) X.env)::starEach [] X.env:=by rfl)
    (hsw:swapsWith (.List [.Lambda params body scope lpos] llpos) (some (.Name a p)) pos.line X.env=pure false:=by rfl):
    ASr X (kl+1) G (.Assign [.Name a p] (.List [.Lambda params body scope lpos] llpos) pos::st) (A9x i (t0::ts)):=by
  obtain ⟨c,P,L⟩:=K.at_
  have pl:=A83 (X:=X) (T:=A1Z X.K) (params:=params) (body:=body) (scope:=scope) (pos:=lpos) L.TB L.code L.mem L.uni L.dfl L.free
  have ps:=ps_set hN hi hx (pe_lst (pos:=llpos) (pa_cons pl pa_nil hs)) hsw hf
  refine ⟨fun Q Q' env h k q=> k _ _ _ q,⟨fun pins0 s0 σ H R I0 ⟨env,h,S,q⟩=> (A8g ps tail.run).run pins0 s0 σ H R I0 ?_⟩⟩
  have hσ:i < σ.length:=by rw [I0.len];exact (List.getElem?_eq_some_iff.mp hi).1
  have tb:TabsK X.K H:=gk▸S.tabs
  refine ⟨tb,fun f c' H1 M=> ?_⟩
  obtain ⟨psT,hP,_⟩:=tb _ L.mem
  obtain ⟨b1,t1⟩:=M.tabX hP
  refine ⟨Nat.le_of_lt (show 1 < sizeLine by omega),fun r nr=> ?_⟩
  have hr0:H r=none:=by
    cases z:H r with
    | none=> rfl
    | some o=>
      obtain ⟨u,y⟩:=t1 r o z
      rw [nr] at y;cases y
  obtain ⟨n1,n2,n3⟩:=S.noAt hr0
  have fq:f≠r:=fun z=> by
    have y:=M.lam
    rw [z,nr] at y;cases y
  have cq:c'≠r:=fun z=> by
    have y:=M.code
    rw [z,nr] at y;cases y
  have lf:LamF X ⟨params,body,scope⟩ (upd H1 r (.lst [.ref f])) f:=⟨c',by rw [upd_ne fq];exact M.lam,by rw [upd_ne cq];exact M.code⟩
  have tb1:TabsK X.K (upd H1 r (.lst [.ref f])):=TabsK.upd M.tabs fun o e=> by rw [nr] at e;cases e
  refine ⟨r,[.ref f],by rw [List.getElem?_set_self hσ],upd_same,hds,tb1,fun fs H' fl g l lk=> ?_⟩
  have bt:∀b o,H b=some o→NT o→H' b=some o:=fun b o e n=> by
    have nb:b≠r:=fun z=> by rw [z,hr0] at e;cases e
    exact g.but b o (by rw [upd_ne nb];exact b1 b o e n) n nb
  have th:∀b o,H b=some o→∃u,H' b=some u:=fun b o e=> by
    have nb:b≠r:=fun z=> by rw [z,hr0] at e;cases e
    obtain ⟨u,y⟩:=t1 b o e
    exact g.th b u (by rw [upd_ne nb];exact y)
  obtain ⟨S1,_⟩:=S.but bt th (gk▸g.tabs)
  have S2:BS G (env.set i none) h (σ.set i (some (.ref r))) H':=S1.junk
  refine q r (f::fs) _ H' S2 (by rw [l];rfl) n1 n2 fun pins s' I=> ?_
  obtain ⟨lb,gb⟩:=B.get
  refine ⟨by rw [List.length_cons,fl,List.length_map];exact lb,fun j f' sp x y=> ?_⟩
  rw [List.getElem?_map] at y
  cases et:(t0::ts)[j]? with
  | none=> rw [et] at y;cases y
  | some t=>
    rw [et] at y
    cases y
    have hj:j < ((⟨params,body,scope⟩:LamD)::ds).length:=by rw [lb];exact (List.getElem?_eq_some_iff.mp et).1
    have ed:=List.getElem?_eq_getElem hj
    have b:=gb j _ _ ed et
    have lfj:LamF X ((⟨params,body,scope⟩:LamD)::ds)[j] H' f':=by
      cases j with
      | zero=>
        simp at x
        subst x
        exact lf.grow upd_same g
      | succ j=> exact lk j f' _ (by simpa using x) (by simpa using ed)
    exact C1V gk I S2 lfj b.L b.bind hr b.body
end
end Ab
namespace Ab
open PySem PySem.Spec PyProof.Rows L2 LamX
theorem FnB.imp {P:Program} {w:World} {K:PySem.W.Frag} {mg:Str→Option Value} {base:Heap} {k:Nat} {H:Hp} {f:Addr} {sp sp':B8} (F:FnB P w K mg base k H f sp) (m:L6 sp') (i:∀ws h Q E,sp' ws h Q E→sp ws h Q E):FnB P w K mg base k H f sp':=
  ⟨m,F.fn,fun A outer s H2 Q E st hr e0 ⟨ws,h,Qa,Ea,a,b,c,d,q,r⟩=> F.run A outer s H2 Q E st hr e0 ⟨ws,h,Qa,Ea,a,b,c,d,i _ _ _ _ q,r⟩⟩
inductive Imps:List B8→List B8→Prop where
  | nil:Imps [] []
  | cons {sp sp':B8} {l l':List B8}:L6 sp'→(∀ws h Q E,sp' ws h Q E→sp ws h Q E)→Imps l l'→Imps (sp::l) (sp'::l')
theorem Imps.get {l l':List B8} (a:Imps l l'):l.length=l'.length∧∀(j:Nat) sp',l'[j]? =some sp'→∃sp,l[j]? =some sp∧L6 sp'∧∀ws h Q E,sp' ws h Q E→sp ws h Q E:=by
  induction a with
  | nil=> exact ⟨rfl,fun j s e=> by simp at e⟩
  | cons m i t ih=>
    refine ⟨by rw [List.length_cons,List.length_cons,ih.1],fun j s e=> ?_⟩
    cases j with
    | zero=> simp at e;subst e;exact ⟨_,rfl,m,i⟩
    | succ j=> simpa using ih.2 j s (by simpa using e)
theorem FnsB.imps {P:Program} {w:World} {K:PySem.W.Frag} {mg:Str→Option Value} {base:Heap} {k:Nat} {H:Hp} {fs:List Addr} {l l':List B8} (F:FnsB P w K mg base k H fs l) (a:Imps l l'):FnsB P w K mg base k H fs l':=by
  obtain ⟨e,g⟩:=a.get
  refine ⟨by rw [F.1,e],fun i f sp' x y=> ?_⟩
  obtain ⟨sp,z,m,im⟩:=g i sp' y
  exact (F.2 i f sp x z).imp m im
section
variable {P:Program} {w:World} {K:PySem.W.Frag} {mg:Str→Option Value} {base:Heap} {x:Str} {f:Addr} {fd:FuncData} {N ps:List Str} {k kl n:Nat} {st:Stmt} {ak:A3c} {u:ARS}
theorem AkOk.mk' (mono:∀ws h Q Q',(∀a b,Q a b→Q' a b)→ak ws h Q→ak ws h Q') (sm:∀ws h (R:List B8→AH→Prop),ak ws h R→ak ws h fun sps g=> (∀sp∈sps,L6 sp)∧R sps g)
    (hm:mg x=some (.ref f)) (F:FunD K x x (defArgs st) (defBody st) (defScope st) [] [] f fd) (S:FnScope N ps (defScope st)) (hn:ps.length=n)
    (lm:∀cdv,A3F K f cdv→MakesL K mg base (x++".<locals>."++"<lambda>") cdv)
    (hb:∀(cdv:Value) (A:Around) (outer:List Env) (s:Shared) (H:Hp) (E:XK) (G:Gx),MakesL K mg base (x++".<locals>."++"<lambda>") cdv→Room k (A.deeper (envOfC x (defScope st) s.heap.objs.size f cdv))→G.K=K→
      ASr (bx P w K mg base N x (defScope st) f cdv A outer s H E) kl G (defBody st) u)
    (hq:∀ws h Qa,ws.length=n→ak ws h Qa→u (fun sps _ h'=> ∃tps,Imps sps tps∧Qa tps h') (F8 N.length ws) h):AkOk P w K mg base x st kl (k+1) n ps ak:=by
  refine ⟨mono,sm,f,fd,hm,F,?_⟩
  obtain ⟨oc,od,dV,kV,doc,pm,an,cdv,ct,osl,rfl,lk,hcd,_,_⟩:=F.ex
  have len:∀vs H Q E,cAk P w K mg base kl n ak vs H Q E→vs.length=ps.length:=fun vs H Q E ⟨ws,h,Qa,hl,_,_,r,_⟩=> by rw [←r.length,hl,hn]
  refine ⟨len,fun A outer s H args us vs Q E hr e0 hbd r hsp=> ?_⟩
  have hl:=len _ _ _ _ hsp
  have KX:K.In s.heap:=e0.mod.kin.keeps fun b o e=> (e0.bs b o e).1
  have lim:s.heap.NoLimit:=e0.mod.nolimit.keeps fun b o e=> (e0.bs b o e).1
  have hkind:∀y∈ps.zip us,(defScope st).names.lookup y.1=some .local∨((defScope st).names.lookup y.1=some .cell∧((cellsFrom (s.heap.objs.size+1) (defScope st).names []).lookup y.1).isSome=true):=fun ⟨n,v⟩ hy=> by
    rcases S.par n (List.of_mem_zip hy).1 with q | q
    · exact .inl q
    · exact .inr ⟨q,PySem.W.cellsFrom_some _ _ _ (.inl q)⟩
  refine codeAny_call_function hr.depth (KX _ _ lk) rfl S.co S.gen rfl (PySem.W.codeRec_of KX hcd) (hbd _ _ _ _ ?_)
  refine wpAny_newFunctionEnv_cells S.kind hkind fun env he s1 xx=> ?_
  subst he
  refine ⟨lim.keeps xx.toInCall.keep,codeAny_func ?_⟩
  obtain ⟨ws,h,Qa,hwl,hp,tb,rl,q,kq⟩:=hsp
  have hwN:ws.length≤N.length:=by
    have z:=congrArg List.length S.pre
    rw [List.length_take] at z
    omega
  have I:Inv (cxOf (L2.CX P w) P w K mg base N x (defScope st) f cdv A outer s H E) [] (L2.start N vs) H s1:=inv_start S hr.hd e0 hl r xx
  have ht:=hb cdv A outer s H E ⟨K,h,H⟩ (lm cdv ⟨oc,od,_,osl,lk,rfl⟩) (hr.deeper _) rfl
  have S0:BS ⟨K,h,H⟩ (F8 N.length ws) h (L2.start N vs) H:=BS.begin hp tb rl hwN
  refine wpAny_mono (ht.ps.run [] s1 (L2.start N vs) H (fun v σ' H'=> ∀s',Inv (cxOf (L2.CX P w) P w K mg base N x (defScope st) f cdv A outer s H E) [] σ' H' s'→Q v (u9 (cxOf (L2.CX P w) P w K mg base N x (defScope st) f cdv A outer s H E) s' H')) I ⟨_,h,S0,ht.mono _ _ _ _ (fun sps env' h' ⟨tps,im,z⟩ p fs σ' H' S1 el n0 g0 fb s' J=> ?_) (hq ws h Qa hwl q)⟩) (fun fl s' hs=> ?_) fun e s' hs=> hs
  · obtain ⟨u,v,σ',H',rfl,J,rv,z⟩:=hs
    exact ⟨v,_,J.os,J.bare,B9G J (fun _=> rfl) rfl,B8y J,rv,z s' J⟩
  · have le:∀b o,H' b=some o→u9 (cxOf (L2.CX P w) P w K mg base N x (defScope st) f cdv A outer s H E) s' H' b=some o:=fun b o e=> A0P J e
    refine kq tps h' p fs _ z ⟨fun a o e=> ?_,fun b o e n y=> le _ _ (S1.fr b o e n y),S1.ext,fun b o e=> ?_,S1.tabs.keep fun a o e _=> le a o e⟩ (le _ _ el) n0 g0 ((fb _ s' J).imps im)
    · obtain ⟨u,eu,mu⟩:=(S1.hp a o e).there
      exact (S1.hp a o e).mono (fun b u q _=> le b u q) ((le a u eu).trans eu.symm)
    · obtain ⟨u,y⟩:=S1.tr b o e
      exact ⟨u,le b u y⟩
end
end Ab
namespace Ab
open PySem PySem.Spec PyProof.Rows L2 LamX
theorem FnsB.up {P:Program} {w:World} {K:PySem.W.Frag} {mg:Str→Option Value} {base:Heap} {k k':Nat} {H:Hp} {fs:List Addr} {sps:List B8} (h:k≤k') (F:FnsB P w K mg base k H fs sps):FnsB P w K mg base k' H fs sps:=⟨F.1,fun i f sp a b=> (F.2 i f sp a b).up h⟩
theorem AF.up {X:Cx} {k k':Nat} {G:Gx} {e:Expr} {t:AFT} (h:k≤k') (a:AF X k G e t):AF X k' G e t:=
  ⟨a.mono,a.sm,PE.imp a.pe fun σ H Q ⟨env,h0,S,q⟩=> ⟨env,h0,S,a.mono env h0 _ _ (fun sps e g z p fs H' S' x l F=> z p fs H' S' x l (F.up h)) q⟩⟩
section
variable {X:Cx} {G:Gx} {i:Nat} {y:Str} {py:Pos} {elt tg iter:Expr} {scope:Scope} {own:List (Str×Nat)} {pos spos:Pos} {tf:AFT} {te:Addr→B8→C3} {sl:List Nat} {kl j:Nat}
end
end Ab
namespace Ab
open PySem PySem.Spec PyProof.Rows L2
theorem B9n {n:String} {bm:List Value} (h:A97 n bm=true):∃B ii bmB,ExcBaseFacts B n ii bmB∧MroG bm bmB:=by
  unfold A97 at h
  rcases Bool.or_eq_true_iff.mp h with h | h
  · obtain ⟨a,b⟩:=Bool.and_eq_true_iff.mp h
    obtain rfl:=of_decide_eq_true a
    exact ⟨_,_,_,F.excBase_ValueError,A8V C3t _ b⟩
  rcases Bool.or_eq_true_iff.mp h with h | h
  · obtain ⟨a,b⟩:=Bool.and_eq_true_iff.mp h
    obtain rfl:=of_decide_eq_true a
    exact ⟨_,_,_,F.excBase_LookupError,A8V C3W _ b⟩
  · obtain ⟨a,b⟩:=Bool.and_eq_true_iff.mp h
    obtain rfl:=of_decide_eq_true a
    exact ⟨_,_,_,F.excBase_IndexError,A8V C3X _ b⟩
theorem C1Z {K:PySem.W.Frag} {C:Addr} (h:B0L K C=true):∃nm q N bs bm bmB B newId initId sn sub ab col dd k0 k1 k2 k3 k5,K.lookup C=some (excClassObj nm q C N bs bm true sn sub ab col dd k0 k1 k2 k3 k5 newId)∧ExcBaseFacts B newId initId bmB∧MroG bm bmB:=by
  unfold B0L at h
  split at h
  · rename_i t dd cd sl e
    obtain ⟨h1,h⟩:=Bool.and_eq_true_iff.mp h
    split at h
    · rename_i C' bm k0 k1 k2 k3 n k5 hm hs
      obtain ⟨h2,h⟩:=Bool.and_eq_true_iff.mp h
      obtain ⟨h3,h⟩:=Bool.and_eq_true_iff.mp h
      obtain ⟨h4,h5⟩:=Bool.and_eq_true_iff.mp h
      have h1:=of_decide_eq_true h1
      have h2:=of_decide_eq_true h2
      obtain ⟨B,ii,bmB,FB,M⟩:=B9n h3
      obtain ⟨nm,bs,mro,ns,qn,hd,sn,sub,ab,col,del⟩:=cd
      dsimp only at hm h4 h5
      have h4:del=false:=by simpa using h4
      subst h1 h2 hm h4 h5
      have es:sl=#[k0,k1,k2,k3,some (.builtin n),k5]:=by
        obtain ⟨l⟩:=sl
        simp only at hs
        rw [hs]
      subst es
      exact ⟨nm,qn,ns,bs,bm,bmB,B,n,ii,sn,sub,ab,col,dd,k0,k1,k2,k3,k5,e,FB,M⟩
    · cases h
  · cases h
structure XkF (K:PySem.W.Frag) (x:Str) (fs:List Str):Prop where
  cls:OexG K (He.ga K x)
  ini:PySem.W.findIn K (.ref (He.ga K x)) "__init__"=some (some (.ref (He.ma K (He.ga K x) "__init__")))
  fn:PySem.W.typeIn K (.ref (He.ma K (He.ga K x) "__init__"))=some (.type "function")
  xf:XfC K (He.ga K x)
  no:∀f∈("word":Str)::fs,PySem.W.findIn K (.ref (He.ga K x)) f=some none
theorem A05 {K:PySem.W.Frag} {x:Str} {fs:List Str} (h:v8 K x fs=true):XkF K x fs:=by
  unfold v8 at h
  obtain ⟨h1,h⟩:=Bool.and_eq_true_iff.mp h
  obtain ⟨h2,h⟩:=Bool.and_eq_true_iff.mp h
  obtain ⟨h3,h⟩:=Bool.and_eq_true_iff.mp h
  obtain ⟨h4,h⟩:=Bool.and_eq_true_iff.mp h
  obtain ⟨h5,h⟩:=Bool.and_eq_true_iff.mp h
  obtain ⟨h6,h⟩:=Bool.and_eq_true_iff.mp h
  obtain ⟨h7,h⟩:=Bool.and_eq_true_iff.mp h
  obtain ⟨h8,h9⟩:=Bool.and_eq_true_iff.mp h
  exact ⟨⟨C1Z h1,of_decide_eq_true h2,of_decide_eq_true h3,of_decide_eq_true h4,h5⟩,of_decide_eq_true h6,of_decide_eq_true h7,xfB_ok h8,fun f m=> of_decide_eq_true (List.all_eq_true.mp h9 f m)⟩
theorem A0x {K:PySem.W.Frag} {ks:List Str} {c:Str} (h:A0h K ks c=true):∀k∈ks,PySem.W.exmOne K (.ref (He.ga K k)) (.ref (He.ga K c))=some (K4 k c):=fun k m=> of_decide_eq_true (List.all_eq_true.mp h k m)
theorem A4m {K:PySem.W.Frag} {ks:List Str} {f:Str} (h:A3b K ks f=true):∀c∈ks,XfC K (He.ga K c)∧PySem.W.findIn K (.ref (He.ga K c)) f=some none:=fun c m=> by
  obtain ⟨a,b⟩:=Bool.and_eq_true_iff.mp (List.all_eq_true.mp h c m)
  exact ⟨xfB_ok a,of_decide_eq_true b⟩
theorem xk0 {P:Program} {w:World} {K:PySem.W.Frag} {mg:Str→Option Value} {base:Heap} {x qual word:Str} {params:Arguments} {scope:Scope} {fd:FuncData} {q1 q2 q3 q4:Pos} {j:Nat} (X:XkF K x []) (gl:mg x=some (.ref (He.ga K x)))
    (F:FunD K "__init__" qual params [.Assign [.Attribute (.Name "self" q1) "word" q2] (.Constant (.str word) j q3) q4] scope [] [] (He.ma K (He.ga K x) "__init__") fd) (S:FnScope ["self"] ["self"] scope)
    (bd:∀(kV doc pm:Value) (an:Option Addr) (cdv ct:Value) (us:List Value),us.length=1→bindArgs (PySem.W.fnOf "__init__" qual params [.Assign [.Attribute (.Name "self" q1) "word" q2] (.Constant (.str word) j q3) q4] scope .none kV doc pm an cdv ct) ⟨us,[]⟩=pure ((["self"]:List Str).zip us)):XkOk P w K mg base x word []:=
  ⟨gl,X.cls,_,fd,["self"],X.ini,X.fn,F.bindsN bd,C23 F S X.cls (X.no _ (by simp))⟩
theorem xk1 {P:Program} {w:World} {K:PySem.W.Frag} {mg:Str→Option Value} {base:Heap} {x qual word f:Str} {params:Arguments} {scope:Scope} {fd:FuncData} {q1 q2 q3 q4 q5 q6 q7 q8:Pos} {j:Nat} (X:XkF K x [f]) (gl:mg x=some (.ref (He.ga K x)))
    (F:FunD K "__init__" qual params [.Assign [.Attribute (.Name "self" q1) "word" q2] (.Constant (.str word) j q3) q4,.Assign [.Attribute (.Name "self" q5) f q6] (.Name f q7) q8] scope [] [] (He.ma K (He.ga K x) "__init__") fd) (S:FnScope ["self",f] ["self",f] scope)
    (bd:∀(kV doc pm:Value) (an:Option Addr) (cdv ct:Value) (us:List Value),us.length=2→bindArgs (PySem.W.fnOf "__init__" qual params [.Assign [.Attribute (.Name "self" q1) "word" q2] (.Constant (.str word) j q3) q4,.Assign [.Attribute (.Name "self" q5) f q6] (.Name f q7) q8] scope .none kV doc pm an cdv ct) ⟨us,[]⟩=pure ((["self",f]:List Str).zip us))
    (hd:(f==("__debug__":Str))=false:=by decide) (hcd:(f==("__classdict__":Str))=false:=by decide):XkOk P w K mg base x word [f]:=
  ⟨gl,X.cls,_,fd,["self",f],X.ini,X.fn,F.bindsN bd,C3Q F S X.cls (X.no _ (by simp)) (X.no _ (by simp)) hd hcd⟩
theorem xk2 {P:Program} {w:World} {K:PySem.W.Frag} {mg:Str→Option Value} {base:Heap} {x qual word f g:Str} {params:Arguments} {scope:Scope} {fd:FuncData} {q1 q2 q3 q4 q5 q6 q7 q8 r5 r6 r7 r8:Pos} {j:Nat} (X:XkF K x [f,g]) (gl:mg x=some (.ref (He.ga K x)))
    (F:FunD K "__init__" qual params [.Assign [.Attribute (.Name "self" q1) "word" q2] (.Constant (.str word) j q3) q4,.Assign [.Attribute (.Name "self" q5) f q6] (.Name f q7) q8,.Assign [.Attribute (.Name "self" r5) g r6] (.Name g r7) r8] scope [] [] (He.ma K (He.ga K x) "__init__") fd) (S:FnScope ["self",f,g] ["self",f,g] scope)
    (bd:∀(kV doc pm:Value) (an:Option Addr) (cdv ct:Value) (us:List Value),us.length=3→bindArgs (PySem.W.fnOf "__init__" qual params [.Assign [.Attribute (.Name "self" q1) "word" q2] (.Constant (.str word) j q3) q4,.Assign [.Attribute (.Name "self" q5) f q6] (.Name f q7) q8,.Assign [.Attribute (.Name "self" r5) g r6] (.Name g r7) r8] scope .none kV doc pm an cdv ct) ⟨us,[]⟩=pure ((["self",f,g]:List Str).zip us))
    (hd:(f==("__debug__":Str))=false:=by decide) (hcd:(f==("__classdict__":Str))=false:=by decide) (hd':(g==("__debug__":Str))=false:=by decide) (hcd':(g==("__classdict__":Str))=false:=by decide):XkOk P w K mg base x word [f,g]:=
  ⟨gl,X.cls,_,fd,["self",f,g],X.ini,X.fn,F.bindsN bd,C2z F S X.cls (X.no _ (by simp)) (X.no _ (by simp)) (X.no _ (by simp)) hd hcd hd' hcd'⟩
end Ab
namespace Ab
open PySem PySem.Spec PyProof.Rows L2
end Ab
namespace Ab
open PySem PySem.Spec PyProof.Rows L2 RZ
abbrev MC:=AH→(RR→AH→Prop)→(AExc→AH→Prop)→Prop
abbrev CE:=(SV→MC)→MC
abbrev CW:=(W→MC)→MC
abbrev CB:=(Bool→MC)→MC
abbrev CS:=(List SV→MC)→MC
abbrev C5:=(List W→MC)→MC
abbrev CO:=(Option Int→MC)→MC
def SV.fz:SV→W
  | .val w=> w
  | .own c=> c.fz
def SV.rr:SV→RR
  | .val w=> .val w
  | .own c=> .own c
def SV.rv:SV→RV
  | .val w=> .val w
  | .own c=> .own c
def RR.sv:RR→SV
  | .val w=> .val w
  | .own c=> .own c
def L5 (h:AH):SV→Vw
  | .val w=> viewW h w
  | .own c=> .cv c
def bad:MC:=fun _ _ _=> False
def F5 (p:Prop) (m:MC):MC:=fun h Q E=> p∧m h Q E
def ret (x:SV):MC:=fun h Q _=> Q x.rr h
def j9 (k:SV→MC):RV→MC
  | .val w=> k (.val w)
  | .own c=> k (.own c)
  | .slot _=> bad
def C4h:L7:=oII (fun _ _=> True) fun i j=> .int (i - j)
def T6:L7:=oII B5P fun i j=> .int (i % j)
def A1e:L7:=oII CDivW fun i j=> .int (i / j)
def A7W:L7:=oII CPow fun i j=> .int (i ^ j.toNat)
def oLt:L7:=oII (fun _ _=> True) fun i j=> .bl (decide (i < j))
def oLe:L7:=oII (fun _ _=> True) fun i j=> .bl (decide (i≤j))
def oGt:L7:=oII (fun _ _=> True) fun i j=> .bl (decide (j < i))
def oGe:L7:=oII (fun _ _=> True) fun i j=> .bl (decide (j≤i))
def B0H:L4:=oBls fun bs=> bs.any id
def A2l:L4:=oBls fun bs=> bs.all id
def C4C:L4:=o1I fun i=> if i < 0 then -i else i
def C3Y:L4:=o2I fun i j=> if j < i then j else i
def C3w:L4:=o2I fun i j=> if j > i then j else i
def eV (x:SV):CE:=fun k=> k x
def eC (w:W):CE:=fun k=> k (.val w)
def C9 (o:L7) (x y:SV) (k:SV→MC):MC:=fun h Q E=> o (L5 h x) (L5 h y) fun r=> j9 k r h Q E
def B5 (o:L7) (a b:CE):CE:=fun k=> a fun x=> b fun y=> C9 o x y k
def A1 (a:CE):CW:=fun k=> a fun x=> k x.fz
def B4:C5:=fun k=> k []
def A2 (a:CW) (b:C5):C5:=fun k=> a fun w=> b fun ws=> k (w::ws)
def B43 (ws:List W) (k:SV→MC):MC:=fun h Q E=> ∃(kvs:List (W×W)) (ks:List Key),ws=B0B kvs∧kvs.map (fun p=> A0f p.1)=ks.map some∧ks.Nodup∧kvs.length≤15∧k (.own (.map kvs)) h Q E
def C3d (a:C5):CE:=fun k=> a fun ws=> B43 ws k
def B5T (x:SV) (w d:W) (k:SV→MC):MC:=fun h Q E=> ∃kvs key,x= .own (.map kvs)∧B4s kvs∧A0f w=some key∧k (.val (B45 kvs key d)) h Q E
def C3D (x:SV) (mk md:CW):CE:=fun k=> fun h Q E=> (∃kvs,x= .own (.map kvs))∧(mk fun w=> md fun d=> B5T x w d k) h Q E
def H7 (a:C5):CE:=fun k=> a fun ws=> F5 (ws.length≤sizeLine) (k (.val (.tup ws)))
def L1 (a:C5):CE:=fun k=> a fun ws=> F5 (ws.length≤sizeLine) (k (.own (.seq ws)))
def R7 (x:SV) (k:Int→MC):MC:=fun h Q E=> match L5 h x with
  | .wv (.int i)=> k i h Q E
  | _=> False
def T7 (x:SV) (k:Bool→MC):MC:=fun h Q E=> match L5 h x with
  | .wv (.bl i)=> k i h Q E
  | _=> False
def oNo:CO:=fun k=> k none
def A7F (a:CE):CO:=fun k=> a fun x=> R7 x fun i=> k (some i)
def slc (x:SV) (l u:Option Int) (k:SV→MC):MC:=fun h Q E=> oSl (L5 h x) l u fun r=> j9 k r h Q E
def eSl (a:CE) (lo hi:CO):CE:=fun k=> a fun x=> lo fun l=> hi fun u=> slc x l u k
def H9:CS:=fun k=> k []
def F7 (a:CE) (b:CS):CS:=fun k=> a fun x=> b fun xs=> k (x::xs)
def cb (o:L4) (xs:List SV) (k:SV→MC):MC:=fun h Q E=> o (xs.map (L5 h)) fun r=> j9 k r h Q E
def I9 (o:L4) (a:CS):CE:=fun k=> a fun xs=> cb o xs k
def tYes:CB:=fun k=> k true
def G6 (a:CE):CB:=fun k=> a fun x=> T7 x k
def tAnd (a b:CB):CB:=fun k=> a fun x=> if x=true then b k else k false
def tOr (a b:CB):CB:=fun k=> a fun x=> if x=true then k true else b k
def A1A (a:CB):CB:=fun k=> a fun x=> k (!x)
def eIf (c:CB) (a b:CE):CE:=fun k=> c fun x=> if x=true then a k else b k
def A09 (a b:CE):CE:=fun k=> a fun x=> T7 x fun c=> if c=true then b k else k (.val (.bl false))
def eOr (a b:CE):CE:=fun k=> a fun x=> T7 x fun c=> if c=true then k (.val (.bl true)) else b k
def B0F (a:CE):CE:=fun k=> a fun x=> T7 x fun c=> k (.val (.bl (!c)))
def A3Y (a:CE):CE:=fun k=> a fun x=> R7 x fun i=> k (.val (.int (-i)))
def A07 (P P':Int→Int→Bool) (a b c:CE):CE:=fun k=> a fun x=> b fun y=> R7 x fun i=> R7 y fun j=>
  if P i j=true then c fun z=> R7 z fun l=> k (.val (.bl (P' j l))) else k (.val (.bl false))
def call (m:MC) (k:SV→MC):MC:=fun h Q E=> m h (fun r h'=> k r.sv h' Q E) E
def R1 (f:List W→MC) (a:C5):CE:=fun k=> a fun ws=> call (f ws) k
def call0 (m:MC) (k:SV→MC):MC:=fun h Q E=> m h (fun r h'=> k r.sv h' Q E) fun _ _=> False
def A3D (f:List W→MC) (a:C5):CE:=fun k=> a fun ws=> call0 (f ws) k
def A2g (x:AExc):MC:=fun h _ E=> E x h
def perm (p:List Nat) (ws:List W) (k:List W→MC):MC:=F5 (ws.length=p.length) (k (p.map fun i=> ws.getD i .non))
def C3o (p:List Nat) (a:C5):C5:=fun k=> a fun ws=> perm p ws k
def items (w:W) (k:List W→MC):MC:=match w with
  | .tup ws=> k ws
  | .lst ws=> k ws
  | _=> bad
def A3G (w:W) (k:List W→MC):MC:=match w with
  | .emp=> k []
  | w=> items w k
def A6w (a:CW):C5:=fun k=> a fun w=> items w k
def A7c (xs:List SV) (k:List W→MC):MC:=match xs with
  | [x]=> R7 x fun j=> F5 (-(2 ^ 62)≤j∧j < 2 ^ 62) (k (X2 0 j.toNat))
  | _=> bad
def B0c (xs:List SV) (k:List W→MC):MC:=match xs with
  | [x,y]=> R7 x fun i=> R7 y fun j=> F5 (-(2 ^ 62)≤i∧i < 2 ^ 62∧ -(2 ^ 62)≤j∧j < 2 ^ 62) (k (X2 i (j - i).toNat))
  | _=> bad
def A7M (a:CS):C5:=fun k=> a fun xs=> A7c xs k
def C3r (a:CS):C5:=fun k=> a fun xs=> B0c xs k
def A7f (ws:List W) (k:List W→MC):MC:=match ws with
  | [.tup xs,.tup ys]=> k (List.zipWith (fun a b=> W.tup [a,b]) xs ys)
  | [.lst xs,.lst ys]=> k (List.zipWith (fun a b=> W.tup [a,b]) xs ys)
  | _=> bad
def C4P (a:C5):C5:=fun k=> a fun ws=> A7f ws k
def A7I (a:CW):C5:=fun k=> a fun w=> A3G w fun ws=> k (U0 ws)
def enz (ws:List W) (k:List W→MC):MC:=match ws with
  | [a,b]=> items a fun xs=> items b fun ys=> k (ezW xs ys)
  | _=> bad
def C4R (a:C5):C5:=fun k=> a fun ws=> enz ws k
def un2 (w:W) (k:W→W→MC):MC:=match w with
  | .tup [a,b]=> k a b
  | _=> bad
def un3 (w:W) (k:W→W→W→MC):MC:=match w with
  | .tup [a,b,c]=> k a b c
  | _=> bad
def un5 (w:W) (k:W→W→W→W→W→MC):MC:=match w with
  | .tup [a,b,c,d,e]=> k a b c d e
  | _=> bad
def uq2 (w:W) (k:W→W→MC):MC:=items w fun ws=> match ws with
  | [a,b]=> k a b
  | _=> bad
def uq3 (w:W) (k:W→W→W→MC):MC:=items w fun ws=> match ws with
  | [a,b,c]=> k a b c
  | _=> bad
def uq4 (w:W) (k:W→W→W→W→MC):MC:=items w fun ws=> match ws with
  | [a,b,c,d]=> k a b c d
  | _=> bad
def uq5 (w:W) (k:W→W→W→W→W→MC):MC:=items w fun ws=> match ws with
  | [a,b,c,d,e]=> k a b c d e
  | _=> bad
def A5C (w:W) (k:W→SV→MC):MC:=items w fun ws=> match ws with
  | x::r=> k x (.own (.seq r))
  | _=> bad
def V4 (body:W→(Option W→MC)→MC) (k:List W→MC):List W→List W→MC
  | [],acc=> k acc
  | w::ws,acc=> body w fun o=> match o with
    | some y=> F5 (acc.length < sizeLine) (V4 body k ws (acc++[y]))
    | none=> V4 body k ws acc
def eLc (it:C5) (body:W→(Option W→MC)→MC):CE:=fun k=> it fun ws=> V4 body (fun acc=> k (.own (.seq acc))) ws []
def A2k {σ:Type} (body:W→σ→(σ→MC)→(σ→MC)→MC) (k:σ→MC):List W→σ→MC
  | [],s=> k s
  | w::ws,s=> body w s (A2k body k ws) k
def join {σ:Type} (k:σ→MC) (f:(σ→MC)→MC):MC:=f k
def SV.isSq (h:AH):SV→Prop
  | .own (.seq _)=> True
  | .val (.ref a)=> ∃xs,h a=some (.cont (.seq xs))
  | _=> False
def isq (x:SV) (m:MC):MC:=fun h Q E=> x.isSq h∧m h Q E
def lm (f:U3) (x:SV) (ws:List W) (k:SV→W→MC):MC:=fun h Q E=> match x with
  | .own (.seq xs)=> f xs ws fun xs' w=> k (.own (.seq xs')) w h Q E
  | .val (.ref a)=> (match h a with
    | some (.cont (.seq xs))=> f xs ws fun xs' w=> k (.val (.ref a)) w (D6 h a (.cont (.seq xs'))) Q E
    | _=> False)
  | _=> False
def ext (x y:SV) (k:SV→MC):MC:=fun h Q E=> match L5 h y with
  | .cv (.seq ys)=> (match x with
    | .own (.seq xs)=> xs.length+ys.length≤sizeLine∧k (.own (.seq (xs++ys))) h Q E
    | .val (.ref a)=> (match h a with
      | some (.cont (.seq xs))=> xs.length+ys.length≤sizeLine∧k (.val (.ref a)) (D6 h a (.cont (.seq (xs++ys)))) Q E
      | _=> False)
    | _=> False)
  | _=> False
def A1i (x y:SV) (w:W) (k:SV→MC):MC:=fun h Q E=> match L5 h y with
  | .wv (.int i)=> (match x with
    | .own (.seq xs)=> ∃j,ixN xs.length i=some j∧k (.own (.seq (xs.set j w))) h Q E
    | .val (.ref a)=> (match h a with
      | some (.cont (.seq xs))=> ∃j,ixN xs.length i=some j∧k (.val (.ref a)) (D6 h a (.cont (.seq (xs.set j w)))) Q E
      | _=> False)
    | _=> False)
  | _=> False
def B4r (f:Int→Int→Int) (x y:SV) (e:CE) (k:SV→MC):MC:=R7 y fun i=> F5 (0≤i∧i < 2 ^ 62) fun h Q E=> match x with
  | .own (.seq xs)=> (match xs[i.toNat]? with
    | some (.int a)=> e (fun z=> R7 z fun b=> k (.own (.seq (xs.set i.toNat (.int (f a b)))))) h Q E
    | _=> False)
  | .val (.ref p)=> (match h p with
    | some (.cont (.seq xs))=> (match xs[i.toNat]? with
      | some (.int a)=> e (fun z=> R7 z fun b=> fun h' Q E=> match h' p with
        | some (.cont (.seq ys))=> i.toNat < ys.length∧k (.val (.ref p)) (D6 h' p (.cont (.seq (ys.set i.toNat (.int (f a b)))))) Q E
        | _=> False) h Q E
      | _=> False)
    | _=> False)
  | _=> False
def B0O (x:SV) (k:SV→MC):MC:=R7 x fun n=> F5 (0≤n∧n≤16777216) (k (.own (.seq (X2 0 n.toNat))))
def C3j (a:CE):CE:=fun k=> a fun x=> B0O x k
def M2 (mc:CB) (m1 m2:MC):MC:=mc fun b=> if b=true then m1 else m2
def A7Y {σ:Type} (mi:C5) (s0:σ) (body:W→σ→(σ→MC)→(σ→MC)→MC) (k:σ→MC):MC:=mi fun ws=> A2k body k ws s0
def lmC (f:U3) (x:SV) (ma:C5) (k:SV→W→MC):MC:=isq x (ma fun ws=> lm f x ws k)
def B0R (x:SV) (m:CE) (k:SV→MC):MC:=isq x (m fun y=> ext x y k)
def o3 (mv:CW) (x:SV) (m:CE) (k:SV→MC):MC:=mv fun w=> m fun y=> A1i x y w k
def C26 (mv:CW) (x:SV) (m:CE) (m2:SV→CE) (k:SV→MC):MC:=mv fun w=> un2 w fun a b=> m fun y=> A1i x y a fun x1=> m2 x1 fun y2=> A1i x1 y2 b k
def C4N (f:Int→Int→Int) (x:SV) (m m2:CE) (k:SV→MC):MC:=m fun y=> B4r f x y m2 k
def pr2 (ws:List W) (k:W→W→MC):MC:=match ws with
  | [v,w]=> k v w
  | _=> bad
def C4O (ma:C5) (k:W→W→MC):MC:=ma fun ws=> pr2 ws k
def A7Q (mv:CW) (k:W→SV→MC):MC:=mv fun w=> A5C w k
def A5G (x:SV) (k:W→MC):MC:=fun h Q E=> match x with
  | .own c=> ∀p,h p=none→k (.ref p) (D6 h p (.cont c)) Q E
  | _=> False
def A5H (m:CE):CW:=fun k=> m fun x=> A5G x k
def lmR (f:U3) (x:SV) (ma:C5) (k:MC):MC:=fun h Q E=> match x with
  | .val (.ref p)=> (∃xs,h p=some (.cont (.seq xs)))∧(ma fun ws=> fun h2 Q E=> match h2 p with
    | some (.cont (.seq xs))=> f xs ws fun xs' _=> k (D6 h2 p (.cont (.seq xs'))) Q E
    | _=> False) h Q E
  | _=> False
def lmE (f:U3) (m:CE) (ma:C5) (k:MC):MC:=m fun x=> lmR f x ma k
def upc (f:List W→MC):B8:=fun ws h Q E=> ∃Q0 E0,(∀r k,Q0 r k→Q r k)∧(∀x k,E0 x k→E x k)∧f ws h Q0 E0
theorem upc.m {f:List W→MC}:L6 (upc f):=fun ws h Q Q' E E' k k' ⟨Q0,E0,a,b,z⟩=> ⟨Q0,E0,fun r h q=> k _ _ (a r h q),fun r h q=> k' _ _ (b r h q),z⟩
end Ab
namespace Ab
open PySem PySem.Spec PyProof.Rows L2 RZ
def Rl (env:A0):RV→SV→Prop
  | .val w,s=> s= .val w
  | .own c,s=> s= .own c
  | .slot i,s=> ∃c,s= .own c∧env[i]? =some (some (.own c))
theorem W7 {env:A0} {h:AH} {r:RV} {s:SV} (a:Rl env r s):view env h r=L5 h s:=by
  cases r with
  | val w=> cases a;rfl
  | own c=> cases a;rfl
  | slot i=> obtain ⟨c,rfl,e⟩:=a;show A9v env[i]? =_;rw [e];rfl
section
variable {Q:RR→AH→Prop} {E:AExc→AH→Prop} {env:A0}
def SE (Q:RR→AH→Prop) (E:AExc→AH→Prop) (env:A0) (t:AT) (m:CE):Prop:=∀h (k:SV→MC) (K:RV→A0→AH→Prop),(∀r s h',Rl env r s→k s h' Q E→K r env h')→m k h Q E→t env h K
def SN (Q:RR→AH→Prop) (E:AExc→AH→Prop) (env:A0) (t:AT) (m:CE):Prop:=∀h (k:SV→MC) (K:RV→A0→AH→Prop),(∀s h',k s h' Q E→K s.rv env h')→m k h Q E→t env h K
def SA {α:Type} (Q:RR→AH→Prop) (E:AExc→AH→Prop) (env:A0) (t:A0→AH→(α→A0→AH→Prop)→Prop) (m:(α→MC)→MC):Prop:=∀h (k:α→MC) (K:α→A0→AH→Prop),(∀s h',k s h' Q E→K s env h')→m k h Q E→t env h K
inductive Rls (env:A0):List RV→List SV→Prop where
  | nil:Rls env [] []
  | cons {r:RV} {rs:List RV} {s:SV} {ss:List SV}:Rl env r s→Rls env rs ss→Rls env (r::rs) (s::ss)
theorem B24 {h:AH} {rs:List RV} {ss:List SV} (a:Rls env rs ss):rs.map (view env h)=ss.map (L5 h):=by
  induction a with
  | nil=> rfl
  | cons a _ ih=> rw [List.map_cons,List.map_cons,W7 a,ih]
def SR (Q:RR→AH→Prop) (E:AExc→AH→Prop) (env:A0) (t:W1) (m:CS):Prop:=∀h (k:List SV→MC) (K:List RV→A0→AH→Prop),(∀r s h',Rls env r s→k s h' Q E→K r env h')→m k h Q E→t env h K
theorem C3O {s:SV}:Rl env s.rv s:=by cases s <;> rfl
variable {t t1 t2 t3:AT} {m m1 m2 m3:CE} {tv:C3} {mv:CW} {ta ta2:E5} {ma ma2:C5} {tb tb2:G7} {mb mb2:CB} {tr:W1} {mr:CS} {tl th:AOT} {ml mh:CO} {ti:U2} {mi:C5}
theorem SN.se (a:SN Q E env t m):SE Q E env t m:=fun h k K hk z=> a h k K (fun s h' z=> hk _ _ _ C3O z) z
theorem m6 {i:Nat} {x:SV} (e:env[i]? =some (some x)):SE Q E env (aVar i) (eV x):=fun h k K hk z=> by
  unfold aVar
  rw [e]
  cases x with
  | val w=> exact hk (.val w) (.val w) h rfl z
  | own c=> exact hk (.slot i) (.own c) h ⟨c,rfl,e⟩ z
theorem A8 {i:Nat} {w:W} (e:env[i]? =some (some (.val w))):SN Q E env (aVar i) (eV (.val w)):=fun h k K hk z=> by
  unfold aVar
  rw [e]
  exact hk (.val w) h z
theorem A6 {w:W}:SN Q E env (aC w) (eC w):=fun h k K hk z=> hk _ _ z
def d7 (o:L7):Prop:=∀a b Q Q',(∀r,Q r→Q' r)→o a b Q→o a b Q'
def A08 (o:L4):Prop:=∀as Q Q',(∀r,Q r→Q' r)→o as Q→o as Q'
theorem A3B {k:SV→MC} {K:RV→A0→AH→Prop} {h:AH} (hk:∀s h',k s h' Q E→K s.rv env h') (r:RV) (z:j9 k r h Q E):K r env h:=by
  cases r with
  | val w=> exact hk (.val w) h z
  | own c=> exact hk (.own c) h z
  | slot i=> exact z.elim
theorem B9 {o:L7} (om:d7 o) (a:SE Q E env t1 m1) (b:SE Q E env t2 m2):SN Q E env (aOp2 o t1 t2) (B5 o m1 m2):=fun h k K hk z=>
  a h _ _ (fun rx x h1 r1 z=> b h1 _ _ (fun ry y h2 r2 z=> by rw [W7 r1,W7 r2];exact om _ _ _ _ (fun r z=> A3B hk r z) z) z) z
theorem A4 (a:SN Q E env t m):SA Q E env (aFz t) (A1 m):=fun h k K hk z=> a h _ _ (fun s h' z=> by
  cases s with
  | val w=> exact hk _ _ z
  | own c=> exact hk _ _ z) z
theorem B6:SA Q E env aNil B4:=fun h k K hk z=> hk _ _ z
theorem A7 (a:SA Q E env tv mv) (b:SA Q E env ta ma):SA Q E env (aCons tv ta) (A2 mv ma):=fun h k K hk z=> a h _ _ (fun w h1 z=> b h1 _ _ (fun ws h2 z=> hk _ _ z) z) z
theorem M6 (a:SA Q E env ta ma):SN Q E env (aTup ta) (H7 ma):=fun h k K hk z=> a h _ _ (fun ws h1 z=> ⟨z.1,hk (.val _) _ z.2⟩) z
theorem P0 (a:SA Q E env ta ma):SN Q E env (aLst ta) (L1 ma):=fun h k K hk z=> a h _ _ (fun ws h1 z=> ⟨z.1,hk (.own _) _ z.2⟩) z
theorem B4T (a:SN Q E env t m):SA Q E env (aPrm t) (A5H m):=fun h k K hk z=> a h _ _ (fun s h' z=> by
  cases s with
  | val w=> exact z.elim
  | own c=> exact fun p n=> hk _ _ (z p n)) z
theorem A3H {x:SV} {k:Int→MC} {h:AH} (z:R7 x k h Q E):∃i,L5 h x= .wv (.int i)∧k i h Q E:=by
  unfold R7 at z
  split at z
  · rename_i i e;exact ⟨i,e,z⟩
  · exact z.elim
theorem A9f {x:SV} {k:Bool→MC} {h:AH} (z:T7 x k h Q E):∃i,L5 h x= .wv (.bl i)∧k i h Q E:=by
  unfold T7 at z
  split at z
  · rename_i i e;exact ⟨i,e,z⟩
  · exact z.elim
theorem B4y:SA Q E env A6a oNo:=fun h k K hk z=> hk _ _ z
theorem B3w (a:SE Q E env t m):SA Q E env (A61 t) (A7F m):=fun h k K hk z=> a h _ _ (fun r s h1 rl z=> by
  obtain ⟨i,e,z⟩:=A3H z
  rw [W7 rl,e]
  exact hk _ _ z) z
theorem B4q (a:SE Q E env t m) (b:SA Q E env tl ml) (c:SA Q E env th mh):SN Q E env (aSl t tl th) (eSl m ml mh):=fun h k K hk z=>
  a h _ _ (fun r s h1 rl z=> b h1 _ _ (fun l h2 z=> c h2 _ _ (fun u h3 z=> by rw [W7 rl];exact oSl.mono (fun r z=> A3B hk r z) z) z) z) z
theorem K7:SR Q E env I8 H9:=fun h k K hk z=> hk _ _ _ .nil z
theorem G3 (a:SE Q E env t m) (b:SR Q E env tr mr):SR Q E env (F9 t tr) (F7 m mr):=fun h k K hk z=> a h _ _ (fun r s h1 rl z=> b h1 _ _ (fun rs ss h2 rls z=> hk _ _ _ (.cons rl rls) z) z) z
theorem L0 {o:L4} (om:A08 o) (a:SR Q E env tr mr):SN Q E env (aCB o tr) (I9 o mr):=fun h k K hk z=> a h _ _ (fun rs ss h1 rl z=> by
  rw [B24 rl]
  exact om _ _ _ (fun r z=> A3B hk r z) z) z
theorem A3J:SA Q E env A1k tYes:=fun h k K hk z=> hk _ _ z
theorem I5 (a:SE Q E env t m):SA Q E env (aTst t) (G6 m):=fun h k K hk z=> a h _ _ (fun r s h1 rl z=> by
  obtain ⟨i,e,z⟩:=A9f z
  rw [W7 rl,e]
  exact hk _ _ z) z
theorem A2T {b:Bool} {A B:MC} {P R:Prop} {h:AH} (x:A h Q E→P) (y:B h Q E→R) (z:(if b=true then A else B) h Q E):if b=true then P else R:=by
  cases b with
  | true=> rw [if_pos rfl] at z ⊢;exact x z
  | false=> rw [if_neg Bool.false_ne_true] at z ⊢;exact y z
theorem C2j (a:SA Q E env tb mb) (b:SA Q E env tb2 mb2):SA Q E env (aAndT tb tb2) (tAnd mb mb2):=fun h k K hk z=> a h _ _ (fun x h1 z=> A2T (fun z=> b h1 _ _ hk z) (fun z=> hk _ _ z) z) z
theorem A4r (a:SA Q E env tb mb) (b:SA Q E env tb2 mb2):SA Q E env (aOrT tb tb2) (tOr mb mb2):=fun h k K hk z=> a h _ _ (fun x h1 z=> A2T (fun z=> hk _ _ z) (fun z=> b h1 _ _ hk z) z) z
theorem A2a (a:SA Q E env tb mb):SA Q E env (aNotT tb) (A1A mb):=fun h k K hk z=> a h _ _ (fun x h1 z=> hk _ _ z) z
theorem A40 (c:SA Q E env tb mb) (a:SN Q E env t1 m1) (b:SN Q E env t2 m2):SN Q E env (aIfE tb t1 t2) (eIf mb m1 m2):=fun h k K hk z=> c h _ _ (fun x h1 z=> A2T (fun z=> a h1 _ _ hk z) (fun z=> b h1 _ _ hk z) z) z
theorem A2d (a:SE Q E env t1 m1) (b:SN Q E env t2 m2):SN Q E env (A04 t1 t2) (A09 m1 m2):=fun h k K hk z=> a h _ _ (fun r s h1 rl z=> by
  obtain ⟨i,e,z⟩:=A9f z
  rw [W7 rl,e]
  exact A2T (fun z=> b h1 _ _ hk z) (fun z=> hk (.val _) _ z) z) z
theorem C2N (a:SE Q E env t1 m1):SN Q E env (A9u t1) (B0F m1):=fun h k K hk z=> a h _ _ (fun r s h1 rl z=> by
  obtain ⟨i,e,z⟩:=A9f z
  rw [W7 rl,e]
  exact hk (.val _) _ z) z
theorem A6o (a:SE Q E env t1 m1):SN Q E env (A3Z t1) (A3Y m1):=fun h k K hk z=> a h _ _ (fun r s h1 rl z=> by
  obtain ⟨i,e,z⟩:=A3H z
  rw [W7 rl,e]
  exact hk (.val _) _ z) z
theorem A2P {P P':Int→Int→Bool} (a:SE Q E env t1 m1) (b:SE Q E env t2 m2) (c:SE Q E env t3 m3):SN Q E env (aChn P P' t1 t2 t3) (A07 P P' m1 m2 m3):=fun h k K hk z=>
  a h _ _ (fun r s h1 rl z=> b h1 _ _ (fun r2 s2 h2 rl2 z=> by
    obtain ⟨i,e,z⟩:=A3H z
    obtain ⟨j,e2,z⟩:=A3H z
    rw [W7 rl,W7 rl2,e,e2]
    refine A2T (fun z=> c h2 _ _ (fun r3 s3 h3 rl3 z=> ?_) z) (fun z=> hk (.val _) _ z) z
    obtain ⟨l,e3,z⟩:=A3H z
    rw [W7 rl3,e3]
    exact hk (.val _) _ z) z) z
theorem B3z {E':AExc→A0→AH→Prop} {f:List W→MC} {ws:List W} {h:AH} {k:SV→MC} {K:RV→A0→AH→Prop} (hk:∀s h',k s h' Q E→K s.rv env h') (hE:∀x h,E x h→E' x env h) (z:call (f ws) k h Q E):
    upc f ws h (fun r h2=> match r with
  | .val w=> K (.val w) env h2
  | .own c=> K (.own c) env h2) fun x h2=> E' x env h2:=
  ⟨_,_,fun r h' z=> by cases r <;> exact hk _ _ z,hE,z⟩
theorem U6 {E':AExc→A0→AH→Prop} {f:List W→MC} (hE:∀x h,E x h→E' x env h) (a:SA Q E env ta ma):SN Q E env (aCall E' (upc f) ta) (R1 f ma):=fun h k K hk z=> a h _ _ (fun ws h1 z=> B3z hk hE z) z
theorem A6P {f:List W→MC} (a:SA Q E env ta ma):SN Q E env (aCall E0 (upc f) ta) (A3D f ma):=fun h k K hk z=> a h _ _ (fun ws h1 z=> ⟨_,_,fun r h' z=> by cases r <;> exact hk _ _ z,fun _ _ z=> z,z⟩) z
theorem A8m {w:W} {k:List W→MC} {h:AH} (z:items w k h Q E):∃ws,(w= .tup ws∨w= .lst ws)∧k ws h Q E:=by
  unfold items at z
  split at z
  · exact ⟨_,.inl rfl,z⟩
  · exact ⟨_,.inr rfl,z⟩
  · exact z.elim
theorem B2l (a:SA Q E env tv mv):SA Q E env (iSq tv) (A6w mv):=fun h k K hk z=> a h _ _ (fun w h1 z=> by
  obtain ⟨ws,e,z⟩:=A8m z
  rcases e with rfl | rfl <;> exact hk _ _ z) z
theorem B28 (a:SA Q E env tv mv):SA Q E env (iEn tv) (A7I mv):=fun h k K hk z=> a h _ _ (fun w h1 z=> by
  unfold A3G at z
  split at z
  · exact hk _ _ z
  · obtain ⟨ws,e,z⟩:=A8m z
    rcases e with rfl | rfl <;> exact hk _ _ z) z
theorem B26 (a:SR Q E env tr mr):SA Q E env (A7k tr) (A7M mr):=fun h k K hk z=> a h _ _ (fun rs ss h1 rl z=> by
  rw [B24 rl]
  unfold A7c at z
  split at z
  · obtain ⟨j,e,z⟩:=A3H z
    rw [List.map_cons,List.map_nil,e]
    exact ⟨z.1.1,z.1.2,hk _ _ z.2⟩
  · exact z.elim) z
def Gd (g:G5) (w:W) (env e1:A0):Prop:=∀h (K:A0→AH→Prop),K e1 h→g w env h K
theorem i8 {i:Nat} {w:W}:Gd (M5 i) w env (env.set i (some (.val w))):=fun h K k=> k
theorem B0V {g1 g2:G5} {a b:W} {e1 e2:A0} (d1:Gd g1 a env e1) (d2:Gd g2 b e1 e2):Gd (gTp 2 (A0w g1 (A0w g2 A42))) (.tup [a,b]) env e2:=fun h K k=>
  ⟨rfl,a,[b],rfl,d1 h _ ⟨b,[],rfl,d2 h _ ⟨rfl,k⟩⟩⟩
theorem A9B {w:W} {f:W→W→MC} {h:AH} (z:un2 w f h Q E):∃a b,w= .tup [a,b]∧f a b h Q E:=by
  unfold un2 at z
  split at z
  · exact ⟨_,_,rfl,z⟩
  · exact z.elim
theorem C0R {w:W} {f:W→SV→MC} {h:AH} (z:A5C w f h Q E):∃x r,(w= .tup (x::r)∨w= .lst (x::r))∧f x (.own (.seq r)) h Q E:=by
  obtain ⟨ws,e,z⟩:=A8m z
  split at z
  · exact ⟨_,_,e,z⟩
  · exact z.elim
def lcb (mt:CB) (me:CW) (kk:Option W→MC):MC:=mt fun b=> if b=true then me fun y=> kk (some y) else kk none
theorem A26 {vs:List Nat} {g:G5} {w:W} {e1:A0} (gd:Gd g w (P8 env vs) e1) (tst:SA Q E e1 tb mb) (elt:SA Q E e1 tv mv) (hm:mend env e1 vs=env) {h:AH} {kk:Option W→MC} {K1:W→A0→AH→Prop} {K0:A0→AH→Prop}
    (h1:∀y h',kk (some y) h' Q E→K1 y env h') (h0:∀h',kk none h' Q E→K0 env h') (z:lcb mb mv kk h Q E):
    g w (P8 env vs) h fun e1 h1=> tb e1 h1 fun b e2 h2=> if b=true then tv e2 h2 fun y e3 h3=> K1 y (mend env e3 vs) h3 else K0 (mend env e2 vs) h2:=
  gd h _ (tst h _ _ (fun b h2 z=> A2T (fun z=> elt h2 _ _ (fun y h3 z=> by rw [hm];exact h1 y h3 z) z) (fun z=> by rw [hm];exact h0 h2 z) z) z)
def LcB (Q:RR→AH→Prop) (E:AExc→AH→Prop) (env:A0) (vs:List Nat) (g:G5) (tt:G7) (te:C3) (mb:W→(Option W→MC)→MC):Prop:=
  ∀w h (kk:Option W→MC) (K1:W→A0→AH→Prop) (K0:A0→AH→Prop),(∀y h',kk (some y) h' Q E→K1 y env h')→(∀h',kk none h' Q E→K0 env h')→mb w kk h Q E→
    g w (P8 env vs) h fun e1 h1=> tt e1 h1 fun b e2 h2=> if b=true then te e2 h2 fun y e3 h3=> K1 y (mend env e3 vs) h3 else K0 (mend env e2 vs) h2
theorem A7L {vs:List Nat} {g:G5} {body:W→(Option W→MC)→MC} {k:List W→MC} {K:List W→A0→AH→Prop} (hk:∀acc h',k acc h' Q E→K acc env h') (b:LcB Q E env vs g tb tv body):
    ∀(ws acc:List W) (h:AH),V4 body k ws acc h Q E→lcLoop vs g tb tv K ws acc env h
  | [],acc,h,z=> hk acc h z
  | w::ws,acc,h,z=> b w h _ (fun y e3 h3=> acc.length < sizeLine∧lcLoop vs g tb tv K ws (acc++[y]) e3 h3) (fun e2 h2=> lcLoop vs g tb tv K ws acc e2 h2)
      (fun y h' z=> ⟨z.1,A7L hk b ws (acc++[y]) h' z.2⟩) (fun h' z=> A7L hk b ws acc h' z) z
theorem A7O {vs:List Nat} {g:G5} {body:W→(Option W→MC)→MC} (it:SA Q E env ti mi) (b:LcB Q E env vs g tb tv body):SN Q E env (o7 vs ti g tb tv) (eLc mi body):=fun h k K hk z=>
  it h _ _ (fun ws h1 z=> A7L (k:=fun acc=> k (.own (.seq acc))) (fun acc h' z=> hk (.own (.seq acc)) h' z) b ws [] h1 z) z
variable {D:AEnds} {s u:C0} {i j:Nat}
theorem D9 {mc:MC} (a:∀h,mc h Q E→s { D with nx:=u D } env h):∀h,mc h Q E→aSeq s u D env h:=a
theorem E3 {mc:MC} (a:∀h,mc h Q E→u D env h):∀h,mc h Q E→({ D with nx:=u D }:AEnds).nx env h:=a
theorem K8 (hr:∀r s env h,Rl env r s→Q s.rr h→D.rt r env h) (a:SE Q E env t m):∀h,(m ret) h Q E→I7 t D env h:=fun h z=> a h _ _ (fun r s h' rl z=> hr _ _ _ _ rl z) z
theorem u1 {k:SV→MC} (a:SE Q E env t m) (n:∀s h,k s h Q E→D.nx env h):∀h,(m k) h Q E→V1 t D env h:=fun h z=> a h _ _ (fun r s h' rl z=> n s h' z) z
theorem A9L {k:SV→MC} (e':SV→A0) (he:∀x,env.set i (some x)=e' x) (a:SN Q E env t m) (n:∀x h,k x h Q E→D.nx (e' x) h):∀h,(m k) h Q E→A5B i t D env h:=fun h z=> a h _ _ (fun s h' z=> by
  have q:=n s h' z
  rw [←he] at q
  cases s <;> exact q) z
theorem X0 {k:W→MC} (e':W→A0) (he:∀x,env.set i (some (.val x))=e' x) (a:SA Q E env tv mv) (n:∀x h,k x h Q E→D.nx (e' x) h):∀h,(mv k) h Q E→O2 tv (M5 i) D env h:=fun h z=> a h _ _ (fun s h' z=> by
  have q:=n s h' z
  rw [←he] at q
  exact q) z
theorem A66 {P R:AH→Prop} (h:AH) (z:P h) (f:∀h,P h→R h):R h:=f h z
theorem A6v {g:G5} {w:W} {e1:A0} (e2:A0) (gd:Gd g w env e1) (he:e1=e2):Gd g w env e2:=he▸gd
theorem B9a {vs:List Nat} {g:G5} {body:W→(Option W→MC)→MC} {k:SV→MC} (e':SV→A0) (he:∀x,env.set i (some x)=e' x) (it:SA Q E env ti mi) (b:LcB Q E env vs g tb tv body) (n:∀x h,k x h Q E→D.nx (e' x) h):∀h,(eLc mi body k) h Q E→A9a i (o7 vs ti g tb tv) D env h:=fun h z=>
  it h _ _ (fun ws h1 z=> A7L (k:=fun acc=> k (.own (.seq acc))) (fun acc h' z=> by
    have q:=n (.own (.seq acc)) h' z
    rw [←he] at q
    exact q) b ws [] h1 z) z
theorem B3k {k:W→SV→MC} (e':W→SV→A0) (he:∀v w,(env.set i (some (.val v))).set j (some w)=e' v w) (a:SA Q E env tv mv) (n:∀v w h,k v w h Q E→D.nx (e' v w) h):∀h,A7Q mv k h Q E→aStar i j tv D env h:=fun h z=> a h _ _ (fun w h' z=> by
  obtain ⟨x,r,e,z⟩:=C0R z
  have q:=n _ _ _ z
  rw [←he] at q
  rcases e with rfl | rfl <;> exact q) z
theorem N4 {c:G7} {mc:CB} {m1 m2:MC} (a:SA Q E env c mc) (x:∀h,m1 h Q E→s D env h) (y:∀h,m2 h Q E→u D env h):∀h,M2 mc m1 m2 h Q E→M9 c s u D env h:=fun h z=>
  a h _ _ (fun b h' z=> A2T (x h') (y h') z) z
theorem P5 {mc:MC} (n:∀h,mc h Q E→D.nx env h):∀h,mc h Q E→N7 D env h:=n
theorem A9X {x:SV} {mc:MC} (e':A0) (he:env.set i (some (.val x.fz))=e') (e:env[i]? =some (some x)) (a:∀h,mc h Q E→s D e' h):∀h,mc h Q E→aFrz i s D env h:=fun h z=> by
  have q:=a h z
  rw [←he] at q
  unfold aFrz
  rw [e]
  cases x with
  | own c=> exact q
  | val w=>
    obtain ⟨hi,e'⟩:=List.getElem?_eq_some_iff.mp e
    have:env.set i (some (SV.val (SV.val w).fz))=env:=by
      conv=> rhs;rw [←List.set_getElem_self (as:=env) hi]
      rw [e']
      rfl
    rw [this] at q
    exact q
theorem C1G {x:SV} {k:W→MC} (e':W→A0) (he:∀p,env.set i (some (.val p))=e' p) (e:env[i]? =some (some x)) (a:∀p h,k p h Q E→s D (e' p) h):∀h,A5G x k h Q E→A3N i s D env h:=fun h z=> by
  unfold A3N
  rw [e]
  cases x with
  | val w=> exact z.elim
  | own c=>
    intro p n
    have q:=a _ _ (z p n)
    rw [←he] at q
    exact q
theorem B3O {β J:Type} {kk:β→MC} {f:(β→MC)→MC} (envOf:β→J→A0) (r:∀b j h,kk b h Q E→u D (envOf b j) h)
    (b:(∀b j h,kk b h Q E→({ D with nx:=u D }:AEnds).nx (envOf b j) h)→∀h,f kk h Q E→s { D with nx:=u D } env h):∀h,join kk f h Q E→aSeq s u D env h:=b r
theorem B3N {σ J:Type} {g:G5} {tb:C0} {body:W→σ→(σ→MC)→(σ→MC)→MC} {k:σ→MC} (envOf:σ→J→A0) (r:∀s j h,k s h Q E→D.nx (envOf s j) h)
    (b:∀w s j (kn:σ→MC) (N:A0→AH→Prop),(∀s j h,kn s h Q E→N (envOf s j) h)→∀h,body w s kn k h Q E→g w (envOf s j) h fun e1 h1=> tb { D with nx:=N,ct:=N,bk:=D.nx } e1 h1):
    ∀ws s j h,A2k body k ws s h Q E→aLoop g tb D ws (envOf s j) h
  | [],s,j,h,z=> r s j h z
  | w::ws,s,j,h,z=> b w s j (A2k body k ws) (aLoop g tb D ws) (fun s j h z=> B3N envOf r b ws s j h z) h z
theorem B4k {σ J:Type} {g:G5} {tb:C0} {body:W→σ→(σ→MC)→(σ→MC)→MC} {k:σ→MC} (envOf:σ→J→A0) (s0:σ) (j0:J) (he:envOf s0 j0=env) (it:SA Q E env ti mi) (r:∀s j h,k s h Q E→D.nx (envOf s j) h)
    (b:(∀s j h,k s h Q E→D.nx (envOf s j) h)→∀w s j (kn:σ→MC) (N:A0→AH→Prop),(∀s j h,kn s h Q E→N (envOf s j) h)→∀h,body w s kn k h Q E→g w (envOf s j) h fun e1 h1=> tb { D with nx:=N,ct:=N,bk:=D.nx } e1 h1):
    ∀h,A7Y mi s0 body k h Q E→A7e ti g tb D env h:=fun h z=> it h _ _ (fun ws h' z=> he▸B3N envOf r (b r) ws s0 j0 h' z) z
theorem A9k {x:SV} (e:env[i]? =some (some x)):env.set i (some x)=env:=by
  obtain ⟨hi,e'⟩:=List.getElem?_eq_some_iff.mp e
  conv=> rhs;rw [←List.set_getElem_self (as:=env) hi]
  rw [e']
theorem A8v {x:SV} {h:AH} {K:RV→A0→AH→Prop} (e:env[i]? =some (some x)) (q:∀r,(∃c,x= .own c∧r= .slot i)∨(∃w,x= .val w∧r= .val w)→K r env h):aVar i env h K:=by
  unfold aVar
  rw [e]
  cases x with
  | val w=> exact q _ (.inr ⟨w,rfl,rfl⟩)
  | own c=> exact q _ (.inl ⟨c,rfl,rfl⟩)
theorem A6G {h:AH} {c:Cont} (e:env[i]? =some (some (.own c))):Q6 env h (.slot i)=some c:=by
  show (match env[i]? with
    | some (some (.own c))=> some c
    | _=> none)=_
  rw [e]
theorem A2I {h:AH} {p:Addr} {c:Cont} (e:h p=some (.cont c)):Q6 env h (.val (.ref p))=some c:=by
  show (match h p with
    | some (.cont c)=> some c
    | _=> none)=_
  rw [e]
def LmM (f:U3):Prop:=∀xs ws Q Q',(∀a b,Q a b→Q' a b)→f xs ws Q→f xs ws Q'
theorem C3z {f:U3} {x:SV} {k:SV→W→MC} {K:RV→A0→AH→Prop} (fm:LmM f) (e:env[i]? =some (some x)) (a:SA Q E env ta ma) (n:∀x' w h,k x' w h Q E→K (.val w) (env.set i (some x')) h):
    ∀h,lmC f x ma k h Q E→aLm f (aVar i) ta env h K:=fun h z=> by
  refine A8v e fun r hr=> ?_
  obtain ⟨zi,z⟩:=z
  rcases hr with ⟨c,rfl,rfl⟩ | ⟨w,rfl,rfl⟩
  · have pl:Q6 env h (.slot i)=some c:=A6G e
    cases c with
    | map kvs=> exact zi.elim
    | seq xs=>
      refine ⟨by rw [pl];trivial,a h _ _ (fun ws h2 z=> ?_) z⟩
      have pl:Q6 env h2 (.slot i)=some (.seq xs):=A6G e
      rw [pl]
      exact fm _ _ _ _ (fun xs' w z=> n _ _ _ z) z
  · cases w with
    | ref p=>
      obtain ⟨xs,ep⟩:=zi
      have pl:Q6 env h (.val (.ref p))=some (.seq xs):=A2I ep
      refine ⟨by rw [pl];trivial,a h _ _ (fun ws h2 z=> ?_) z⟩
      have z:(match h2 p with
        | some (.cont (.seq xs))=> f xs ws fun xs' w=> k (.val (.ref p)) w (D6 h2 p (.cont (.seq xs'))) Q E
        | _=> False):=z
      split at z
      · rename_i xs2 e2
        have pl:Q6 env h2 (.val (.ref p))=some (.seq xs2):=A2I e2
        rw [pl]
        refine fm _ _ _ _ (fun xs' w z=> ?_) z
        have q:=n _ _ _ z
        rw [A9k e] at q
        exact q
      · exact z.elim
    | _=> exact zi.elim
theorem A9w {f:U3} {x:SV} {k:SV→W→MC} (e':SV→A0) (he:∀x,env.set i (some x)=e' x) (fm:LmM f) (e:env[i]? =some (some x)) (a:SA Q E env ta ma) (n:∀x' w h,k x' w h Q E→D.nx (e' x') h):∀h,lmC f x ma k h Q E→V1 (aLm f (aVar i) ta) D env h:=
  C3z (K:=fun _ env1 h1=> D.nx env1 h1) fm e a (fun x' w h z=> by rw [he];exact n x' w h z)
theorem C14 {x:SV} {k:SV→MC} (e':SV→A0) (he:∀x,env.set i (some x)=e' x) (e:env[i]? =some (some x)) (a:SE Q E env t m) (n0:∀x' h,k x' h Q E→D.nx (e' x') h):∀h,B0R x m k h Q E→V1 (aExt (aVar i) t) D env h:=fun h z=> by
  have n:∀x' h,k x' h Q E→D.nx (env.set i (some x')) h:=fun x' h z=> by rw [he];exact n0 x' h z
  refine A8v (K:=fun ro env1 h1=> A9r (Q6 env1 h1 ro)∧t env1 h1 fun re env2 h2=> match view env2 h2 re with
    | .cv (.seq ys)=> (match Q6 env2 h2 ro with
      | some (.seq xs)=> xs.length+ys.length≤sizeLine∧D.nx (A0b env2 ro (.seq (xs++ys))) (A0a h2 ro (.seq (xs++ys)))
      | _=> False)
    | _=> False) e fun r hr=> ?_
  obtain ⟨zi,z⟩:=z
  rcases hr with ⟨c,rfl,rfl⟩ | ⟨w,rfl,rfl⟩
  · cases c with
    | map kvs=> exact zi.elim
    | seq xs=>
      have pl:∀h,Q6 env h (.slot i)=some (.seq xs):=fun h=> A6G e
      refine ⟨by rw [pl];trivial,a h _ _ (fun re y h2 rl z=> ?_) z⟩
      rw [W7 rl]
      unfold ext at z
      split at z
      · rename_i ys e1
        first | rw [pl,e1] | rw [pl]
        exact ⟨z.1,n _ _ z.2⟩
      · exact z.elim
  · cases w with
    | ref p=>
      obtain ⟨xs,ep⟩:=zi
      have pl:Q6 env h (.val (.ref p))=some (.seq xs):=A2I ep
      refine ⟨by rw [pl];trivial,a h _ _ (fun re y h2 rl z=> ?_) z⟩
      rw [W7 rl]
      unfold ext at z
      split at z
      · rename_i ys e1
        try rw [e1]
        have z:(match h2 p with
          | some (.cont (.seq xs))=> xs.length+ys.length≤sizeLine∧k (.val (.ref p)) (D6 h2 p (.cont (.seq (xs++ys)))) Q E
          | _=> False):=z
        split at z
        · rename_i xs2 e2
          have pl:Q6 env h2 (.val (.ref p))=some (.seq xs2):=A2I e2
          rw [pl]
          have q:=n _ _ z.2
          rw [A9k e] at q
          exact ⟨z.1,q⟩
        · exact z.elim
      · exact z.elim
    | _=> exact zi.elim
theorem A2F {x:SV} {k:SV→MC} (e':SV→A0) (he:∀x,env.set i (some x)=e' x) (a:SA Q E env tv mv) (e:env[i]? =some (some x)) (b:SE Q E env t m) (n0:∀x' h,k x' h Q E→D.nx (e' x') h):∀h,o3 mv x m k h Q E→O2 tv (A1E (aVar i) t) D env h:=fun h z=> have n:∀x' h,k x' h Q E→D.nx (env.set i (some x')) h:=fun x' h z=> by rw [he];exact n0 x' h z
  a h _ _ (fun w h1 z=> by
  refine A8v (K:=fun ro env1 h1=> t env1 h1 fun ri env2 h2=> match view env2 h2 ri with
    | .wv (.int k)=> match Q6 env2 h2 ro with
      | some (.seq xs)=> ∃j,ixN xs.length k=some j∧D.nx (A0b env2 ro (.seq (xs.set j w))) (A0a h2 ro (.seq (xs.set j w)))
      | _=> False
    | _=> False) e fun r hr=> b h1 _ _ (fun ri y h2 rl z=> ?_) z
  rw [W7 rl]
  unfold A1i at z
  split at z
  · rename_i q e1
    try rw [e1]
    rcases hr with ⟨c,rfl,rfl⟩ | ⟨v,rfl,rfl⟩
    · cases c with
      | map kvs=> exact z.elim
      | seq xs=>
        have pl:Q6 env h2 (.slot i)=some (.seq xs):=A6G e
        rw [pl]
        obtain ⟨j,ej,z⟩:=z
        exact ⟨j,ej,n _ _ z⟩
    · cases v with
      | ref p=>
        have z:(match h2 p with
          | some (.cont (.seq xs))=> ∃j,ixN xs.length q=some j∧k (.val (.ref p)) (D6 h2 p (.cont (.seq (xs.set j w)))) Q E
          | _=> False):=z
        split at z
        · rename_i xs2 e2
          have pl:Q6 env h2 (.val (.ref p))=some (.seq xs2):=A2I e2
          rw [pl]
          obtain ⟨j,ej,z⟩:=z
          have q:=n _ _ z
          rw [A9k e] at q
          exact ⟨j,ej,q⟩
        · exact z.elim
      | _=> exact z.elim
  · exact z.elim) z
theorem A2f:d7 T6:=fun _ _ _ _ k q=> oII.mono _ _ _ _ k q
theorem B36:d7 A1e:=fun _ _ _ _ k q=> oII.mono _ _ _ _ k q
theorem C1x:d7 A7W:=fun _ _ _ _ k q=> oII.mono _ _ _ _ k q
theorem A91:d7 oLt:=fun _ _ _ _ k q=> oII.mono _ _ _ _ k q
theorem B5A:d7 oGt:=fun _ _ _ _ k q=> oII.mono _ _ _ _ k q
theorem A9n:d7 oGe:=fun _ _ _ _ k q=> oII.mono _ _ _ _ k q
theorem T3:d7 oAdd:=oAdd.mono
theorem M0:d7 oIx:=oIx.mono
theorem l5:d7 oMulT:=oMulT.mono
theorem V0 {neg:Bool}:d7 (F0 neg):=fun a b Q Q' k q=> ⟨q.1,q.2.1,k _ q.2.2⟩
theorem A6u {neg:Bool}:d7 (O3 neg):=fun a b Q Q' k q=> ⟨q.1,q.2.1,k _ q.2.2⟩
theorem A9j {neg:Bool}:d7 (V9 neg):=fun a b Q Q' k ⟨xs,x,y,z,q⟩=> ⟨xs,x,y,z,k _ q⟩
theorem X9:A08 G4:=fun as Q Q' k q=> by
  unfold G4 at q ⊢
  split at q
  · exact ⟨q.1,k _ q.2⟩
  · exact k _ q
  · obtain ⟨xs,e,q⟩:=q
    exact ⟨xs,e,k _ q⟩
  · exact q
theorem C0C:A08 o0:=fun as Q Q' k q=> by
  unfold o0 at q ⊢
  split at q
  · obtain ⟨ns,e,q⟩:=q
    exact ⟨ns,e,k _ q⟩
  · exact q
theorem A9Q {g:List Bool→Bool}:A08 (oBls g):=oBls.mono
theorem u3:A08 F4:=fun as Q Q' k q=> by
  unfold F4 at q ⊢
  split at q
  · obtain ⟨n,b,e,f,q⟩:=q
    exact ⟨n,b,e,f,k _ q⟩
  · exact q
theorem C01:A08 d0:=fun as Q Q' k q=> by
  unfold d0 at q ⊢
  split at q
  · obtain ⟨xs,e,q⟩:=q
    exact ⟨xs,e,k _ q⟩
  · exact q
theorem A6e:A08 Q7:=fun as Q Q' k q=> by
  unfold Q7 at q ⊢
  split at q
  · obtain ⟨xs,e,q⟩:=q
    exact ⟨xs,e,k _ q⟩
  · exact q
theorem A8R:LmM k9:=fun xs ws Q Q' k q=> by
  unfold k9 at q ⊢
  split at q
  · exact ⟨q.1,k _ _ q.2⟩
  · exact q
variable {Q':RR→AH→Prop} {E':AExc→AH→Prop}
theorem P3 (hQ:∀r h,Q r h→Q' r h):∀r s env h,Rl env r s→Q s.rr h→(C2 Q').rt r env h:=fun r s env h rl q=> by
  refine ⟨h,fun _ _ e=> e,?_⟩
  cases r with
  | val w=> cases rl;exact hQ _ _ q
  | own w=> cases rl;exact hQ _ _ q
  | slot i=>
    obtain ⟨c,rfl,e⟩:=rl
    show (match env[i]? with
      | some (some (.val w))=> Q' (.val w) h
      | some (some (.own c))=> Q' (.own c) h
      | _=> False)
    rw [e]
    exact hQ _ _ q
theorem O9 (hE:∀x h,E x h→E' x h) (env:A0):∀x h,E x h→C7 E' x env h:=fun x h q=> ⟨h,fun _ _ e=> e,hE _ _ q⟩
theorem A2Q (hQ:∀r h,Q r h→Q' r h) (env:A0):∀h,(ret (.val .non)) h Q E→(C2 Q').nx env h:=fun h z=> ⟨h,fun _ _ e=> e,hQ _ _ z⟩
end
end Ab
namespace Ab
open PySem PySem.Spec PyProof.Rows L2 RZ
section
variable {Q:RR→AH→Prop} {E:AExc→AH→Prop} {h:AH}
@[simp] theorem C4 {x:SV} {k:SV→MC}:eV x k=k x:=rfl
@[simp] theorem D1 {x:W} {k:SV→MC}:eC x k=k (.val x):=rfl
@[simp] theorem E8 {o:L7} {a b:CE} {k:SV→MC}:B5 o a b k=a fun x=> b fun y=> C9 o x y k:=rfl
@[simp] theorem D5 {a:CE} {k:W→MC}:A1 a k=a fun x=> k x.fz:=rfl
@[simp] theorem E7 {k:List W→MC}:B4 k=k []:=rfl
@[simp] theorem E6 {a:CW} {b:C5} {k:List W→MC}:A2 a b k=a fun w=> b fun ws=> k (w::ws):=rfl
@[simp] theorem j3 {a:C5} {k:SV→MC}:H7 a k=a fun ws=> F5 (ws.length≤sizeLine) (k (.val (.tup ws))):=rfl
@[simp] theorem V7 {a:C5} {k:SV→MC}:L1 a k=a fun ws=> F5 (ws.length≤sizeLine) (k (.own (.seq ws))):=rfl
@[simp] theorem B42 {k:Option Int→MC}:oNo k=k none:=rfl
@[simp] theorem B3h {a:CE} {k:Option Int→MC}:A7F a k=a fun x=> R7 x fun i=> k (some i):=rfl
@[simp] theorem B5e {a:CE} {l u:CO} {k:SV→MC}:eSl a l u k=a fun x=> l fun l=> u fun u=> slc x l u k:=rfl
@[simp] theorem J9 {k:List SV→MC}:H9 k=k []:=rfl
@[simp] theorem J8 {a:CE} {b:CS} {k:List SV→MC}:F7 a b k=a fun w=> b fun ws=> k (w::ws):=rfl
@[simp] theorem K3 {o:L4} {a:CS} {k:SV→MC}:I9 o a k=a fun xs=> cb o xs k:=rfl
@[simp] theorem W9 {k:Bool→MC}:tYes k=k true:=rfl
@[simp] theorem H8 {a:CE} {k:Bool→MC}:G6 a k=a fun x=> T7 x k:=rfl
@[simp] theorem C1u {a b:CB} {k:Bool→MC}:tAnd a b k=a fun x=> if x=true then b k else k false:=rfl
@[simp] theorem d3 {a b:CB} {k:Bool→MC}:tOr a b k=a fun x=> if x=true then k true else b k:=rfl
@[simp] theorem m9 {a:CB} {k:Bool→MC}:A1A a k=a fun x=> k (!x):=rfl
@[simp] theorem v5 {c:CB} {a b:CE} {k:SV→MC}:eIf c a b k=c fun x=> if x=true then a k else b k:=rfl
@[simp] theorem Y7 {a b:CE} {k:SV→MC}:A09 a b k=a fun x=> T7 x fun c=> if c=true then b k else k (.val (.bl false)):=rfl
@[simp] theorem C7p {a b:CE} {k:SV→MC}:eOr a b k=a fun x=> T7 x fun c=> if c=true then k (.val (.bl true)) else b k:=rfl
@[simp] theorem A0Z {a:CE} {k:SV→MC}:B0F a k=a fun x=> T7 x fun c=> k (.val (.bl (!c))):=rfl
@[simp] theorem A4z {a:CE} {k:SV→MC}:A3Y a k=a fun x=> R7 x fun i=> k (.val (.int (-i))):=rfl
@[simp] theorem j4 {P P':Int→Int→Bool} {a b c:CE} {k:SV→MC}:A07 P P' a b c k=a fun x=> b fun y=> R7 x fun i=> R7 y fun j=>
  if P i j=true then c fun z=> R7 z fun l=> k (.val (.bl (P' j l))) else k (.val (.bl false)):=rfl
@[simp] theorem T8 {f:List W→MC} {a:C5} {k:SV→MC}:R1 f a k=a fun ws=> call (f ws) k:=rfl
@[simp] theorem c8 {f:List W→MC} {a:C5} {k:SV→MC}:A3D f a k=a fun ws=> call0 (f ws) k:=rfl
@[simp] theorem C5q {p:List Nat} {a:C5} {k:List W→MC}:C3o p a k=a fun ws=> perm p ws k:=rfl
@[simp] theorem A6E {a:CW} {k:List W→MC}:A6w a k=a fun w=> items w k:=rfl
@[simp] theorem t9 {a:CS} {k:List W→MC}:A7M a k=a fun w=> A7c w k:=rfl
@[simp] theorem C6O {a:CS} {k:List W→MC}:C3r a k=a fun w=> B0c w k:=rfl
@[simp] theorem C62 {a:C5} {k:List W→MC}:C4P a k=a fun w=> A7f w k:=rfl
@[simp] theorem B3R {a:CW} {k:List W→MC}:A7I a k=a fun w=> A3G w fun ws=> k (U0 ws):=rfl
@[simp] theorem C6v {a:C5} {k:List W→MC}:C4R a k=a fun ws=> enz ws k:=rfl
@[simp] theorem K9 {mc:CB} {m1 m2:MC}:M2 mc m1 m2=mc fun b=> if b=true then m1 else m2:=rfl
@[simp] theorem C6p {a:CE} {k:SV→MC}:C3j a k=a fun x=> B0O x k:=rfl
@[simp] theorem C7H {a:C5} {k:W→W→MC}:C4O a k=a fun ws=> pr2 ws k:=rfl
@[simp] theorem A2N {a:CW} {k:W→SV→MC}:A7Q a k=a fun w=> A5C w k:=rfl
@[simp] theorem A4k {mv:CW} {x:SV} {m:CE} {k:SV→MC}:o3 mv x m k=mv fun w=> m fun y=> A1i x y w k:=rfl
@[simp] theorem C6a {mv:CW} {x:SV} {m:CE} {m2:SV→CE} {k:SV→MC}:C26 mv x m m2 k=mv fun w=> un2 w fun a b=> m fun y=> A1i x y a fun x1=> m2 x1 fun y2=> A1i x1 y2 b k:=rfl
@[simp] theorem C7D {f:Int→Int→Int} {x:SV} {m m2:CE} {k:SV→MC}:C4N f x m m2 k=m fun y=> B4r f x y m2 k:=rfl
@[simp] theorem X1 {mt:CB} {me:CW} {kk:Option W→MC}:lcb mt me kk=mt fun b=> if b=true then me fun y=> kk (some y) else kk none:=rfl
@[simp] theorem Y8 {it:C5} {body:W→(Option W→MC)→MC} {k:SV→MC}:eLc it body k=it fun ws=> V4 body (fun acc=> k (.own (.seq acc))) ws []:=rfl
@[simp] theorem B4l {σ:Type} {mi:C5} {s0:σ} {body:W→σ→(σ→MC)→(σ→MC)→MC} {k:σ→MC}:A7Y mi s0 body k=mi fun ws=> A2k body k ws s0:=rfl
@[simp] theorem C6x {σ:Type} {k:σ→MC} {f:(σ→MC)→MC}:join k f=f k:=rfl
theorem B2Z:∀{as bs:List Char},as.map Char.toNat=bs.map Char.toNat→as=bs
  | [],[],_=> rfl
  | [],_::_,h=> by cases h
  | _::_,[],h=> by cases h
  | a::as,b::bs,h=> by
    rw [List.map_cons,List.map_cons] at h
    injection h with h1 h2
    rw [Char.toNat_inj.mp h1,B2Z h2]
@[simp] theorem A0t {a b:String}:(Str.ofString a=Str.ofString b)=(a=b):=by
  refine propext ⟨fun e=> ?_,fun e=> by rw [e]⟩
  rw [Str.ofString_eq_toList,Str.ofString_eq_toList] at e
  injection e with e
  have z:=B2Z (congrArg Array.toList e)
  exact String.toList_inj.mp z
@[simp] theorem C6 {w:W}:SV.fz (.val w)=w:=rfl
@[simp] theorem Q5 {ws:List W}:SV.fz (.own (.seq ws))= .lst ws:=rfl
@[simp] theorem C2u {w:W}:SV.rr (.val w)= .val w:=rfl
@[simp] theorem B4X {c:Cont}:SV.rr (.own c)= .own c:=rfl
@[simp] theorem A3I {w:W}:RR.sv (.val w)= .val w:=rfl
@[simp] theorem C1g {c:Cont}:RR.sv (.own c)= .own c:=rfl
theorem G9:sizeLine=16777216:=rfl
@[simp] theorem W8 {i:Int} {k:Int→MC}:R7 (.val (.int i)) k=k i:=rfl
@[simp] theorem F6 {i:Bool} {k:Bool→MC}:T7 (.val (.bl i)) k=k i:=rfl
@[simp] theorem B8h {ws:List W} {k:List W→MC}:items (.tup ws) k=k ws:=rfl
@[simp] theorem B75 {ws:List W} {k:List W→MC}:A3G (.tup ws) k=k ws:=rfl
@[simp] theorem B8S {ws:List W} {k:List W→MC}:A3G (.lst ws) k=k ws:=rfl
@[simp] theorem C5G {k:List W→MC}:A3G .emp k=k []:=rfl
@[simp] theorem A8W {ws:List W} {k:List W→MC}:items (.lst ws) k=k ws:=rfl
@[simp] theorem A84 {a b:W} {k:W→W→MC}:un2 (.tup [a,b]) k=k a b:=rfl
@[simp] theorem C6C {a b c:W} {k:W→W→W→MC}:un3 (.tup [a,b,c]) k=k a b c:=rfl
@[simp] theorem C5z {a b c d e:W} {k:W→W→W→W→W→MC}:un5 (.tup [a,b,c,d,e]) k=k a b c d e:=rfl
@[simp] theorem C6d {a b:W} {k:W→W→MC}:uq2 (.tup [a,b]) k=k a b:=rfl
@[simp] theorem C6T {a b c:W} {k:W→W→W→MC}:uq3 (.tup [a,b,c]) k=k a b c:=rfl
@[simp] theorem C5o {a b:W} {k:W→W→MC}:uq2 (.lst [a,b]) k=k a b:=rfl
@[simp] theorem C5r {a b c:W} {k:W→W→W→MC}:uq3 (.lst [a,b,c]) k=k a b c:=rfl
@[simp] theorem C6V {a b c d:W} {k:W→W→W→W→MC}:uq4 (.tup [a,b,c,d]) k=k a b c d:=rfl
@[simp] theorem C6Q {a b c d e:W} {k:W→W→W→W→W→MC}:uq5 (.tup [a,b,c,d,e]) k=k a b c d e:=rfl
@[simp] theorem A24 {x:W} {r:List W} {k:W→SV→MC}:A5C (.tup (x::r)) k=k x (.own (.seq r)):=rfl
@[simp] theorem A23 {x:W} {r:List W} {k:W→SV→MC}:A5C (.lst (x::r)) k=k x (.own (.seq r)):=rfl
@[simp] theorem C7U {x y:W} {k:W→W→MC}:pr2 [x,y] k=k x y:=rfl
@[simp] theorem C5g {xs ys:List W} {k:List W→MC}:A7f [.tup xs,.tup ys] k=k (List.zipWith (fun a b=> W.tup [a,b]) xs ys):=rfl
@[simp] theorem C5e {xs ys:List W} {k:List W→MC}:A7f [.lst xs,.lst ys] k=k (List.zipWith (fun a b=> W.tup [a,b]) xs ys):=rfl
@[simp] theorem C7X {a b:W} {k:List W→MC}:enz [a,b] k=items a fun xs=> items b fun ys=> k (ezW xs ys):=rfl
@[simp] theorem A4W {j:Int} {k:List W→MC}:A7c [.val (.int j)] k=F5 (-(2 ^ 62)≤j∧j < 2 ^ 62) (k (X2 0 j.toNat)):=rfl
@[simp] theorem C5X {i j:Int} {k:List W→MC}:B0c [.val (.int i),.val (.int j)] k=F5 (-(2 ^ 62)≤i∧i < 2 ^ 62∧ -(2 ^ 62)≤j∧j < 2 ^ 62) (k (X2 i (j - i).toNat)):=rfl
@[simp] theorem C5O {n:Int} {k:SV→MC}:B0O (.val (.int n)) k=F5 (0≤n∧n≤16777216) (k (.own (.seq (X2 0 n.toNat)))):=rfl
theorem G2 {p:Prop} {m:MC} (hp:p):F5 p m=m:=by funext h Q E;exact propext ⟨fun z=> z.2,fun z=> ⟨hp,z⟩⟩
@[simp] theorem T5 {m:MC}:F5 True m=m:=G2 trivial
theorem A1c {p:Prop} {m:MC}:F5 p m h Q E=(p∧m h Q E):=rfl
@[simp] theorem A9R {x:SV}:ret x h Q E=Q x.rr h:=rfl
@[simp] theorem A4S {x:AExc}:A2g x h Q E=E x h:=rfl
@[simp] theorem S8 {x:SV} {k:SV→MC}:call (ret x) k=k x:=by cases x <;> rfl
@[simp] theorem A4Q {x:SV} {k:SV→MC}:call0 (ret x) k=k x:=by cases x <;> rfl
@[simp] theorem C5F {x:AExc} {k:SV→MC}:call (A2g x) k=A2g x:=rfl
theorem A4q {p:Prop}:(True∧p)=p:=by simp
@[simp] theorem C7q {a:W} {k:List W→MC}:perm [0] [a] k=k [a]:=G2 rfl
@[simp] theorem C7f {a b:W} {k:List W→MC}:perm [0,1] [a,b] k=k [a,b]:=G2 rfl
@[simp] theorem C7o {a b:W} {k:List W→MC}:perm [1,0] [a,b] k=k [b,a]:=G2 rfl
@[simp] theorem C6t {a b c:W} {k:List W→MC}:perm [0,1,2] [a,b,c] k=k [a,b,c]:=G2 rfl
@[simp] theorem C67 {a b c:W} {k:List W→MC}:perm [0,2,1] [a,b,c] k=k [a,c,b]:=G2 rfl
@[simp] theorem C7C {a b c:W} {k:List W→MC}:perm [1,0,2] [a,b,c] k=k [b,a,c]:=G2 rfl
@[simp] theorem C6r {a b c:W} {k:List W→MC}:perm [1,2,0] [a,b,c] k=k [b,c,a]:=G2 rfl
@[simp] theorem C6s {a b c:W} {k:List W→MC}:perm [2,0,1] [a,b,c] k=k [c,a,b]:=G2 rfl
@[simp] theorem C7I {a b c:W} {k:List W→MC}:perm [2,1,0] [a,b,c] k=k [c,b,a]:=G2 rfl
@[simp] theorem C6R {a b c d:W} {k:List W→MC}:perm [0,1,2,3] [a,b,c,d] k=k [a,b,c,d]:=G2 rfl
@[simp] theorem C6N {a b c d:W} {k:List W→MC}:perm [0,1,3,2] [a,b,c,d] k=k [a,b,d,c]:=G2 rfl
@[simp] theorem C6I {a b c d:W} {k:List W→MC}:perm [0,2,1,3] [a,b,c,d] k=k [a,c,b,d]:=G2 rfl
@[simp] theorem C53 {a b c d:W} {k:List W→MC}:perm [0,2,3,1] [a,b,c,d] k=k [a,c,d,b]:=G2 rfl
@[simp] theorem C6Y {a b c d:W} {k:List W→MC}:perm [0,3,1,2] [a,b,c,d] k=k [a,d,b,c]:=G2 rfl
@[simp] theorem C6M {a b c d:W} {k:List W→MC}:perm [0,3,2,1] [a,b,c,d] k=k [a,d,c,b]:=G2 rfl
@[simp] theorem C6j {a b c d:W} {k:List W→MC}:perm [1,0,2,3] [a,b,c,d] k=k [b,a,c,d]:=G2 rfl
@[simp] theorem C5s {a b c d:W} {k:List W→MC}:perm [1,0,3,2] [a,b,c,d] k=k [b,a,d,c]:=G2 rfl
@[simp] theorem C6A {a b c d:W} {k:List W→MC}:perm [1,2,0,3] [a,b,c,d] k=k [b,c,a,d]:=G2 rfl
@[simp] theorem C6H {a b c d:W} {k:List W→MC}:perm [1,2,3,0] [a,b,c,d] k=k [b,c,d,a]:=G2 rfl
@[simp] theorem C5p {a b c d:W} {k:List W→MC}:perm [1,3,0,2] [a,b,c,d] k=k [b,d,a,c]:=G2 rfl
@[simp] theorem C6B {a b c d:W} {k:List W→MC}:perm [1,3,2,0] [a,b,c,d] k=k [b,d,c,a]:=G2 rfl
@[simp] theorem C5n {a b c d:W} {k:List W→MC}:perm [2,0,1,3] [a,b,c,d] k=k [c,a,b,d]:=G2 rfl
@[simp] theorem C58 {a b c d:W} {k:List W→MC}:perm [2,0,3,1] [a,b,c,d] k=k [c,a,d,b]:=G2 rfl
@[simp] theorem C5u {a b c d:W} {k:List W→MC}:perm [2,1,0,3] [a,b,c,d] k=k [c,b,a,d]:=G2 rfl
@[simp] theorem C6G {a b c d:W} {k:List W→MC}:perm [2,1,3,0] [a,b,c,d] k=k [c,b,d,a]:=G2 rfl
@[simp] theorem C56 {a b c d:W} {k:List W→MC}:perm [2,3,0,1] [a,b,c,d] k=k [c,d,a,b]:=G2 rfl
@[simp] theorem C5k {a b c d:W} {k:List W→MC}:perm [2,3,1,0] [a,b,c,d] k=k [c,d,b,a]:=G2 rfl
@[simp] theorem C6L {a b c d:W} {k:List W→MC}:perm [3,0,1,2] [a,b,c,d] k=k [d,a,b,c]:=G2 rfl
@[simp] theorem C6E {a b c d:W} {k:List W→MC}:perm [3,0,2,1] [a,b,c,d] k=k [d,a,c,b]:=G2 rfl
@[simp] theorem C5t {a b c d:W} {k:List W→MC}:perm [3,1,0,2] [a,b,c,d] k=k [d,b,a,c]:=G2 rfl
@[simp] theorem C6P {a b c d:W} {k:List W→MC}:perm [3,1,2,0] [a,b,c,d] k=k [d,b,c,a]:=G2 rfl
@[simp] theorem C57 {a b c d:W} {k:List W→MC}:perm [3,2,0,1] [a,b,c,d] k=k [d,c,a,b]:=G2 rfl
@[simp] theorem C6e {a b c d:W} {k:List W→MC}:perm [3,2,1,0] [a,b,c,d] k=k [d,c,b,a]:=G2 rfl
section
variable {i j:Int} {k:SV→MC} {xs ys:List W}
@[simp] theorem C7n:C9 C4h (.val (.int i)) (.val (.int j)) k=k (.val (.int (i - j))):=by funext h Q E;exact A4q
@[simp] theorem B0Y:C9 oLt (.val (.int i)) (.val (.int j)) k=k (.val (.bl (decide (i < j)))):=by funext h Q E;exact A4q
@[simp] theorem C7r:C9 oLe (.val (.int i)) (.val (.int j)) k=k (.val (.bl (decide (i≤j)))):=by funext h Q E;exact A4q
@[simp] theorem B0P:C9 oGt (.val (.int i)) (.val (.int j)) k=k (.val (.bl (decide (j < i)))):=by funext h Q E;exact A4q
@[simp] theorem B0d:C9 oGe (.val (.int i)) (.val (.int j)) k=k (.val (.bl (decide (j≤i)))):=by funext h Q E;exact A4q
@[simp] theorem A6y:C9 T6 (.val (.int i)) (.val (.int j)) k=F5 (0 < j) (k (.val (.int (i % j)))):=rfl
@[simp] theorem B4d:C9 A1e (.val (.int i)) (.val (.int j)) k=F5 (CDivW i j) (k (.val (.int (i / j)))):=rfl
@[simp] theorem C3l:C9 A7W (.val (.int i)) (.val (.int j)) k=F5 (CPow i j) (k (.val (.int (i ^ j.toNat)))):=rfl
@[simp] theorem A7N:C9 oMulT (.val (.int i)) (.val (.int j)) k=F5 (CMulW i j) (k (.val (.int (i*j)))):=rfl
@[simp] theorem B40:C9 oMulT (.own (.seq xs)) (.val (.int j)) k=F5 (-(2 ^ 63)≤j∧j < 2 ^ 63∧xs.length*j.toNat≤sizeLine) (k (.own (.seq (List.replicate j.toNat xs).flatten))):=rfl
@[simp] theorem C6o:C9 oMulT (.val (.tup xs)) (.val (.int j)) k=F5 (-(2 ^ 63)≤j∧j≤1000∧1≤xs.length∧xs.length≤1000) (k (.val (.tup (List.replicate j.toNat xs).flatten))):=rfl
@[simp] theorem A0T:C9 oAdd (.val (.int i)) (.val (.int j)) k=k (.val (.int (i+j))):=rfl
@[simp] theorem C68 {x y:Str}:C9 oAdd (.val (.str x)) (.val (.str y)) k=F5 (x.length+y.length≤sizeLine) (k (.val (.str (x++y)))):=rfl
@[simp] theorem B4U:C9 oAdd (.val (.tup xs)) (.val (.tup ys)) k=F5 (xs.length+ys.length≤sizeLine) (k (.val (.tup (xs++ys)))):=rfl
@[simp] theorem C50:C9 oAdd (.val (.lst xs)) (.val (.lst ys)) k=F5 (xs.length+ys.length≤sizeLine) (k (.own (.seq (xs++ys)))):=rfl
@[simp] theorem B32:C9 oAdd (.val (.lst xs)) (.own (.seq ys)) k=F5 (xs.length+ys.length≤sizeLine) (k (.own (.seq (xs++ys)))):=rfl
@[simp] theorem C6S:C9 oAdd (.own (.seq xs)) (.val (.lst ys)) k=F5 (xs.length+ys.length≤sizeLine) (k (.own (.seq (xs++ys)))):=rfl
@[simp] theorem A81:C9 oAdd (.own (.seq xs)) (.own (.seq ys)) k=F5 (xs.length+ys.length≤sizeLine) (k (.own (.seq (xs++ys)))):=rfl
def W0 (xs:List W) (i:Int) (k:W→MC):MC:=match L2.atI xs i with
  | some w=> k w
  | none=> bad
theorem B2m {v:Vw} {i:Int} {Q:RV→Prop} (hv:v.items=some xs) (hs:∀x,v≠ .wv (.str x)):oIx v (.wv (.int i)) Q=match L2.atI xs i with
  | some w=> Q (.val w)
  | none=> False:=by
  rw [C4W]
  have z:ixK v i Q=match L2.atI xs i with
    | some w=> Q (.val w)
    | none=> False:=by
    unfold ixK
    rw [hv]
    rfl
  cases v with
  | wv w=> cases w with
    | str x=> exact absurd rfl (hs x)
    | _=> exact z
  | _=> exact z
theorem A9N {x:SV} {v:Vw} (e:∀h,L5 h x=v) (hv:v.items=some xs) (hs:∀x,v≠ .wv (.str x)):C9 oIx x (.val (.int i)) k=W0 xs i fun w=> k (.val w):=by
  funext h Q E
  show oIx (L5 h x) (.wv (.int i)) _=_
  rw [e,B2m hv hs]
  unfold W0
  cases L2.atI xs i <;> rfl
@[simp] theorem R6:C9 oIx (.val (.tup xs)) (.val (.int i)) k=W0 xs i fun w=> k (.val w):=A9N (v:= .wv (.tup xs)) (fun _=> rfl) rfl (fun _ z=> by cases z)
@[simp] theorem A3U:C9 oIx (.val (.lst xs)) (.val (.int i)) k=W0 xs i fun w=> k (.val w):=A9N (v:= .wv (.lst xs)) (fun _=> rfl) rfl (fun _ z=> by cases z)
@[simp] theorem C7g:C9 oIx (.own (.seq xs)) (.val (.int i)) k=W0 xs i fun w=> k (.val w):=A9N (v:= .cv (.seq xs)) (fun _=> rfl) rfl (fun _ z=> by cases z)
theorem A2x {k:W→MC} {w:W} (e:L2.atI xs i=some w):W0 xs i k=k w:=by unfold W0;rw [e]
@[simp] theorem f9 {k:W→MC} {w:W}:W0 (w::xs) 0 k=k w:=A2x C4e
@[simp] theorem A0S {k:W→MC} {w v:W}:W0 (w::v::xs) 1 k=k v:=A2x C4U
@[simp] theorem A3V {k:W→MC} {w v u:W}:W0 (w::v::u::xs) 2 k=k u:=A2x C39
@[simp] theorem A9z {k:W→MC} {w v u t:W}:W0 (w::v::u::t::xs) 3 k=k t:=A2x (atI_nat (j:=3) rfl)
@[simp] theorem B5O {k:W→MC} {w v u t s:W}:W0 (w::v::u::t::s::xs) 4 k=k s:=A2x (atI_nat (j:=4) rfl)
theorem A6d {k:W→MC} {n:Nat} (hn:n < xs.length):W0 xs (n:Int) k=k xs[n]:=A2x (atI_nat (List.getElem?_eq_getElem hn))
theorem A6Y {α:Type} {e:α→W} {l:List α} {k:W→MC} {n:Nat} (hn:n < l.length):W0 (l.map e) (n:Int) k=k (e l[n]):=by
  rw [A6d (by rw [List.length_map];exact hn),List.getElem_map]
@[simp] theorem C7i {l u:Option Int}:slc (.val (.tup xs)) l u k=k (.val (.tup (j7 xs l u))):=rfl
@[simp] theorem B5B {l u:Option Int}:slc (.val (.lst xs)) l u k=k (.own (.seq (j7 xs l u))):=rfl
@[simp] theorem C7Y {l u:Option Int}:slc (.own (.seq xs)) l u k=k (.own (.seq (j7 xs l u))):=rfl
section
variable {w:W} {k1:SV→W→MC}
theorem B31 {m:MC}:isq (.own (.seq xs)) m=m:=G2 trivial
@[simp] theorem B3g {m:CE}:B0R (.own (.seq xs)) m k=m fun y=> ext (.own (.seq xs)) y k:=B31
@[simp] theorem C2B:ext (.own (.seq xs)) (.own (.seq ys)) k=F5 (xs.length+ys.length≤sizeLine) (k (.own (.seq (xs++ys)))):=rfl
@[simp] theorem A6l {f:U3} {ma:C5}:lmC f (.own (.seq xs)) ma k1=ma fun ws=> lm f (.own (.seq xs)) ws k1:=B31
@[simp] theorem A5y:lm k9 (.own (.seq xs)) [w] k1=F5 (xs.length < sizeLine) (k1 (.own (.seq (xs++[w]))) .non):=rfl
end
@[simp] theorem Y5:cb G4 [.val (.tup xs)] k=k (.val (.int xs.length)):=by
  funext h Q E;show G4 [.wv (.tup xs)] _=_;rw [A69];rfl
@[simp] theorem C6i:cb G4 [.val .emp] k=k (.val (.int 0)):=rfl
@[simp] theorem A6j:cb G4 [.val (.lst xs)] k=k (.val (.int xs.length)):=by
  funext h Q E;show G4 [.wv (.lst xs)] _=_;rw [A69];rfl
@[simp] theorem C1r:cb G4 [.own (.seq xs)] k=k (.val (.int xs.length)):=by
  funext h Q E;show G4 [.cv (.seq xs)] _=_;rw [A69];rfl
@[simp] theorem A9V {x:Str}:cb G4 [.val (.str x)] k=F5 (x.length≤sizeLine) (k (.val (.int x.length))):=by
  funext h Q E;show G4 [.wv (.str x)] _=_;rw [A69];rfl
@[simp] theorem C61 {a:C5} {k:SV→MC}:C3d a k=a fun ws=> B43 ws k:=rfl
@[simp] theorem C63 {kvs:List (W×W)} {a b:CW} {k:SV→MC}:C3D (.own (.map kvs)) a b k=a fun w=> b fun d=> B5T (.own (.map kvs)) w d k:=by
  funext h Q E
  exact propext ⟨fun z=> z.2,fun z=> ⟨⟨kvs,rfl⟩,z⟩⟩
@[simp] theorem C7m {m:CE} {k:W→MC}:A5H m k=m fun x=> A5G x k:=rfl
@[simp] theorem C7a {f:U3} {m:CE} {ma:C5} {k:MC}:lmE f m ma k=m fun x=> lmR f x ma k:=rfl
@[simp] theorem C6w:cb oBack [.val (.tup xs),.val (.int i)] k=F5 (i= -1) (k (.val (.tup xs.reverse))):=rfl
@[simp] theorem C6q:cb d0 [.val (.tup xs)] k=k (.val (.tup xs)):=by
  funext h Q E;show d0 [.wv (.tup xs)] _=_;rw [A9i];rfl
@[simp] theorem C7B:cb d0 [.val (.lst xs)] k=k (.val (.tup xs)):=by
  funext h Q E;show d0 [.wv (.lst xs)] _=_;rw [A9i];rfl
@[simp] theorem C2c:cb d0 [.own (.seq xs)] k=k (.val (.tup xs)):=by
  funext h Q E;show d0 [.cv (.seq xs)] _=_;rw [A9i];rfl
@[simp] theorem C2t:cb Q7 [.val (.tup xs)] k=k (.own (.seq xs)):=by
  funext h Q E;show Q7 [.wv (.tup xs)] _=_;rw [A6i];rfl
@[simp] theorem A9I:cb Q7 [.val (.lst xs)] k=k (.own (.seq xs)):=by
  funext h Q E;show Q7 [.wv (.lst xs)] _=_;rw [A6i];rfl
@[simp] theorem C1d:cb Q7 [.own (.seq xs)] k=k (.own (.seq xs)):=by
  funext h Q E;show Q7 [.cv (.seq xs)] _=_;rw [A6i];rfl
theorem C2s {a b:Int}:(if b < a then b else a)=min a b:=by rw [Int.min_def];split <;> split <;> omega
theorem C2x {a b:Int}:(if b > a then b else a)=max a b:=by rw [Int.max_def];split <;> split <;> omega
theorem C2q {a:Int}:(if a < 0 then -a else a)=(a.natAbs:Int):=by split <;> omega
@[simp] theorem C7N:cb C3Y [.val (.int i),.val (.int j)] k=k (.val (.int (min i j))):=by
  rw [←C2s];rfl
@[simp] theorem C6n:cb C3w [.val (.int i),.val (.int j)] k=k (.val (.int (max i j))):=by
  rw [←C2x];rfl
@[simp] theorem C7k:cb C4C [.val (.int i)] k=k (.val (.int (i.natAbs:Int))):=by
  rw [←C2q];rfl
theorem A85 {as bs:List Int} (e:as.map W.int=bs.map W.int):as=bs:=by
  induction as generalizing bs with
  | nil=> cases bs with
    | nil=> rfl
    | cons _ _=> cases e
  | cons a as ih=> cases bs with
    | nil=> cases e
    | cons b bs=>
      rw [List.map_cons,List.map_cons] at e
      injection e with e1 e2
      injection e1 with e1
      rw [e1,ih e2]
theorem C1q {as bs:List Bool} (e:as.map W.bl=bs.map W.bl):as=bs:=by
  induction as generalizing bs with
  | nil=> cases bs with
    | nil=> rfl
    | cons _ _=> cases e
  | cons a as ih=> cases bs with
    | nil=> cases e
    | cons b bs=>
      rw [List.map_cons,List.map_cons] at e
      injection e with e1 e2
      injection e1 with e1
      rw [e1,ih e2]
theorem B9Q {g:List Int→(RV→Prop)→Prop} {ns:List Int} {v:Vw} {Q:RV→Prop} (e:v.seq=some (ns.map W.int)):oInts g [v] Q=g ns Q:=by
  refine propext ⟨fun ⟨ms,e2,q⟩=> ?_,fun q=> ⟨ns,e,q⟩⟩
  rw [e] at e2
  rw [A85 (Option.some.inj e2)]
  exact q
theorem C0E {g:List Bool→Bool} {ns:List Bool} {v:Vw} {Q:RV→Prop} (e:v.seq=some (ns.map W.bl)):oBls g [v] Q=Q (.val (.bl (g ns))):=by
  refine propext ⟨fun ⟨ms,e2,q⟩=> ?_,fun q=> ⟨ns,e,q⟩⟩
  rw [e] at e2
  rw [C1q (Option.some.inj e2)]
  exact q
theorem B4i {g:List Bool→Bool} {ns:List Bool} {x:SV} {v:Vw} (e:∀h,L5 h x=v) (es:v.seq=some (ns.map W.bl)):cb (oBls g) [x] k=k (.val (.bl (g ns))):=by
  funext h Q E
  unfold cb
  rw [List.map_cons,List.map_nil,e,C0E es]
  rfl
theorem B27 {g:List Int→(RV→Prop)→Prop} {ns:List Int} {x:SV} {v:Vw} (e:∀h,L5 h x=v) (es:v.seq=some (ns.map W.int)):cb (oInts g) [x] k=fun h Q E=> g ns fun r=> j9 k r h Q E:=by
  funext h Q E
  unfold cb
  rw [List.map_cons,List.map_nil,e,B9Q es]
theorem A9J {ns:List Int} {x:SV} {v:Vw} (e:∀h,L5 h x=v) (es:v.items=some (ns.map W.int)):cb o0 [x] k=k (.val (.int ns.sum)):=by
  funext h Q E
  unfold cb
  rw [List.map_cons,List.map_nil,e]
  refine propext ⟨fun ⟨ms,e2,q⟩=> ?_,fun q=> ⟨ns,es,q⟩⟩
  rw [es] at e2
  rw [A85 (Option.some.inj e2)]
  exact q
@[simp] theorem C5U {ns:List Int}:cb B30 [.own (.seq (ns.map W.int))] k=k (.own (.seq ((srt ns).map W.int))):=B27 (v:= .cv (.seq _)) (fun _=> rfl) rfl
@[simp] theorem C5I {ns:List Int}:cb B30 [.val (.lst (ns.map W.int))] k=k (.own (.seq ((srt ns).map W.int))):=B27 (v:= .wv (.lst _)) (fun _=> rfl) rfl
@[simp] theorem C2l {ns:List Int}:cb o0 [.own (.seq (ns.map W.int))] k=k (.val (.int ns.sum)):=A9J (v:= .cv (.seq _)) (fun _=> rfl) rfl
@[simp] theorem C69 {ns:List Int}:cb o0 [.val (.lst (ns.map W.int))] k=k (.val (.int ns.sum)):=A9J (v:= .wv (.lst _)) (fun _=> rfl) rfl
@[simp] theorem C66 {ns:List Int}:cb o0 [.val (.tup (ns.map W.int))] k=k (.val (.int ns.sum)):=A9J (v:= .wv (.tup _)) (fun _=> rfl) rfl
@[simp] theorem C1k {ns:List Bool}:cb B0H [.own (.seq (ns.map W.bl))] k=k (.val (.bl (ns.any id))):=B4i (v:= .cv (.seq _)) (fun _=> rfl) rfl
@[simp] theorem A9c {ns:List Bool}:cb A2l [.own (.seq (ns.map W.bl))] k=k (.val (.bl (ns.all id))):=B4i (v:= .cv (.seq _)) (fun _=> rfl) rfl
end
end
end Ab
namespace Ab
open PySem PySem.Spec PyProof.Rows L2 RZ
section
variable {Q:RR→AH→Prop} {E:AExc→AH→Prop} {h:AH} {α β σ:Type}
theorem C0g {n:Nat}:X2 0 n=(List.range n).map fun (i:Nat)=> W.int i:=by
  unfold X2
  simp
theorem A9U {e:α→W} {l:List α}:U0 (l.map e)=l.zipIdx.map fun p=> W.tup [.int (p.2:Int),e p.1]:=by
  refine List.ext_getElem (by simp [U0]) fun i h1 h2=> ?_
  have hi:i < l.length:=by simpa [U0] using h1
  simp [U0,List.getD_eq_getElem?_getD,hi]
section
variable {body:W→(Option W→MC)→MC} {k:List W→MC}
theorem A9T (e:α→W) (f:α→Option W):∀(l:List α) (acc:List W),(∀a∈l,∀kk,body (e a) kk=kk (f a))→acc.length+l.length≤sizeLine→V4 body k (l.map e) acc=k (acc++l.filterMap f)
  | [],acc,_,_=> by simp [V4]
  | a::l,acc,hb,hl=> by
    rw [List.length_cons] at hl
    show body (e a) _=_
    rw [hb a (by simp)]
    cases q:f a with
    | none=>
      show V4 body k (l.map e) acc=_
      rw [A9T e f l acc (fun b hb'=> hb b (by simp [hb'])) (by omega),List.filterMap_cons_none q]
    | some y=>
      show F5 _ _=_
      rw [G2 (by omega),A9T e f l (acc++[y]) (fun b hb'=> hb b (by simp [hb'])) (by rw [List.length_append,List.length_singleton];omega),List.filterMap_cons_some q]
      simp
theorem A9D (e:α→W) (g:α→W) (l:List α) (hb:∀a∈l,∀kk,body (e a) kk=kk (some (g a))) (hl:l.length≤sizeLine):V4 body k (l.map e) []=k (l.map g):=by
  rw [A9T e (fun a=> some (g a)) l [] hb (by simpa using hl)]
  congr 1
  rw [List.nil_append,List.filterMap_eq_map']
theorem B5C (I:Nat→AH→Prop) (P:W→W→Prop):∀(ws acc:List W) (i:Nat) (h:AH),acc.length+ws.length≤sizeLine→I i h→
    (∀w∈ws,∀j h kk,j < i+ws.length→I j h→(∀y h',P w y→I (j+1) h'→kk (some y) h' Q E)→body w kk h Q E)→
    (∀ys h',All2 P ws ys→I (i+ws.length) h'→k (acc++ys) h' Q E)→V4 body k ws acc h Q E
  | [],acc,i,h,_,j,_,q=> by
    have z:=q [] h .nil (by simpa using j)
    simpa [V4] using z
  | w::ws,acc,i,h,hl,j,hb,q=> by
    rw [List.length_cons] at hl
    refine hb w (by simp) i h _ (by rw [List.length_cons];omega) j fun y h' py j'=> ⟨by omega,?_⟩
    refine B5C I P ws (acc++[y]) (i+1) h' (by rw [List.length_append,List.length_singleton];omega) j' (fun v hv j h kk hj=> hb v (by simp [hv]) j h kk (by rw [List.length_cons];omega)) fun ys h2 ay j2=> ?_
    have z:=q (y::ys) h2 (.cons py ay) (by rw [List.length_cons];rwa [show i+(ws.length+1)=i+1+ws.length by omega])
    simpa using z
end
section
variable {body:W→σ→(σ→MC)→(σ→MC)→MC} {k:σ→MC}
inductive Stp (σ:Type) where
  | go (s:σ) | out (m:MC)
theorem B2y {body:W→Unit→(Unit→MC)→(Unit→MC)→MC} {k:Unit→MC} (e:α→W) (r:α→Option MC):∀(l:List α),(∀a∈l,∀kn,body (e a) () kn k=(r a).getD (kn ()))→A2k body k (l.map e) ()=(l.findSome? r).getD (k ())
  | [],_=> rfl
  | a::l,hb=> by
    show body (e a) () _ k=_
    rw [hb a (by simp)]
    cases q:r a with
    | some m=> simp [q]
    | none=>
      rw [List.findSome?_cons_of_isNone (by rw [q];rfl)]
      exact B2y e r l fun b hb2=> hb b (by simp [hb2])
theorem B9D {body:W→Unit→(Unit→MC)→(Unit→MC)→MC} {k:Unit→MC} (ws:List W) (hb:∀w∈ws,∀kn,body w () kn k=kn ()):A2k body k ws ()=k ():=by
  induction ws with
  | nil=> rfl
  | cons w ws ih=>
    show body w () _ k=_
    rw [hb w (by simp)]
    exact ih fun v hv=> hb v (by simp [hv])
end
end
mutual
def W.nb:Nat→W→Bool
  | _,.non=> true
  | _,.int _=> true
  | _,.str _=> true
  | n+1,.tup xs=> W.nbs n xs
  | n+1,.lst xs=> W.nbs n xs
  | _,_=> false
def W.nbs:Nat→List W→Bool
  | _,[]=> true
  | n,x::xs=> W.nb n x && W.nbs n xs
end
theorem W.nbs_of {n:Nat}:∀{xs:List W},(∀x∈xs,x.nb n=true)→W.nbs n xs=true
  | [],_=> rfl
  | x::xs,h=> by
    simp only [W.nbs,Bool.and_eq_true]
    exact ⟨h x (by simp),W.nbs_of fun y hy=> h y (by simp [hy])⟩
theorem W.nbs_mem {n:Nat}:∀{xs:List W},W.nbs n xs=true→∀x∈xs,x.nb n=true
  | [],_,x,h=> by cases h
  | y::ys,e,x,h=> by
    simp only [W.nbs,Bool.and_eq_true] at e
    rcases List.mem_cons.mp h with rfl | h
    · exact e.1
    · exact W.nbs_mem e.2 x h
theorem B4J {n:Nat} {i:Int}:(W.int i).nb n=true:=by cases n <;> rfl
theorem B4H {n:Nat} {xs:List W} (h:∀x∈xs,x.nb n=true):(W.tup xs).nb (n+1)=true:=W.nbs_of h
theorem C2f {n:Nat} {xs:List W} (h:∀x∈xs,x.nb n=true):(W.lst xs).nb (n+1)=true:=W.nbs_of h
theorem B3e {n:Nat} {xs:List Int}:∀x∈xs.map W.int,x.nb n=true:=fun x hx=> by
  obtain ⟨i,_,rfl⟩:=List.mem_map.mp hx
  exact B4J
theorem A4d:∀{n:Nat} {w:W},w.nb n=true→w.dat n=true
  | 0,.non,_=> rfl
  | 0,.int _,_=> rfl
  | 0,.str _,_=> rfl
  | _+1,.non,_=> rfl
  | _+1,.int _,_=> rfl
  | _+1,.str _,_=> rfl
  | n+1,.tup xs,h=> by
    show xs.all (W.dat n)=true
    rw [List.all_eq_true]
    exact fun x hx=> A4d (W.nbs_mem h x hx)
  | n+1,.lst xs,h=> by
    show xs.all (W.dat n)=true
    rw [List.all_eq_true]
    exact fun x hx=> A4d (W.nbs_mem h x hx)
  | 0,.tup _,h=> by simp [W.nb] at h
  | 0,.lst _,h=> by simp [W.nb] at h
  | _,.bl _,h=> by simp [W.nb] at h
  | _,.dct _ _,h=> by simp [W.nb] at h
  | _,.ref _,h=> by simp [W.nb] at h
  | _,.ty _,h=> by simp [W.nb] at h
  | _,.emp,h=> by simp [W.nb] at h
theorem A4o:∀{n m:Nat} {w:W},n≤m→w.dat n=true→w.dat m=true
  | _,0,.non,_,_=> rfl
  | _,0,.int _,_,_=> rfl
  | _,0,.str _,_,_=> rfl
  | _,0,.bl _,_,_=> rfl
  | _,_+1,.non,_,_=> rfl
  | _,_+1,.int _,_,_=> rfl
  | _,_+1,.str _,_,_=> rfl
  | _,_+1,.bl _,_,_=> rfl
  | 0,_,.emp,_,h=> by simp [W.dat] at h
  | _+1,_+1,.emp,_,_=> rfl
  | _+1,0,.emp,l,_=> by omega
  | 0,_,.tup _,_,h=> by simp [W.dat] at h
  | 0,_,.lst _,_,h=> by simp [W.dat] at h
  | n+1,m+1,.tup xs,l,h=> by
    have h:xs.all (W.dat n)=true:=h
    show xs.all (W.dat m)=true
    rw [List.all_eq_true] at h ⊢
    exact fun x hx=> A4o (by omega) (h x hx)
  | n+1,m+1,.lst xs,l,h=> by
    have h:xs.all (W.dat n)=true:=h
    show xs.all (W.dat m)=true
    rw [List.all_eq_true] at h ⊢
    exact fun x hx=> A4o (by omega) (h x hx)
  | _+1,0,.tup _,l,_=> by omega
  | _+1,0,.lst _,l,_=> by omega
  | _,_,.dct _ _,_,h=> by simp [W.dat] at h
  | _,_,.ref _,_,h=> by simp [W.dat] at h
  | _,_,.ty _,_,h=> by simp [W.dat] at h
def W.plain (w:W):Prop:=∃n,n≤60∧w.nb n=true
@[simp] theorem c9 {i:Int}:(W.int i).plain:=⟨0,by omega,rfl⟩
@[simp] theorem Y3 {i:Str}:(W.str i).plain:=⟨0,by omega,rfl⟩
@[simp] theorem C2d:W.non.plain:=⟨0,by omega,rfl⟩
theorem C2e (n:Nat) (hn:n < 60) {xs:List W} (h:∀x∈xs,x.nb n=true):(W.tup xs).plain:=⟨n+1,hn,B4H h⟩
theorem A9C (n:Nat) (hn:n < 60) {xs:List W} (h:∀x∈xs,x.nb n=true):(W.lst xs).plain:=⟨n+1,hn,C2f h⟩
@[simp] theorem A6T {xs:List Int}:(W.tup (xs.map W.int)).plain:=C2e 0 (by omega) B3e
@[simp] theorem C5S {xs:List Int}:(W.lst (xs.map W.int)).plain:=A9C 0 (by omega) B3e
mutual
theorem eqw_nb:∀(n:Nat) (a b:W) (m:Nat),a.nb n=true→b.nb m=true→(M1 a b=true↔a=b)
  | _,.non,.non,_,_,_=> by simp [M1,W.pd,PyData.eqv]
  | _,.non,.int _,_,_,_=> by simp [M1,W.pd,PyData.eqv]
  | _,.non,.str _,_,_,_=> by simp [M1,W.pd,PyData.eqv]
  | _,.non,.tup _,_,_,_=> by simp [M1,W.pd,PyData.eqv]
  | _,.non,.lst _,_,_,_=> by simp [M1,W.pd,PyData.eqv]
  | _,.int _,.non,_,_,_=> by simp [M1,W.pd,PyData.eqv]
  | _,.int _,.int _,_,_,_=> by simp [M1,W.pd,PyData.eqv]
  | _,.int _,.str _,_,_,_=> by simp [M1,W.pd,PyData.eqv]
  | _,.int _,.tup _,_,_,_=> by simp [M1,W.pd,PyData.eqv]
  | _,.int _,.lst _,_,_,_=> by simp [M1,W.pd,PyData.eqv]
  | _,.str _,.non,_,_,_=> by simp [M1,W.pd,PyData.eqv]
  | _,.str _,.int _,_,_,_=> by simp [M1,W.pd,PyData.eqv]
  | _,.str _,.str _,_,_,_=> by simp [M1,W.pd,PyData.eqv]
  | _,.str _,.tup _,_,_,_=> by simp [M1,W.pd,PyData.eqv]
  | _,.str _,.lst _,_,_,_=> by simp [M1,W.pd,PyData.eqv]
  | _,.tup _,.non,_,_,_=> by simp [M1,W.pd,PyData.eqv]
  | _,.tup _,.int _,_,_,_=> by simp [M1,W.pd,PyData.eqv]
  | _,.tup _,.str _,_,_,_=> by simp [M1,W.pd,PyData.eqv]
  | n+1,.tup xs,.tup ys,m+1,h,g=> by
    have z:=eqws_nb n xs ys m h g
    show PyData.eqvAll (W.pds xs) (W.pds ys)=true↔_
    rw [z]
    simp
  | _,.tup _,.lst _,_,_,_=> by simp [M1,W.pd,PyData.eqv]
  | _,.lst _,.non,_,_,_=> by simp [M1,W.pd,PyData.eqv]
  | _,.lst _,.int _,_,_,_=> by simp [M1,W.pd,PyData.eqv]
  | _,.lst _,.str _,_,_,_=> by simp [M1,W.pd,PyData.eqv]
  | _,.lst _,.tup _,_,_,_=> by simp [M1,W.pd,PyData.eqv]
  | n+1,.lst xs,.lst ys,m+1,h,g=> by
    have z:=eqws_nb n xs ys m h g
    show PyData.eqvAll (W.pds xs) (W.pds ys)=true↔_
    rw [z]
    simp
  | 0,.tup _,.tup _,_,h,_=> by simp [W.nb] at h
  | _,.tup _,.tup _,0,_,h=> by simp [W.nb] at h
  | 0,.lst _,.lst _,_,h,_=> by simp [W.nb] at h
  | _,.lst _,.lst _,0,_,h=> by simp [W.nb] at h
  | _,.bl _,_,_,h,_=> by simp [W.nb] at h
  | _,.dct _ _,_,_,h,_=> by simp [W.nb] at h
  | _,.ref _,_,_,h,_=> by simp [W.nb] at h
  | _,.ty _,_,_,h,_=> by simp [W.nb] at h
  | _,.emp,_,_,h,_=> by simp [W.nb] at h
  | _,_,.bl _,_,_,h=> by simp [W.nb] at h
  | _,_,.dct _ _,_,_,h=> by simp [W.nb] at h
  | _,_,.ref _,_,_,h=> by simp [W.nb] at h
  | _,_,.ty _,_,_,h=> by simp [W.nb] at h
  | _,_,.emp,_,_,h=> by simp [W.nb] at h
theorem eqws_nb:∀(n:Nat) (xs ys:List W) (m:Nat),W.nbs n xs=true→W.nbs m ys=true→(PyData.eqvAll (W.pds xs) (W.pds ys)=true↔xs=ys)
  | _,[],[],_,_,_=> by simp [W.pds,PyData.eqvAll]
  | _,[],_::_,_,_,_=> by simp [W.pds,PyData.eqvAll]
  | _,_::_,[],_,_,_=> by simp [W.pds,PyData.eqvAll]
  | n,x::xs,y::ys,m,h,g=> by
    simp only [W.nbs,Bool.and_eq_true] at h g
    have z1:=eqw_nb n x y m h.1 g.1
    have z2:=eqws_nb n xs ys m h.2 g.2
    simp only [W.pds,PyData.eqvAll,Bool.and_eq_true]
    rw [z2,show PyData.eqv x.pd y.pd=M1 x y from rfl,z1]
    simp
end
def SV.pl (x:SV):Prop:=match x with
  | .val w=> w.plain
  | .own c=> c.fz.plain
theorem A8P {w:W} (h:w.plain) (k:AH):viewW k w= .wv w:=by
  obtain ⟨n,_,h⟩:=h
  cases w with
  | ref a=> simp [W.nb] at h
  | _=> rfl
theorem s8 {x:SV} (h:x.pl) (k:AH):(L5 k x).toW=x.fz∧L5 k x≠ .bad∧x.fz.plain:=by
  cases x with
  | val w=>
    have h:w.plain:=h
    refine ⟨by show (viewW k w).toW=w;rw [A8P h];rfl,by show viewW k w≠ .bad;rw [A8P h];exact (fun z=> nomatch z),h⟩
  | own c=> exact ⟨rfl,(fun z=> nomatch z),h⟩
theorem B8m {w:W} (h:w.plain):w.dat 60=true:=by
  obtain ⟨n,hn,h⟩:=h
  exact A4o hn (A4d h)
theorem A6H {x:SV} (h:x.pl) (k:AH):(L5 k x).ok=true:=by
  obtain ⟨a,b,c⟩:=s8 h k
  have d:=B8m c
  cases e:L5 k x with
  | bad=> exact absurd e b
  | wv w=> rw [e] at a;show w.dat 60=true;rw [show w=x.fz from a];exact d
  | cv w=> rw [e] at a;show w.fz.dat 60=true;rw [show w.fz=x.fz from a];exact d
theorem A5I {x y:SV} {neg:Bool} {k:SV→MC} (hx:x.pl) (hy:y.pl):C9 (F0 neg) x y k=k (.val (.bl (if neg=true then !M1 x.fz y.fz else M1 x.fz y.fz))):=by
  funext h Q E
  unfold C9 F0
  rw [(s8 hx h).1,(s8 hy h).1]
  refine propext ⟨fun z=> z.2.2,fun z=> ⟨A6H hx h,A6H hy h,z⟩⟩
noncomputable instance:DecidableEq W:=fun _ _=> Classical.propDecidable _
theorem sp {w:W} (h:w.plain):SV.pl (.val w):=h
theorem so {c:Cont} (h:c.fz.plain):SV.pl (.own c):=h
theorem A1B {x y:SV} {k:Bool→MC} (hx:x.pl) (hy:y.pl):(C9 (F0 false) x y fun r=> T7 r k)=k (decide (x.fz=y.fz)):=by
  rw [A5I hx hy]
  obtain ⟨_,_,n,_,hn⟩:=s8 hx (fun _=> none)
  obtain ⟨_,_,m,_,hm⟩:=s8 hy (fun _=> none)
  have z:=eqw_nb n x.fz y.fz m hn hm
  have:M1 x.fz y.fz=decide (x.fz=y.fz):=by
    by_cases q:x.fz=y.fz
    · rw [z.mpr q,decide_eq_true q]
    · have q':=mt z.mp q
      rw [decide_eq_false q]
      simpa using q'
  rw [this]
  rfl
theorem B5m {x y:SV} {k:Bool→MC} (hx:x.pl) (hy:y.pl):(C9 (F0 true) x y fun r=> T7 r k)=k (!decide (x.fz=y.fz)):=by
  have z:=A1B (k:=fun b=> k (!b)) hx hy
  rw [A5I hx hy] at z ⊢
  simp only [Bool.false_eq_true,if_false,if_true] at z ⊢
  exact z
theorem A8b {x:W} (hx:∃n,x.nb n=true):∀{xs:List W},(∀y∈xs,∃n,y.nb n=true)→o4 x xs=decide (x∈xs)
  | [],_=> by simp [o4]
  | y::ys,h=> by
    obtain ⟨n,hn⟩:=hx
    obtain ⟨m,hm⟩:=h y (by simp)
    have z:=eqw_nb m y x n hm hn
    rw [B8q,A8b ⟨n,hn⟩ fun z hz=> h z (by simp [hz])]
    by_cases q:y=x
    · rw [z.mpr q];simp [q]
    · have q':M1 y x=false:=by simpa using mt z.mp q
      have q2:¬x=y:=fun e=> q e.symm
      rw [q'];simp [q2]
theorem B2x {w:W} (h:w.plain):∃n,w.nb n=true:=let ⟨n,_,q⟩:=h;⟨n,q⟩
theorem B5o {x:SV} {y:SV} {xs:List W} {k:Bool→MC} (hx:x.pl) (hy:∀h,(L5 h y).items=some xs) (hp:∀z∈xs,z.nb 59=true):(C9 (V9 false) x y fun r=> T7 r k)=k (decide (x.fz∈xs)):=by
  funext h Q E
  unfold C9
  rw [B5I,hy h]
  have hd:xs.all (W.dat 60)=true:=by
    rw [List.all_eq_true]
    exact fun z hz=> A4o (by omega) (A4d (hp z hz))
  have e:o4 (L5 h x).toW xs=decide (x.fz∈xs):=by
    rw [(s8 hx h).1]
    exact A8b (B2x (s8 hx h).2.2) fun z hz=> ⟨59,hp z hz⟩
  show (_∧_∧_)=_
  rw [e]
  refine propext ⟨fun z=> z.2.2,fun z=> ⟨A6H hx h,hd,z⟩⟩
theorem C3I {x:SV} {y:SV} {xs:List W} {k:Bool→MC} (hx:x.pl) (hy:∀h,(L5 h y).items=some xs) (hp:∀z∈xs,z.nb 59=true):(C9 (V9 true) x y fun r=> T7 r k)=k (!decide (x.fz∈xs)):=by
  funext h Q E
  unfold C9
  rw [B5I,hy h]
  have hd:xs.all (W.dat 60)=true:=by
    rw [List.all_eq_true]
    exact fun z hz=> A4o (by omega) (A4d (hp z hz))
  have e:o4 (L5 h x).toW xs=decide (x.fz∈xs):=by
    rw [(s8 hx h).1]
    exact A8b (B2x (s8 hx h).2.2) fun z hz=> ⟨59,hp z hz⟩
  show (_∧_∧_)=_
  rw [e]
  refine propext ⟨fun z=> z.2.2,fun z=> ⟨A6H hx h,hd,z⟩⟩
theorem C2M {x:W} {k:Bool→MC} (hx:x.plain):(C9 (O3 true) (.val x) (.val .non) fun r=> T7 r k)=k (!decide (x= .non)):=by
  funext h Q E
  show O3 true (viewW h x) (.wv .non) _=_
  rw [A8P hx,B5J]
  have:(Vw.wv x).isNon=decide (x= .non):=by
    cases x <;> simp [Vw.isNon]
  rw [this]
  refine propext ⟨fun z=> z.2,fun z=> ⟨(fun e=> nomatch e),z⟩⟩
theorem A6x {x y:SV} {k:SV→MC} (hx:x.pl) (hy:y.pl):C9 (F0 false) x y k=k (.val (.bl (decide (x.fz=y.fz)))):=by
  rw [A5I hx hy]
  obtain ⟨_,_,n,_,hn⟩:=s8 hx (fun _=> none)
  obtain ⟨_,_,m,_,hm⟩:=s8 hy (fun _=> none)
  have z:=eqw_nb n x.fz y.fz m hn hm
  have:M1 x.fz y.fz=decide (x.fz=y.fz):=by
    by_cases q:x.fz=y.fz
    · rw [z.mpr q,decide_eq_true q]
    · have q':=mt z.mp q
      rw [decide_eq_false q]
      simpa using q'
  rw [this]
  rfl
theorem A93 {x y:SV} {k:SV→MC} (hx:x.pl) (hy:y.pl):C9 (F0 true) x y k=k (.val (.bl (!decide (x.fz=y.fz)))):=by
  have z:=A6x (k:=fun r=> match r with
    | .val (.bl b)=> k (.val (.bl (!b)))
    | _=> bad) hx hy
  rw [A5I hx hy] at z ⊢
  exact z
theorem A2y {p q:Prop} [Decidable p] [Decidable q] (h:p↔q):decide p=decide q:=decide_eq_decide.mpr h
section
variable {k:SV→MC} {i j:Int} {a b:Str} {as bs:List Int} {xs:List W}
@[simp] theorem A7R:C9 (F0 false) (.val (.int i)) (.val (.int j)) k=k (.val (.bl (decide (i=j)))):=by
  rw [A6x (sp c9) (sp c9),A2y (q:=i=j) (by simp)]
@[simp] theorem A3M:C9 (F0 true) (.val (.int i)) (.val (.int j)) k=k (.val (.bl (!decide (i=j)))):=by
  rw [A93 (sp c9) (sp c9),A2y (q:=i=j) (by simp)]
@[simp] theorem A4j:C9 (F0 false) (.val (.str a)) (.val (.str b)) k=k (.val (.bl (decide (a=b)))):=by
  rw [A6x (sp Y3) (sp Y3),A2y (q:=a=b) (by simp)]
@[simp] theorem C6k:C9 (F0 true) (.val (.str a)) (.val (.str b)) k=k (.val (.bl (!decide (a=b)))):=by
  rw [A93 (sp Y3) (sp Y3),A2y (q:=a=b) (by simp)]
theorem tup_ints:W.tup (as.map W.int)=W.tup (bs.map W.int)↔as=bs:=⟨fun e=> by injection e with e;exact A85 e,fun e=> by rw [e]⟩
@[simp] theorem C7c:C9 (F0 false) (.val (.tup (as.map W.int))) (.val (.tup (bs.map W.int))) k=k (.val (.bl (decide (as=bs)))):=by
  rw [A6x (sp A6T) (sp A6T),C6,C6,A2y (q:=as=bs) tup_ints]
@[simp] theorem C7d:C9 (F0 true) (.val (.tup (as.map W.int))) (.val (.tup (bs.map W.int))) k=k (.val (.bl (!decide (as=bs)))):=by
  rw [A93 (sp A6T) (sp A6T),C6,C6,A2y (q:=as=bs) tup_ints]
theorem u5 {w:W} {neg:Bool} (hv:∀h,viewW h w= .wv w):C9 (O3 neg) (.val w) (.val .non) k=k (.val (.bl (if neg then !(Vw.wv w).isNon else (Vw.wv w).isNon))):=by
  funext h Q E
  show O3 neg (viewW h w) (.wv .non) _=_
  rw [hv,B5J]
  refine propext ⟨fun z=> z.2,fun z=> ⟨(fun e=> nomatch e),z⟩⟩
@[simp] theorem B3C:C9 (O3 false) (.val .non) (.val .non) k=k (.val (.bl true)):=u5 (fun _=> rfl)
@[simp] theorem B35:C9 (O3 false) (.val (.int i)) (.val .non) k=k (.val (.bl false)):=u5 (fun _=> rfl)
@[simp] theorem B34:C9 (O3 false) (.val (.str a)) (.val .non) k=k (.val (.bl false)):=u5 (fun _=> rfl)
@[simp] theorem C1Q:C9 (O3 false) (.val (.tup xs)) (.val .non) k=k (.val (.bl false)):=u5 (fun _=> rfl)
@[simp] theorem C1a:C9 (O3 false) (.val (.lst xs)) (.val .non) k=k (.val (.bl false)):=u5 (fun _=> rfl)
@[simp] theorem A8f:C9 (O3 true) (.val .non) (.val .non) k=k (.val (.bl false)):=u5 (fun _=> rfl)
@[simp] theorem A8d:C9 (O3 true) (.val (.int i)) (.val .non) k=k (.val (.bl true)):=u5 (fun _=> rfl)
@[simp] theorem C5V:C9 (O3 true) (.val (.str a)) (.val .non) k=k (.val (.bl true)):=u5 (fun _=> rfl)
@[simp] theorem C5c:C9 (O3 true) (.val (.tup xs)) (.val .non) k=k (.val (.bl true)):=u5 (fun _=> rfl)
@[simp] theorem C5N:C9 (O3 true) (.val (.lst xs)) (.val .non) k=k (.val (.bl true)):=u5 (fun _=> rfl)
end
end Ab
namespace Ab
open PySem PySem.Spec PyProof.Rows L2 RZ
abbrev CL:=(Addr→List W→MC)→MC
def A06 (mw:C5):CL:=fun k h Q E=> ∀f:Addr,mw (fun ws=> k f (.ref f::ws)) h Q E
def C3V (a:CW) (u:CL):CL:=fun k=> a fun w=> u fun f ws=> k f (w::ws)
def M8 (b:CE):List W→MC
  | []=> b ret
  | _=> bad
def C4G (b:W→CE):List W→MC
  | [w]=> b w ret
  | _=> bad
def A4X (m:Addr→List W→MC) (l:CL):CE:=fun k=> l fun f ws=> call (m f ws) k
section
variable {Q:RR→AH→Prop} {E:AExc→AH→Prop} {env:A0} {h:AH} {k:SV→MC}
@[simp] theorem B8d {m:Addr→List W→MC} {l:CL}:A4X m l k=l fun f ws=> call (m f ws) k:=rfl
@[simp] theorem C59 {a:CW} {u:CL} {k:Addr→List W→MC}:C3V a u k=a fun w=> u fun f ws=> k f (w::ws):=rfl
@[simp] theorem C5R {b:CE}:M8 b []=b ret:=rfl
@[simp] theorem C5j {b:W→CE} {w:W}:C4G b [w]=b w ret:=rfl
def SL (Q:RR→AH→Prop) (E:AExc→AH→Prop) (env:A0) (t:ALT) (m:CL):Prop:=∀h (k:Addr→List W→MC) (K:Addr→List W→A0→AH→Prop),(∀f ws h',k f ws h' Q E→K f ws env h')→m k h Q E→t env h K
theorem A6b {ta:E5} {ma:C5} (a:SA Q E env ta ma):SL Q E env (A2E ta) (A06 ma):=fun h k K hk z f=> a h _ _ (fun ws h1 y=> hk _ _ _ y) (z f)
theorem B4A {E':AExc→A0→AH→Prop} {i:Nat} {f:Addr} {sp:B8} {ML:List W→MC} {ta:E5} {ma:C5} (hE:∀x h,E x h→E' x env h) (hs:∀ws h Q E,upc ML ws h Q E→sp ws h Q E) (e:env[i]? =some (some (.val (.ref f)))) (a:SA Q E env ta ma):SN Q E env (A7i E' i f sp ta) (R1 ML ma):=fun h k K hk z=>
  ⟨e,a h _ _ (fun ws h1 z=> hs _ _ _ _ (B3z hk hE z)) z⟩
theorem A8O {E':AExc→A0→AH→Prop} {n m:Nat} {tc:Addr→B8→(AExc→A0→AH→Prop)→C0} {tb:(AExc→A0→AH→Prop)→AT} {tl:ALT} {ml:CL} {mm:Addr→List W→MC} {ML:List W→MC} (hE:∀x h,E x h→E' x env h)
    (hz:∀(f:Addr) (sp:B8),(∀ws h Q E,upc ML ws h Q E→sp ws h Q E)→∀ws h Qa Ea,ws.length=n→upc (mm f) ws h Qa Ea→tc f sp (C7 Ea) (C2 Qa) (F8 m ws) h)
    (hb:∀ws h Q E,upc ML ws h Q E→u7 tb env ws h Q E) (a:SL Q E env tl ml):SN Q E env (A2G E' n m tc tb tl) (A4X mm ml):=fun h k K hk z=>
  a h _ _ (fun f ws h1 z=> ⟨fun r h2=> k r.sv h2 Q E,E,fun r h2 z=> by cases r <;> exact hk _ _ z,fun x h2 z=> hE x h2 z,fun l=> hz f _ hb _ _ _ _ l ⟨_,_,fun _ _ z=> z,fun _ _ z=> z,z⟩⟩) z
theorem c6 {tb:(AExc→A0→AH→Prop)→AT} {b:CE} (s:∀(Q:RR→AH→Prop) (E:AExc→AH→Prop) (E':AExc→A0→AH→Prop),(∀env x h,E x h→E' x env h)→SE Q E (A1X env []) (tb E') b):∀ws h Q E,upc (M8 b) ws h Q E→u7 tb env ws h Q E:=fun ws h Qa Ea ⟨Q0,E0,hQ,hE,z⟩=> by
  match ws with
  | []=> exact ⟨C7 Ea,fun _ _ _ z=> z,s Q0 E0 (C7 Ea) (O9 hE) h ret _ (fun r x h' rl q=> P3 hQ r x _ h' rl q) z⟩
  | _::_=> exact z.elim
def u4 (x word:Str) (fs:List Str) (ma:C5):MC:=ma fun ws=> A2g ⟨x,initF (W.str word) fs ws⟩
@[simp] theorem A1V {x word:Str} {fs:List Str} {ma:C5}:u4 x word fs ma=ma fun ws=> A2g ⟨x,initF (W.str word) fs ws⟩:=rfl
theorem A0q {E':AExc→A0→AH→Prop} {D:AEnds} {x word:Str} {fs:List Str} {ta:E5} {ma:C5} (hE:∀x h,E x h→E' x env h) (a:SA Q E env ta ma):∀h,u4 x word fs ma h Q E→m7 E' x word fs ta D env h:=fun h z=>
  a h (fun ws=> A2g ⟨x,initF (W.str word) fs ws⟩) (fun ws env1 h1=> E' ⟨x,initF (W.str word) fs ws⟩ env1 h1) (fun ws h1 y=> hE _ _ y) z
def m8 (ks:List Str):List (Str×XT)→(W→MC)→AExc→MC
  | [],_,x=> A2g x
  | (c,sv)::r,k,x=> fun h Q E=> x.n∈ks∧if K4 x.n c=true then sv x (fun w=> k w h Q E) else m8 ks r k x h Q E
def B0T (b:(W→MC)→MC) (k:W→MC) (hd:(W→MC)→AExc→MC):MC:=fun h Q E=> b (fun s h' _ _=> k s h' Q E) h Q fun x h'=> hd k x h' Q E
inductive MonoL2:List (Str×XT)→Prop where
  | nil:MonoL2 []
  | cons {c:Str} {sv:XT} {l:List (Str×XT)} (m:A4u sv) (t:MonoL2 l):MonoL2 ((c,sv)::l)
theorem Y0 {f:Str}:A4u (E4 f):=fun x K K' k ⟨w,e,q⟩=> ⟨w,e,k _ q⟩
theorem A2e:A4e O5:=fun x K K' k q=> k _ q
theorem e9 {a:XT} {b:XTs} (m:A4u a) (n:A4e b):A4e (F3 a b):=fun x K K' k q=> m x _ _ (fun w z=> n x _ _ (fun ws y=> k _ y) z) q
theorem A2c {a:XTs} (m:A4e a):A4u (O4 a):=fun x K K' k q=> m x _ _ (fun ws z=> ⟨z.1,k _ z.2⟩) q
theorem A8a {E':AExc→A0→AH→Prop} {D:AEnds} {ks:List Str} {i j:Nat} {k:W→MC} (hi:i < env.length) (N:∀w h,k w h Q E→D.nx ((env.set j (some (.val w))).set i none) h) (hE:∀x h,E x h→E' x env h):
    ∀{l:List (Str×XT)},MonoL2 l→∀x h,m8 ks l k x h Q E→A1Y ks (l.map fun p=> (p.1,i,j,p.2)) E' D x env h
  | _,.nil,x,h,z=> hE x h z
  | _,.cons m t,x,h,z=> by
    obtain ⟨z1,z2⟩:=z
    refine ⟨z1,hi,?_⟩
    split at z2
    · rename_i b
      rw [if_pos b]
      exact m x _ _ (fun w y=> N w h y) z2
    · rename_i b
      rw [if_neg b]
      exact A8a hi N hE t x h z2
theorem C2C {E':AExc→A0→AH→Prop} {D:AEnds} {ks:List Str} {i j:Nat} {k:W→MC} {b:(W→MC)→MC} {l:List (Str×XT)} {t:(AExc→A0→AH→Prop)→C0} (no:A4s env=true) (hi:i < env.length) (ml:MonoL2 l) (hE:∀x h,E x h→E' x env h)
    (N:∀w h,k w h Q E→D.nx ((env.set j (some (.val w))).set i none) h)
    (hb:∀(E2:AExc→AH→Prop) (Ein:AExc→A0→AH→Prop) (hz:∀x h,E2 x h→Ein x env h) (kk:W→MC),(∀w h,kk w h Q E2→D.nx ((env.set j (some (.val w))).set i none) h)→∀h,b kk h Q E2→t Ein D env h):
    ∀h,B0T b k (m8 ks l) h Q E→A45 ks (l.map fun p=> (p.1,i,j,p.2)) E' t D env h:=fun h z=>
  ⟨no,fun x e g=> A1Y ks (l.map fun p=> (p.1,i,j,p.2)) E' D x e g,fun _ _ _ y=> y,hb (fun x h'=> m8 ks l k x h' Q E) _ (fun x h' y=> A8a hi N hE ml x h' y) (fun s h' _ _=> k s h' Q E) (fun w h' y=> N w h' y) h z⟩
def B0A (b:(W→MC)→MC) (k0 k:W→MC) (hd:(W→MC)→AExc→MC):MC:=fun h Q E=> b (fun s h' _ _=> k0 s h' Q E) h Q fun x h'=> hd k x h' Q E
theorem C0B {E':AExc→A0→AH→Prop} {D:AEnds} {ks:List Str} {i j:Nat} {envB:W→A0} {k0 k:W→MC} {b:(W→MC)→MC} {l:List (Str×XT)} {t:(AExc→A0→AH→Prop)→C0} (no:A4s env=true) (hi:i < env.length) (ml:MonoL2 l) (hE:∀x h,E x h→E' x env h)
    (N0:∀w h,k0 w h Q E→D.nx (envB w) h) (N:∀w h,k w h Q E→D.nx ((env.set j (some (.val w))).set i none) h)
    (hb:∀(E2:AExc→AH→Prop) (Ein:AExc→A0→AH→Prop) (hz:∀x h,E2 x h→Ein x env h) (kk:W→MC),(∀w h,kk w h Q E2→D.nx (envB w) h)→∀h,b kk h Q E2→t Ein D env h):
    ∀h,B0A b k0 k (m8 ks l) h Q E→A45 ks (l.map fun p=> (p.1,i,j,p.2)) E' t D env h:=fun h z=>
  ⟨no,fun x e g=> A1Y ks (l.map fun p=> (p.1,i,j,p.2)) E' D x e g,fun _ _ _ y=> y,hb (fun x h'=> m8 ks l k x h' Q E) _ (fun x h' y=> A8a hi N hE ml x h' y) (fun s h' _ _=> k0 s h' Q E) (fun w h' y=> N0 w h' y) h z⟩
end
end Ab
namespace Ab
open PySem PySem.Spec PyProof.Rows L2 RZ
def A9b {σ:Type} (c:σ→CB) (body:σ→(σ→MC)→(σ→MC)→MC) (k:σ→MC) (s0:σ):MC:=fun h Q E=> ∃W:Nat→σ→AH→Prop,(∃m,W m s0 h)∧∀m s g,W m s g→
  c s (fun b=> if b=true then fun g1 Q1 E1=> ∃N:σ→AH→Prop,(∀s' g',N s' g'→∃m',m' < m∧W m' s' g')∧body s (fun s' g' _ _=> N s' g') k g1 Q1 E1 else k s) g Q E
section
variable {Q:RR→AH→Prop} {E:AExc→AH→Prop} {env:A0} {D:AEnds}
theorem B85 {σ J:Type} {tc:G7} {tb:C0} {c:σ→CB} {body:σ→(σ→MC)→(σ→MC)→MC} {k:σ→MC} (envOf:σ→J→A0) (s0:σ) (j0:J) (he:envOf s0 j0=env) (cd:∀s j,SA Q E (envOf s j) tc (c s)) (r:∀s j h,k s h Q E→D.nx (envOf s j) h)
    (b:(∀s j h,k s h Q E→D.nx (envOf s j) h)→∀s j (kn:σ→MC) (N:A0→AH→Prop),(∀s j h,kn s h Q E→N (envOf s j) h)→∀h,body s kn k h Q E→tb { D with nx:=N,ct:=N,bk:=D.nx } (envOf s j) h):
    ∀h,A9b c body k s0 h Q E→A9W tc tb D env h:=fun h ⟨W,⟨m0,w0⟩,turn⟩=> by
  subst he
  refine ⟨fun m e g=> ∃s j,e=envOf s j∧W m s g,⟨m0,s0,j0,rfl,w0⟩,?_⟩
  rintro m e g ⟨s,j,rfl,w⟩
  refine cd s j g _ _ (fun v h1 z=> ?_) (turn m s g w)
  cases v with
  | true=>
    rw [if_pos rfl] at z ⊢
    obtain ⟨N,hN,z⟩:=z
    refine ⟨fun e g=> ∃s j,e=envOf s j∧N s g,?_,b r s j _ _ (fun s j h y=> ⟨s,j,rfl,y⟩) h1 z⟩
    rintro e2 k2 ⟨s2,j2,rfl,n⟩
    obtain ⟨m',lt,w'⟩:=hN s2 k2 n
    exact ⟨m',lt,s2,j2,rfl,w'⟩
  | false=>
    rw [if_neg Bool.false_ne_true] at z ⊢
    exact r s j h1 z
theorem B9e {σ:Type} {c:σ→CB} {body:σ→(σ→MC)→(σ→MC)→MC} {k:σ→MC} {s0:σ} {h:AH} (W:Nat→σ→AH→Prop) (m0:Nat) (w0:W m0 s0 h)
    (turn:∀m s g,W m s g→c s (fun b=> if b=true then fun g1 Q1 E1=> ∃N:σ→AH→Prop,(∀s' g',N s' g'→∃m',m' < m∧W m' s' g')∧body s (fun s' g' _ _=> N s' g') k g1 Q1 E1 else k s) g Q E):A9b c body k s0 h Q E:=
  ⟨W,⟨m0,w0⟩,turn⟩
end
def getT (x:SV) (w:W) (k:SV→MC):MC:=fun h Q E=> ∃(l:List (List Int×W)) (ns:List Int) (v:W),x= .own (.map (A3W l))∧w= .tup (ns.map .int)∧A43 l ns=some v∧k (.val v) h Q E
section
variable {Q:RR→AH→Prop} {E:AExc→AH→Prop} {env:A0} {D:AEnds} {k:SV→MC} {h:AH}
end
end Ab
namespace Ab
open PySem PySem.Spec PyProof.Rows L2 RZ
def C3N:L7:=oII B5M fun i j=> .int (i ^ j.toNat)
section
variable {i j:Int} {k:SV→MC}
@[simp] theorem C7J:C9 C3N (.val (.int i)) (.val (.int j)) k=F5 (B5M i j) (k (.val (.int (i ^ j.toNat)))):=rfl
end
def idx (x:SV) (ws:List W) (k:SV→MC):MC:=fun h Q E=> oIndexW (L5 h x) ws fun r=> j9 k r h Q E
def A7b (x:SV) (m:MC):MC:=fun h Q E=> (∃ns:List Int,(L5 h x).seq=some (ns.map W.int))∧m h Q E
def C4i (a:CE) (ma:C5):CE:=fun k=> a fun x=> A7b x (ma fun ws=> idx x ws k)
section
variable {Q:RR→AH→Prop} {E:AExc→AH→Prop} {env:A0} {t:AT} {m:CE} {ta:E5} {ma:C5} {k:SV→MC} {ns:List Int} {x:Int}
@[simp] theorem C7e {a:CE}:C4i a ma k=a fun x=> A7b x (ma fun ws=> idx x ws k):=rfl
@[simp] theorem C5b {m:MC}:A7b (.own (.seq (ns.map W.int))) m=m:=by
  funext h Q E
  exact propext ⟨fun z=> z.2,fun z=> ⟨⟨ns,rfl⟩,z⟩⟩
@[simp] theorem C5Q {m:MC}:A7b (.val (.lst (ns.map W.int))) m=m:=by
  funext h Q E
  exact propext ⟨fun z=> z.2,fun z=> ⟨⟨ns,rfl⟩,z⟩⟩
end
def mix (n0 m0:Nat) (perm:List Nat) (ds us ws:List W) (k:List W→MC):MC:=F5 (us.length=n0∧ws.length=m0) (k (perm.map fun i=> (us++(ws++ds)).getD i .non))
def wMx (n0 m0:Nat) (perm:List Nat) (ds:List W) (a b:C5):C5:=fun k=> a fun us=> b fun ws=> mix n0 m0 perm ds us ws k
@[simp] theorem C7W {n0 m0:Nat} {perm:List Nat} {ds:List W} {a b:C5} {k:List W→MC}:wMx n0 m0 perm ds a b k=a fun us=> b fun ws=> mix n0 m0 perm ds us ws k:=rfl
theorem A3K {n0 m0:Nat} {perm:List Nat} {ds us ws:List W} {k:List W→MC} (h:us.length=n0∧ws.length=m0):mix n0 m0 perm ds us ws k=k (perm.map fun i=> (us++(ws++ds)).getD i .non):=G2 h
section
variable {Q:RR→AH→Prop} {E:AExc→AH→Prop} {env:A0} {ta tb:E5} {ma mb:C5}
end
theorem B3m {neg x y:Bool} {k:SV→MC}:C9 (B0b neg) (.val (.bl x)) (.val (.bl y)) k=k (.val (.bl (if neg then !decide (x=y) else decide (x=y)))):=by
  funext h Q E
  refine propext ⟨fun ⟨u,v,e1,e2,q⟩=> ?_,fun q=> ⟨x,y,rfl,rfl,q⟩⟩
  cases e1
  cases e2
  exact q
@[simp] theorem C7S {x y:Bool} {k:SV→MC}:C9 (B0b false) (.val (.bl x)) (.val (.bl y)) k=k (.val (.bl (decide (x=y)))):=B3m
@[simp] theorem C7O {x y:Bool} {k:SV→MC}:C9 (B0b true) (.val (.bl x)) (.val (.bl y)) k=k (.val (.bl (!decide (x=y)))):=B3m
section
variable {a b c d e f x:W} {k:List W→MC}
@[simp] theorem C7F:mix 3 2 [0,1,2,3,4] [] [a,b,c] [d,e] k=k [a,b,c,d,e]:=by rw [A3K (by exact ⟨rfl,rfl⟩)];rfl
@[simp] theorem C6c:mix 3 2 [0,1,2,4,3] [] [a,b,c] [d,e] k=k [a,b,c,e,d]:=by rw [A3K (by exact ⟨rfl,rfl⟩)];rfl
@[simp] theorem C6z:mix 0 5 [4,3,2,1,0] [] [] [a,b,c,d,e] k=k [e,d,c,b,a]:=by rw [A3K (by exact ⟨rfl,rfl⟩)];rfl
@[simp] theorem C7K:mix 3 1 [0,1,2,3,4] [x] [a,b,c] [d] k=k [a,b,c,d,x]:=by rw [A3K (by exact ⟨rfl,rfl⟩)];rfl
@[simp] theorem C6l:mix 4 2 [0,1,2,3,4,5] [] [a,b,c,d] [e,f] k=k [a,b,c,d,e,f]:=by rw [A3K (by exact ⟨rfl,rfl⟩)];rfl
@[simp] theorem C6U:mix 0 5 [4,3,2,1,0,5] [x] [] [a,b,c,d,e] k=k [e,d,c,b,a,x]:=by rw [A3K (by exact ⟨rfl,rfl⟩)];rfl
end
def A7V (x:SV) (k:SV→MC):MC:=fun h Q E=> ∃xs,(L5 h x).seq=some xs∧k (.own (.seq xs.reverse)) h Q E
def C20 (a:CE):CE:=fun k=> a fun x=> A7V x k
section
variable {Q:RR→AH→Prop} {E:AExc→AH→Prop} {env:A0} {t:AT} {m:CE} {k:SV→MC} {xs:List W}
@[simp] theorem C7M {a:CE}:C20 a k=a fun x=> A7V x k:=rfl
@[simp] theorem C5d:A7V (.own (.seq xs)) k=k (.own (.seq xs.reverse)):=by
  funext h Q E
  exact propext ⟨fun ⟨ys,e,z⟩=> by cases e;exact z,fun z=> ⟨xs,rfl,z⟩⟩
@[simp] theorem C5i:A7V (.val (.lst xs)) k=k (.own (.seq xs.reverse)):=by
  funext h Q E
  exact propext ⟨fun ⟨ys,e,z⟩=> by cases e;exact z,fun z=> ⟨xs,rfl,z⟩⟩
end
end Ab
namespace Ab
open PySem PySem.Spec PyProof.Rows L2 RZ
def B4G (w:W) (k:SV→MC):MC:=fun h Q E=> oLenSet [.wv w] fun r=> j9 k r h Q E
def C1J (mk:CW):CE:=fun k=> mk fun w=> B4G w k
section
variable {Q:RR→AH→Prop} {E:AExc→AH→Prop} {env:A0} {t:C3} {mk:CW} {k:SV→MC} {ns:List Int} {h:AH}
@[simp] theorem C5L:C1J mk k=mk fun w=> B4G w k:=rfl
end
def pr3 (ws:List W) (k:W→W→W→MC):MC:=match ws with
  | [a,b,c]=> k a b c
  | _=> bad
def C3P (ma:C5) (k:W→W→W→MC):MC:=ma fun ws=> pr3 ws k
@[simp] theorem C52 {a:C5} {k:W→W→W→MC}:C3P a k=a fun ws=> pr3 ws k:=rfl
@[simp] theorem C7b {x y z:W} {k:W→W→W→MC}:pr3 [x,y,z] k=k x y z:=rfl
end Ab
namespace Ab
open PySem PySem.Spec PyProof.Rows L2 RZ
def A1C (n f:Str) (x:SV) (k:SV→MC):MC:=fun h Q E=> match x with
  | .val (.ref a)=> ∃fs w,h a=some (.ins n fs)∧fs.lookup f=some w∧k (.val w) h Q E
  | _=> False
def Y9 (n f:Str) (m:CE):CE:=fun k=> m fun x=> A1C n f x k
def v7 (n f:Str) (x:SV) (w:W) (k:MC):MC:=fun h Q E=> match x with
  | .val (.ref a)=> ∃fs,h a=some (.ins n fs)∧fs.length < 1000∧k (D6 h a (.ins n (o5 f w fs))) Q E
  | _=> False
def A4v (n f:Str) (mv:CW) (m:CE) (k:MC):MC:=mv fun w=> m fun x=> v7 n f x w k
def C4S (n f:Str) (mv:CW) (m:W→CE) (k:W→MC):MC:=mv fun w=> un2 w fun a b=> m a fun x=> v7 n f x b (k a)
def ffC (n f n2 g:Str) (mv:CW) (m m2:CE) (k:MC):MC:=mv fun w=> un2 w fun a b=> m fun x=> v7 n f x a (m2 fun y=> v7 n2 g y b k)
def R8 (C nm:Str) (x:SV) (k:Addr→MC):MC:=fun h Q E=> match x with
  | .val (.ref a)=> (∃fs,h a=some (.ins C fs)∧fs.lookup nm=none)∧k a h Q E
  | _=> False
def E9 (C nm:Str) (f:List W→MC) (mo:CE) (ma:C5):CE:=fun k=> mo fun x=> R8 C nm x fun a=> ma fun ws=> call (f (.ref a::ws)) k
def C19 (C nm:Str) (f:List W→MC) (mo:CE) (ma:C5):CE:=fun k=> mo fun x=> R8 C nm x fun a=> ma fun ws=> call0 (f (.ref a::ws)) k
def mxW (n0 m0:Nat) (P:List Nat) (ds us zs:List W) (k:List W→MC):MC:=F5 (us.length=n0∧zs.length=m0) (k (P.map fun i=> (us++(zs++ds)).getD i .non))
def C2Y (C nm:Str) (f:List W→MC) (n0 m0:Nat) (P:List Nat) (ds:List W) (mo:CE) (ma mk:C5):CE:=fun k=> mo fun x=> R8 C nm x fun a=> ma fun ws=> mk fun zs=> mxW (n0+1) m0 P ds (.ref a::ws) zs fun vs=> call (f vs) k
def C1D (C nm:Str) (f:List W→MC) (n0 m0:Nat) (P:List Nat) (ds:List W) (mo:CE) (ma mk:C5):CE:=fun k=> mo fun x=> R8 C nm x fun a=> ma fun ws=> mk fun zs=> mxW (n0+1) m0 P ds (.ref a::ws) zs fun vs=> call0 (f vs) k
def mkX (C:Str) (f:Addr→MC) (k:SV→MC):MC:=fun h Q E=> ∀a,h a=none→f a (D6 h a (.ins C [])) (fun r h2=> r= .val .non∧k (.val (.ref a)) h2 Q E) E
def A7X (C:Str) (f:Addr→MC) (k:SV→MC):MC:=fun h Q E=> ∀a,h a=none→f a (D6 h a (.ins C [])) (fun r h2=> r= .val .non∧k (.val (.ref a)) h2 Q E) fun _ _=> False
def A98 (C:Str) (f:List W→MC) (ma:C5):CE:=fun k=> ma fun ws=> mkX C (fun a=> f (.ref a::ws)) k
def C2p (C:Str) (f:List W→MC) (ma:C5):CE:=fun k=> ma fun ws=> A7X C (fun a=> f (.ref a::ws)) k
def C2Q (C:Str) (f:List W→MC) (n0 m0:Nat) (P:List Nat) (ds:List W) (ma mk:C5):CE:=fun k=> ma fun ws=> mk fun zs=> F5 (ws.length=n0∧zs.length=m0) (mkX C (fun a=> f (P.map fun i=> ((.ref a::ws)++(zs++ds)).getD i .non)) k)
def C0c (C:Str) (f:List W→MC) (n0 m0:Nat) (P:List Nat) (ds:List W) (ma mk:C5):CE:=fun k=> ma fun ws=> mk fun zs=> F5 (ws.length=n0∧zs.length=m0) (A7X C (fun a=> f (P.map fun i=> ((.ref a::ws)++(zs++ds)).getD i .non)) k)
def A3a (C:Str) (f:List W→MC) (po:RR→(RV→Prop)→Prop) (x:SV) (k:SV→MC):MC:=fun h Q E=> match x with
  | .val (.ref a)=> ∃fs,h a=some (.ins C fs)∧f [.ref a] h (fun r h2=> po r fun y=> j9 k y h2 Q E) fun _ _=> False
  | _=> False
def A7g (C:Str) (f:List W→MC) (po:RR→(RV→Prop)→Prop) (m:CE):CE:=fun k=> m fun x=> A3a C f po x k
def eqX (C:Str) (neg:Bool) (f:List W→MC) (x y:SV) (k:SV→MC):MC:=fun h Q E=> match x,y with
  | .val (.ref a),.val (.ref b)=> (∃fs gs,h a=some (.ins C fs)∧h b=some (.ins C gs))∧f [.ref a,.ref b] h (fun r h2=> ∃c:Bool,r= .val (.bl c)∧k (.val (.bl (if neg=true then !c else c))) h2 Q E) fun _ _=> False
  | _,_=> False
def C4M (C:Str) (neg:Bool) (f:List W→MC) (m m2:CE):CE:=fun k=> m fun x=> m2 fun y=> eqX C neg f x y k
def A5E (n:Str) (b:Bool) (x:SV) (k:SV→MC):MC:=fun h Q E=> match x with
  | .val (.ref a)=> (∃fs,h a=some (.ins n fs))∧k (.val (.bl b)) h Q E
  | .val (.lst _)=> k (.val (.bl false)) h Q E
  | .val (.tup _)=> k (.val (.bl false)) h Q E
  | .val (.str _)=> k (.val (.bl false)) h Q E
  | _=> False
def C4E (n:Str) (b:Bool) (m:CE):CE:=fun k=> m fun x=> A5E n b x k
def inX (neg:Bool) (w:W) (x:SV) (k:SV→MC):MC:=fun h Q E=> inM neg (L5 h x) w fun r=> j9 k r h Q E
def A7Z (neg:Bool) (mk:CW) (m:CE):CE:=fun k=> mk fun w=> m fun x=> inX neg w x k
def A7D (x:SV) (w:W) (k:SV→MC):MC:=fun h Q E=> A5D (L5 h x) w fun r=> j9 k r h Q E
def A3T (m:CE) (mk:CW):CE:=fun k=> m fun x=> mk fun w=> A7D x w k
def A3d (x:SV) (w v:W) (k:SV→MC):MC:=fun h Q E=> match x with
  | .own (.map kvs)=> ∃l s,kvs=smap l∧w= .str s∧l.length < sizeLine∧k (.own (.map (smap (g8 l s v)))) h Q E
  | .val (.ref a)=> ∃l s,h a=some (.cont (.map (smap l)))∧w= .str s∧l.length < sizeLine∧k (.val (.ref a)) (D6 h a (.cont (.map (smap (g8 l s v))))) Q E
  | _=> False
def C3v (mv:CW) (x:SV) (mk:CW) (k:SV→MC):MC:=mv fun v=> mk fun w=> A3d x w v k
def i7 (x:SV) (w v:W) (k:MC):MC:=fun h Q E=> match x with
  | .val (.ref a)=> ∃l s,h a=some (.cont (.map (smap l)))∧w= .str s∧l.length < sizeLine∧k (D6 h a (.cont (.map (smap (g8 l s v))))) Q E
  | _=> False
def A7S (mv:CW) (m:CE) (mk:CW) (k:MC):MC:=mv fun v=> m fun x=> mk fun w=> i7 x w v k
def A5J (x:SV) (w:W) (k:MC):MC:=fun h Q E=> match x with
  | .val (.ref a)=> ∃l s,h a=some (.cont (.map (smap l)))∧w= .str s∧(l.lookup s).isSome=true∧k (D6 h a (.cont (.map (smap (n5 l s))))) Q E
  | _=> False
def A67 (m:CE) (mk:CW) (k:MC):MC:=m fun x=> mk fun w=> A5J x w k
def A6p:CE:=fun k=> k (.own (.map (smap [])))
def v4 (x:SV) (k:(AH→Prop)→List W→MC):MC:=fun h Q E=> match x with
  | .val (.ref a)=> ∃ws,h a=some (.cont (.seq ws))∧k (fun g=> g a=some (.cont (.seq ws))) ws h Q E
  | .val (.lst ws)=> k (fun _=> True) ws h Q E
  | .val (.tup ws)=> k (fun _=> True) ws h Q E
  | _=> False
abbrev j8:=((AH→Prop)→List W→MC)→MC
def A7B (m:CE):j8:=fun k=> m fun x=> v4 x k
def B0M (m:CE):j8:=fun k=> m fun x=> v4 x fun ok ws=> k ok (U0 ws)
def C38 (m:C5):j8:=fun k=> m fun ws=> k (fun _=> True) ws
def A3L (ok:AH→Prop) (m:MC):MC:=fun h Q E=> ok h∧m h Q E
def n7 {σ:Type} (ok:AH→Prop) (body:W→σ→(σ→MC)→(σ→MC)→MC) (k:σ→MC):List W→σ→MC
  | [],s=> A3L ok (k s)
  | w::ws,s=> A3L ok (body w s (n7 ok body k ws) k)
def A7A {σ:Type} (mi:j8) (s0:σ) (body:W→σ→(σ→MC)→(σ→MC)→MC) (k:σ→MC):MC:=mi fun ok ws=> n7 ok body k ws s0
def A1m (ok:AH→Prop) (body:W→(Option W→MC)→MC) (k:List W→MC):List W→List W→MC
  | [],acc=> A3L ok (k acc)
  | w::ws,acc=> A3L ok (body w fun o=> match o with
    | some y=> F5 (acc.length < sizeLine) (A1m ok body k ws (acc++[y]))
    | none=> A1m ok body k ws acc)
def B0X (mi:j8) (body:W→(Option W→MC)→MC):CE:=fun k=> mi fun ok ws=> A1m ok body (fun acc=> k (.own (.seq acc))) ws []
def B0Z (ok:AH→Prop) (body:W→List W→(List W→MC)→MC) (k:List W→MC):List W→List W→MC
  | [],acc=> A3L ok (k acc)
  | w::ws,acc=> A3L ok (body w acc (B0Z ok body k ws))
def C4g (mi:j8) (body:W→List W→(List W→MC)→MC):CE:=fun k=> mi fun ok ws=> B0Z ok body (fun acc=> k (.own (.seq acc))) ws []
def C37 (mt:CB) (mi:j8) (body:W→(Option W→MC)→MC) (acc:List W) (kk:List W→MC):MC:=mt fun b=> if b=true then mi fun ok ws=> A1m ok body kk ws acc else kk acc
def A3A {σ:Type} (body:W→W→σ→(σ→MC)→MC) (fin:σ→Prop):List (Str×W)→σ→MC
  | [],s=> fun _ _ _=> fin s
  | p::r,s=> body (.str p.1) p.2 s (fun s=> fun _ Q E=> A3A body fin r s (fun _=> none) Q E)
def A9g {σ:Type} (n f:Str) (x:SV) (s0:σ) (body:W→W→σ→(σ→MC)→MC) (nd:σ→Prop) (k:σ→MC):MC:=fun h Q E=> match x with
  | .val (.ref s)=> ∃fs q l,h s=some (.ins n fs)∧fs.lookup f=some (.ref q)∧h q=some (.cont (.map (smap l)))∧(∀p∈l,p.2.nodct=true)∧A3A body (fun t=> nd t∧k t h Q E) l s0 (fun _=> none) Q E
  | _=> False
def dcM (mv:W→W→CW) (K:List (Str×W)→Prop) (Q:RR→AH→Prop) (E:AExc→AH→Prop):List (Str×W)→List (Str×W)→Prop
  | [],acc=> W.nodcts (acc.map (·.2))=true∧K acc
  | p::r,acc=> mv (.str p.1) p.2 (fun u=> fun _ _ _=> acc.length < sizeLine∧dcM mv K Q E r (g8 acc p.1 u)) (fun _=> none) Q E
def dcX (n f:Str) (x:SV) (mv:W→W→CW) (k:SV→MC):MC:=fun h Q E=> match x with
  | .val (.ref s)=> ∃fs q l,h s=some (.ins n fs)∧fs.lookup f=some (.ref q)∧h q=some (.cont (.map (smap l)))∧dcM mv (fun acc=> k (.own (.map (smap acc))) h Q E) Q E l []
  | _=> False
def C4a (n f:Str) (x:SV) (mv:W→W→CW):CE:=fun k=> dcX n f x mv k
def B5X (x:SV) (k:Str→MC):MC:=fun h Q E=> fmtV (L5 h x) fun y=> k y h Q E
def C4V (m:CE):CE:=fun k=> m fun x=> B5X x fun y=> k (.val (.str y))
def asS (x:SV) (k:Str→MC):MC:=fun h Q E=> match x with
  | .val (.str y)=> k y h Q E
  | _=> False
def jsM:List CE→Str→(Str→MC)→MC
  | [],acc,k=> k acc
  | m::ms,acc,k=> m fun x=> asS x fun y=> F5 ((acc++y).length≤sizeLine) (jsM ms (acc++y) k)
def C02 (ms:List CE):CE:=fun k=> jsM ms Str.empty fun s=> k (.val (.str s))
section
variable {Q:RR→AH→Prop} {E:AExc→AH→Prop} {env:A0} {t t1 t2:AT} {m m1 m2:CE} {tv tv2:C3} {mv mv2:CW} {ta tk:E5} {ma mk:C5} {tb:G7} {mb:CB} {D:AEnds} {i j:Nat}
theorem A4l {h:AH} {r:RV} {a:Addr} (rl:Rl env r (.val (.ref a))):r= .val (.ref a):=by
  cases r with
  | val w=> have e:SV.val (.ref a)= .val w:=rl;injection e with e;rw [e]
  | own c=> have e:SV.val (.ref a)= .own c:=rl;cases e
  | slot i=> obtain ⟨c,e,_⟩:=rl;cases e
theorem f7 {n f:Str} (a:SE Q E env t m):SN Q E env (aFld n f t) (Y9 n f m):=fun h k K hk z=> a h _ _ (fun r s h1 rl z=> by
  unfold A1C at z
  split at z
  · obtain ⟨fs,w,z1,z2,z3⟩:=z
    exact ⟨_,fs,w,A4l (h:=h1) rl,z1,z2,hk (.val w) h1 z3⟩
  · exact z.elim) z
theorem C0p {n f:Str} {x:SV} {w:W} {k:MC} {h:AH} {r:RV} (rl:Rl env r x) {P:A0→AH→Prop} (hk:∀h,k h Q E→P env h) (z:v7 n f x w k h Q E):∃a fs,r= .val (.ref a)∧h a=some (.ins n fs)∧fs.length < 1000∧P env (D6 h a (.ins n (o5 f w fs))):=by
  unfold v7 at z
  split at z
  · obtain ⟨fs,z1,z2,z3⟩:=z
    exact ⟨_,fs,A4l (h:=h) rl,z1,z2,hk _ z3⟩
  · exact z.elim
theorem A87 {n f:Str} {k:MC} (a:SA Q E env tv mv) (o:SE Q E env t m) (nx:∀h,k h Q E→D.nx env h):∀h,A4v n f mv m k h Q E→O2 tv (A46 n f t) D env h:=fun h z=>
  a h _ _ (fun w h1 z=> o h1 _ _ (fun r x h2 rl z=> C0p rl nx z) z) z
theorem C2L {C nm:Str} {x:SV} {k:Addr→MC} {h:AH} {r:RV} (rl:Rl env r x) (z:R8 C nm x k h Q E):∃a fs,r= .val (.ref a)∧h a=some (.ins C fs)∧fs.lookup nm=none∧k a h Q E:=by
  unfold R8 at z
  split at z
  · obtain ⟨⟨fs,z1,z2⟩,z3⟩:=z
    exact ⟨_,fs,A4l (h:=h) rl,z1,z2,z3⟩
  · exact z.elim
theorem B9b {E':AExc→A0→AH→Prop} {f:List W→MC} {ws:List W} {h:AH} {k:SV→MC} {K:RV→A0→AH→Prop} (hk:∀s h',k s h' Q E→K s.rv env h') (hE:∀x h,E x h→E' x env h) (z:call (f ws) k h Q E):
    upc f ws h (kRes K env) fun x h2=> E' x env h2:=⟨_,_,fun r h' z=> by cases r <;> exact hk _ _ z,hE,z⟩
theorem L8 {C nm:Str} {E':AExc→A0→AH→Prop} {f:List W→MC} (hE:∀x h,E x h→E' x env h) (o:SE Q E env t m) (a:SA Q E env ta ma):SN Q E env (aMeth C nm E' (upc f) t ta) (E9 C nm f m ma):=fun h k K hk z=>
  o h _ _ (fun r x h1 rl z=> by
    obtain ⟨p,fs,e1,e2,e3,z⟩:=C2L rl z
    exact ⟨p,fs,e1,e2,e3,a h1 _ _ (fun ws h2 z=> B9b hk hE z) z⟩) z
theorem C3b {C:Str} {E':AExc→A0→AH→Prop} {f:List W→MC} {g:Addr→List W} {k:SV→MC} {K:RV→A0→AH→Prop} {h:AH} (hk:∀s h',k s h' Q E→K s.rv env h') (hE:∀x h,E x h→E' x env h) (z:mkX C (fun a=> f (g a)) k h Q E):
    ∀a,h a=none→upc f (g a) (D6 h a (.ins C [])) (kMk K env a) fun x h3=> E' x env h3:=fun a n=> ⟨_,_,fun r h' y=> ⟨y.1,hk (.val (.ref a)) _ y.2⟩,hE,z a n⟩
theorem C1b {C:Str} {E':AExc→A0→AH→Prop} {f:List W→MC} (hE:∀x h,E x h→E' x env h) (a:SA Q E env ta ma):SN Q E env (aMake C E' (upc f) ta) (A98 C f ma):=fun h k K hk z=> a h _ _ (fun ws h1 z=> C3b (g:=fun a=> .ref a::ws) hk hE z) z
theorem B4g {C:Str} {f:List W→MC} {po:RR→(RV→Prop)→Prop} (pm:A7C po) (a:SE Q E env t m):SN Q E env (aOwn C (upc f) po t) (A7g C f po m):=fun h k K hk z=> a h _ _ (fun r x h1 rl z=> by
  unfold A3a at z
  split at z
  · obtain ⟨fs,z1,z2⟩:=z
    exact ⟨_,fs,A4l (h:=h1) rl,z1,_,_,fun r h' y=> pm _ _ _ (fun r z=> A3B hk r z) y,fun _ _ z=> z,z2⟩
  · exact z.elim) z
theorem C1E {neg:Bool} {v:Vw} {w:W} {P P':RV→Prop} (k:∀r,P r→P' r) (z:inM neg v w P):inM neg v w P':=let ⟨l,s,a,b,c⟩:=z;⟨l,s,a,b,k _ c⟩
theorem B9u {v:Vw} {w:W} {P P':RV→Prop} (k:∀r,P r→P' r) (z:A5D v w P):A5D v w P':=let ⟨l,s,u,a,b,c,d⟩:=z;⟨l,s,u,a,b,c,k _ d⟩
theorem B4a {neg:Bool} (a:SA Q E env tv mv) (b:SE Q E env t m):SN Q E env (aInM neg tv t) (A7Z neg mv m):=fun h k K hk z=> a h _ _ (fun w h1 z=> b h1 _ _ (fun r x h2 rl z=> by
  rw [W7 rl]
  exact C1E (fun r z=> A3B hk r z) z) z) z
theorem A6R (b:SE Q E env t m) (a:SA Q E env tv mv):SN Q E env (aGetM t tv) (A3T m mv):=fun h k K hk z=> b h _ _ (fun r x h1 rl z=> a h1 _ _ (fun w h2 z=> by
  rw [W7 rl]
  exact B9u (fun r z=> A3B hk r z) z) z) z
theorem B3V {k:MC} (a:SA Q E env tv mv) (o:SN Q E env t m) (b:SA Q E env tv2 mv2) (n:∀h,k h Q E→D.nx env h):∀h,A7S mv m mv2 k h Q E→A7P tv t tv2 D env h:=fun h z=>
  a h _ _ (fun v h1 z=> o h1 _ _ (fun x h2 z=> b h2 _ _ (fun w h3 zz=> by
    cases x with
    | own c=> exact zz.elim
    | val w0=>
      cases w0 with
      | ref p=>
        obtain ⟨l,s,z1,z2,z3,z4⟩:=zz
        exact ⟨l,s,A2I z1,z2,z3,n _ z4⟩
      | _=> exact zz.elim) z) z) z
end
end Ab
namespace Ab
open PySem PySem.Spec PyProof.Rows L2 RZ
def SI (Q:RR→AH→Prop) (E:AExc→AH→Prop) (env:A0) (t:Z1) (m:j8):Prop:=∀h (k:(AH→Prop)→List W→MC) (K:(AH→Prop)→List W→A0→AH→Prop),(∀ok ws h',k ok ws h' Q E→K ok ws env h')→m k h Q E→t env h K
def B5W (f:U3) (x:SV) (ma:C5) (k:SV→MC):MC:=fun h Q E=> match x with
  | .val (.ref p)=> (∃xs,h p=some (.cont (.seq xs)))∧(ma fun ws=> fun h2 Q E=> match h2 p with
    | some (.cont (.seq xs))=> f xs ws fun xs' w=> k (.val w) (D6 h2 p (.cont (.seq xs'))) Q E
    | _=> False) h Q E
  | _=> False
def C4F (f:U3) (m:CE) (ma:C5):CE:=fun k=> m fun x=> B5W f x ma k
section
variable {Q:RR→AH→Prop} {E:AExc→AH→Prop} {env:A0} {t t1 t2:AT} {m m1 m2:CE} {tv tv2:C3} {mv mv2:CW} {ta tk:E5} {ma mk:C5} {tb:G7} {mb:CB} {D:AEnds} {i j:Nat} {ti:Z1} {mi:j8}
theorem B3q {k:MC} (o:SN Q E env t m) (b:SA Q E env tv mv) (n:∀h,k h Q E→D.nx env h):∀h,A67 m mv k h Q E→A7K t tv D env h:=fun h z=>
  o h _ _ (fun x h2 z=> b h2 _ _ (fun w h3 zz=> by
    cases x with
    | own c=> exact zz.elim
    | val w0=>
      cases w0 with
      | ref p=>
        obtain ⟨l,s,z1,z2,z3,z4⟩:=zz
        exact ⟨l,s,A2I z1,z2,z3,n _ z4⟩
      | _=> exact zz.elim) z) z
theorem B2U:SN Q E env A6m A6p:=fun h k K hk z=> hk (.own _) h z
theorem B4Q {x:SV} {r:RV} (rl:Rl env r x) {k:(AH→Prop)→List W→MC} {h:AH} {K:(AH→Prop)→List W→Prop} (hk:∀ok ws,k ok ws h Q E→K ok ws) (z:v4 x k h Q E):srcW h r K:=by
  unfold v4 at z
  split at z
  · obtain ⟨ws,e,z⟩:=z
    rw [A4l (h:=h) rl]
    exact ⟨ws,e,hk _ _ z⟩
  · cases r with
    | val w=> cases rl;exact hk _ _ z
    | own c=> cases rl
    | slot i=> obtain ⟨c,e,_⟩:=rl;cases e
  · cases r with
    | val w=> cases rl;exact hk _ _ z
    | own c=> cases rl
    | slot i=> obtain ⟨c,e,_⟩:=rl;cases e
  · exact z.elim
theorem B3t (a:SE Q E env t m):SI Q E env (iLive t) (A7B m):=fun h k K hk z=> a h _ _ (fun r x h' rl z=> B4Q rl (fun ok ws z=> hk _ _ _ z) z) z
theorem C2r (a:SE Q E env t m):SI Q E env (iLvE t) (B0M m):=fun h k K hk z=> a h _ _ (fun r x h' rl z=> B4Q (k:=fun ok ws=> k ok (U0 ws)) rl (fun ok ws z=> hk _ _ _ z) z) z
theorem B2X {σ J:Type} {ok:AH→Prop} {g:G5} {tb:C0} {body:W→σ→(σ→MC)→(σ→MC)→MC} {k:σ→MC} (envOf:σ→J→A0) (r:∀s j h,k s h Q E→D.nx (envOf s j) h)
    (b:∀w s j (kn:σ→MC) (N:A0→AH→Prop),(∀s j h,kn s h Q E→N (envOf s j) h)→∀h,body w s kn k h Q E→g w (envOf s j) h fun e1 h1=> tb { D with nx:=N,ct:=N,bk:=D.nx } e1 h1):
    ∀ws s j h,n7 ok body k ws s h Q E→aLoopL ok g tb D ws (envOf s j) h
  | [],s,j,h,z=> ⟨z.1,r s j h z.2⟩
  | w::ws,s,j,h,z=> ⟨z.1,b w s j (n7 ok body k ws) (aLoopL ok g tb D ws) (fun s j h z=> B2X envOf r b ws s j h z) h z.2⟩
theorem B3c {σ J:Type} {g:G5} {tb:C0} {body:W→σ→(σ→MC)→(σ→MC)→MC} {k:σ→MC} (envOf:σ→J→A0) (s0:σ) (j0:J) (he:envOf s0 j0=env) (it:SI Q E env ti mi) (r:∀s j h,k s h Q E→D.nx (envOf s j) h)
    (b:(∀s j h,k s h Q E→D.nx (envOf s j) h)→∀w s j (kn:σ→MC) (N:A0→AH→Prop),(∀s j h,kn s h Q E→N (envOf s j) h)→∀h,body w s kn k h Q E→g w (envOf s j) h fun e1 h1=> tb { D with nx:=N,ct:=N,bk:=D.nx } e1 h1):
    ∀h,A7A mi s0 body k h Q E→A7E ti g tb D env h:=fun h z=> it h _ _ (fun ok ws h' z=> he▸B2X envOf r (b r) ws s0 j0 h' z) z
theorem A9F {ok:AH→Prop} {vs:List Nat} {g:G5} {body:W→(Option W→MC)→MC} {k:List W→MC} {K:List W→A0→AH→Prop} (hk:∀acc h',k acc h' Q E→K acc env h') (b:LcB Q E env vs g tb tv body):
    ∀(ws acc:List W) (h:AH),A1m ok body k ws acc h Q E→lcLoopL ok vs g tb tv K ws acc env h
  | [],acc,h,z=> ⟨z.1,hk acc h z.2⟩
  | w::ws,acc,h,z=> ⟨z.1,b w h _ (fun y e3 h3=> acc.length < sizeLine∧lcLoopL ok vs g tb tv K ws (acc++[y]) e3 h3) (fun e2 h2=> lcLoopL ok vs g tb tv K ws acc e2 h2)
      (fun y h' z=> ⟨z.1,A9F hk b ws (acc++[y]) h' z.2⟩) (fun h' z=> A9F hk b ws acc h' z) z.2⟩
theorem C2V {vs:List Nat} {g:G5} {body:W→(Option W→MC)→MC} (it:SI Q E env ti mi) (b:LcB Q E env vs g tb tv body):SN Q E env (A44 vs ti g tb tv) (B0X mi body):=fun h k K hk z=>
  it h _ _ (fun ok ws h1 z=> A9F (k:=fun acc=> k (.own (.seq acc))) (fun acc h' z=> hk (.own (.seq acc)) h' z) b ws [] h1 z) z
theorem B4z {σ J:Type} {a b:Nat} {tb:C0} {body:W→W→σ→(σ→MC)→MC} {fin:σ→Prop} {F:A0→Prop} (envOf:σ→J→A0) (jn:J→Prop) (r:∀s j,jn j→fin s→Y2 (envOf s j)=true∧F (envOf s j))
    (bd:∀t w s j (kn:σ→MC) (N:A0→AH→Prop),W.nodct w=true→(∀s j h,jn j→kn s h Q E→N (envOf s j) h)→∀h,body (.str t) w s kn h Q E→tb ⟨N,fun _ _ _=> False,fun _ _=> False,N⟩ (((envOf s j).set a (some (.val (.str t)))).set b (some (.val w))) h):
    ∀(l:List (Str×W)) (s:σ) (j:J),(∀p∈l,p.2.nodct=true)→jn j→A3A body fin l s (fun _=> none) Q E→itL a b tb F l (envOf s j)
  | [],s,j,_,y,z=> r s j y z
  | p::l,s,j,n,y,z=> bd p.1 p.2 s j (fun s=> fun _ Q E=> A3A body fin l s (fun _=> none) Q E) (fun e _=> itL a b tb F l e) (n p (List.mem_cons_self ..)) (fun s j _ y z=> B4z envOf jn r bd l s j (fun q hq=> n q (List.mem_cons_of_mem _ hq)) y z) _ z
theorem B9H {σ J:Type} {n f:Str} {a b:Nat} {x:SV} {tb:C0} {s0:σ} {j0:J} {body:W→W→σ→(σ→MC)→MC} {nd:σ→Prop} {k:σ→MC} (envOf:σ→J→A0) (jn:J→Prop) (hj:jn j0) (he:envOf s0 j0=env) (ei:env[i]? =some (some x)) (hn:∀s j,jn j→nd s→Y2 (envOf s j)=true) (r:∀s j h,k s h Q E→D.nx (envOf s j) h)
    (bd:∀t w s j (kn:σ→MC) (N:A0→AH→Prop),W.nodct w=true→(∀s j h,jn j→kn s h Q E→N (envOf s j) h)→∀h,body (.str t) w s kn h Q E→tb ⟨N,fun _ _ _=> False,fun _ _=> False,N⟩ (((envOf s j).set a (some (.val (.str t)))).set b (some (.val w))) h):
    ∀h,A9g n f x s0 body nd k h Q E→A9e i n f a b tb D env h:=fun h z=> by
  unfold A9g at z
  split at z
  · obtain ⟨fs,q,l,z1,z2,z3,z4,z5⟩:=z
    refine ⟨_,q,l,⟨fs,ei,z1,z2,z3⟩,?_⟩
    rw [←he]
    exact B4z envOf jn (fun s j y z=> ⟨hn s j y z.1,r s j h z.2⟩) bd l s0 j0 z4 hj z5
  · exact z.elim
theorem C1z {s:Str} {r:RV} (rl:Rl env r (.val (.str s))):r= .val (.str s):=by
  cases r with
  | val w=> cases rl;rfl
  | own c=> cases rl
  | slot i=> obtain ⟨c,e,_⟩:=rl;cases e
inductive SJ (Q:RR→AH→Prop) (E:AExc→AH→Prop) (env:A0):List AT→List CE→Prop where
  | nil:SJ Q E env [] []
  | cons {t:AT} {m:CE} {ts:List AT} {ms:List CE} (a:SE Q E env t m) (r:SJ Q E env ts ms):SJ Q E env (t::ts) (m::ms)
end
theorem A8w:d7 oMulX:=oMulX.mono
theorem B3K:A08 u6:=fun as Q Q' k q=> by
  unfold u6 at q ⊢
  split at q
  · obtain ⟨l,e,q⟩:=q
    exact ⟨l,e,k _ q⟩
  · exact q
theorem B9Z:A08 A0u:=fun as Q Q' k q=> by
  unfold A0u at q ⊢
  split at q
  · obtain ⟨l,e,q⟩:=q
    exact ⟨l,e,k _ q⟩
  · exact q
end Ab
namespace Ab
open PySem PySem.Spec PyProof.Rows L2 RZ
def A9H (m:CE):C5:=fun k=> m fun x=> asS x fun s=> k (A1n s)
def C3k (mv:CW) (m1:CE) (mk1:CW) (m2:CE) (mk2:CW) (k:MC):MC:=mv fun w=> un2 w fun a b=> m1 fun x=> mk1 fun w1=> i7 x w1 a (m2 fun y=> mk2 fun w2=> i7 y w2 b k)
def un4 (w:W) (k:W→W→W→W→MC):MC:=match w with
  | .tup [a,b,c,d]=> k a b c d
  | _=> bad
section
variable {Q:RR→AH→Prop} {E:AExc→AH→Prop} {env:A0} {t t1 t2:AT} {m m1 m2:CE} {tv tv2 tk1 tk2:C3} {mv mv2 mk1 mk2:CW} {D:AEnds} {i j:Nat}
theorem B9p (a:SE Q E env t m):SA Q E env (B0D t) (A9H m):=fun h k K hk z=> a h _ _ (fun r x h' rl z=> by
  unfold asS at z
  split at z
  · exact ⟨_,C1z rl,hk _ _ z⟩
  · exact z.elim) z
end
def jnd (j:Option W×Option W):Prop:=(∀w,j.1=some w→w.nodct=true)∧∀w,j.2=some w→w.nodct=true
theorem C2J:jnd (none,none):=⟨fun _ e=> (nomatch e),fun _ e=> (nomatch e)⟩
theorem C2h {t:Str} {w:W} (h:w.nodct=true):jnd (some (.str t),some w):=⟨fun _ e=> (by cases e;rfl),fun _ e=> (by cases e;exact h)⟩
theorem B99:Y2 []=true:=rfl
theorem A96 {w:W} {e:A0} (h:w.nodct=true) (t:Y2 e=true):Y2 (some (.val w)::e)=true:=by
  unfold Y2 at t ⊢
  rw [List.all_cons,t]
  show (w.nodct && true)=true
  rw [h];rfl
theorem C3c {x:SV} {e:A0} (h:x.nodct=true) (t:Y2 e=true):Y2 (some x::e)=true:=by
  unfold Y2 at t ⊢
  rw [List.all_cons,t]
  show (x.nodct && true)=true
  rw [h];rfl
theorem B4p {e:A0} (t:Y2 e=true):Y2 (none::e)=true:=by
  unfold Y2 at t ⊢
  rw [List.all_cons,t]
  rfl
theorem B48 {o:Option W} {e:A0} (h:∀w,o=some w→w.nodct=true) (t:Y2 e=true):Y2 (Option.map SV.val o::e)=true:=by
  cases o with
  | none=> exact B4p t
  | some w=> exact A96 (h w rfl) t
theorem C1i {e1:A0} {P:MC} {Q:RR→AH→Prop} {E:AExc→AH→Prop} {R:A0→AH→Prop} (e2:A0) (he:e1=e2) (f:∀h,P h Q E→R e2 h):∀h,P h Q E→R e1 h:=he▸f
theorem C2O {neg:Bool}:d7 (oInS neg):=oInS.mono
section
variable {Q:RR→AH→Prop} {E:AExc→AH→Prop} {h:AH}
@[simp] theorem C6D {a b c d:W} {k:W→W→W→W→MC}:un4 (.tup [a,b,c,d]) k=k a b c d:=rfl
@[simp] theorem C0L {s:Str} {k:Str→MC}:asS (.val (.str s)) k=k s:=rfl
@[simp] theorem B9y {m:CE} {k:List W→MC}:A9H m k=m fun x=> asS x fun s=> k (A1n s):=rfl
@[simp] theorem C6Z {mv:CW} {m1 m2:CE} {mk1 mk2:CW} {k:MC}:C3k mv m1 mk1 m2 mk2 k=mv fun w=> un2 w fun a b=> m1 fun x=> mk1 fun w1=> i7 x w1 a (m2 fun y=> mk2 fun w2=> i7 y w2 b k):=rfl
@[simp] theorem d4 {n f:Str} {m:CE} {k:SV→MC}:Y9 n f m k=m fun x=> A1C n f x k:=rfl
@[simp] theorem C0V {n f:Str} {mv:CW} {m:CE} {k:MC}:A4v n f mv m k=mv fun w=> m fun x=> v7 n f x w k:=rfl
@[simp] theorem C6y {n f:Str} {mv:CW} {m:W→CE} {k:W→MC}:C4S n f mv m k=mv fun w=> un2 w fun a b=> m a fun x=> v7 n f x b (k a):=rfl
@[simp] theorem C7Q {n f n2 g:Str} {mv:CW} {m m2:CE} {k:MC}:ffC n f n2 g mv m m2 k=mv fun w=> un2 w fun a b=> m fun x=> v7 n f x a (m2 fun y=> v7 n2 g y b k):=rfl
@[simp] theorem U9 {C nm:Str} {f:List W→MC} {mo:CE} {ma:C5} {k:SV→MC}:E9 C nm f mo ma k=mo fun x=> R8 C nm x fun a=> ma fun ws=> call (f (.ref a::ws)) k:=rfl
@[simp] theorem C6h {C nm:Str} {f:List W→MC} {mo:CE} {ma:C5} {k:SV→MC}:C19 C nm f mo ma k=mo fun x=> R8 C nm x fun a=> ma fun ws=> call0 (f (.ref a::ws)) k:=rfl
@[simp] theorem C6J {C nm:Str} {f:List W→MC} {n0 m0:Nat} {P:List Nat} {ds:List W} {mo:CE} {ma mk:C5} {k:SV→MC}:C2Y C nm f n0 m0 P ds mo ma mk k=mo fun x=> R8 C nm x fun a=> ma fun ws=> mk fun zs=> mxW (n0+1) m0 P ds (.ref a::ws) zs fun vs=> call (f vs) k:=rfl
@[simp] theorem C5M {C nm:Str} {f:List W→MC} {n0 m0:Nat} {P:List Nat} {ds:List W} {mo:CE} {ma mk:C5} {k:SV→MC}:C1D C nm f n0 m0 P ds mo ma mk k=mo fun x=> R8 C nm x fun a=> ma fun ws=> mk fun zs=> mxW (n0+1) m0 P ds (.ref a::ws) zs fun vs=> call0 (f vs) k:=rfl
@[simp] theorem C2P {C:Str} {f:List W→MC} {ma:C5} {k:SV→MC}:A98 C f ma k=ma fun ws=> mkX C (fun a=> f (.ref a::ws)) k:=rfl
@[simp] theorem C5l {C:Str} {f:List W→MC} {ma:C5} {k:SV→MC}:C2p C f ma k=ma fun ws=> A7X C (fun a=> f (.ref a::ws)) k:=rfl
@[simp] theorem C5v {C:Str} {f:List W→MC} {n0 m0:Nat} {P:List Nat} {ds:List W} {ma mk:C5} {k:SV→MC}:C2Q C f n0 m0 P ds ma mk k=ma fun ws=> mk fun zs=> F5 (ws.length=n0∧zs.length=m0) (mkX C (fun a=> f (P.map fun i=> ((.ref a::ws)++(zs++ds)).getD i .non)) k):=rfl
@[simp] theorem C5Z {C:Str} {f:List W→MC} {n0 m0:Nat} {P:List Nat} {ds:List W} {ma mk:C5} {k:SV→MC}:C0c C f n0 m0 P ds ma mk k=ma fun ws=> mk fun zs=> F5 (ws.length=n0∧zs.length=m0) (A7X C (fun a=> f (P.map fun i=> ((.ref a::ws)++(zs++ds)).getD i .non)) k):=rfl
@[simp] theorem C24 {C:Str} {f:List W→MC} {po:RR→(RV→Prop)→Prop} {m:CE} {k:SV→MC}:A7g C f po m k=m fun x=> A3a C f po x k:=rfl
@[simp] theorem C7l {C:Str} {neg:Bool} {f:List W→MC} {m m2:CE} {k:SV→MC}:C4M C neg f m m2 k=m fun x=> m2 fun y=> eqX C neg f x y k:=rfl
@[simp] theorem C7h {n:Str} {b:Bool} {m:CE} {k:SV→MC}:C4E n b m k=m fun x=> A5E n b x k:=rfl
@[simp] theorem B5K {neg:Bool} {mk:CW} {m:CE} {k:SV→MC}:A7Z neg mk m k=mk fun w=> m fun x=> inX neg w x k:=rfl
@[simp] theorem A3E {m:CE} {mk:CW} {k:SV→MC}:A3T m mk k=m fun x=> mk fun w=> A7D x w k:=rfl
@[simp] theorem C5y {mv:CW} {x:SV} {mk:CW} {k:SV→MC}:C3v mv x mk k=mv fun v=> mk fun w=> A3d x w v k:=rfl
@[simp] theorem C00 {mv:CW} {m:CE} {mk:CW} {k:MC}:A7S mv m mk k=mv fun v=> m fun x=> mk fun w=> i7 x w v k:=rfl
@[simp] theorem C0D {m:CE} {mk:CW} {k:MC}:A67 m mk k=m fun x=> mk fun w=> A5J x w k:=rfl
@[simp] theorem C0X {k:SV→MC}:A6p k=k (.own (.map (smap []))):=rfl
@[simp] theorem B3s {m:CE} {k:(AH→Prop)→List W→MC}:A7B m k=m fun x=> v4 x k:=rfl
@[simp] theorem C1m {m:CE} {k:(AH→Prop)→List W→MC}:B0M m k=m fun x=> v4 x fun ok ws=> k ok (U0 ws):=rfl
@[simp] theorem C7A {m:C5} {k:(AH→Prop)→List W→MC}:C38 m k=m fun ws=> k (fun _=> True) ws:=rfl
@[simp] theorem B3p {σ:Type} {mi:j8} {s0:σ} {body:W→σ→(σ→MC)→(σ→MC)→MC} {k:σ→MC}:A7A mi s0 body k=mi fun ok ws=> n7 ok body k ws s0:=rfl
@[simp] theorem C3G {mi:j8} {body:W→(Option W→MC)→MC} {k:SV→MC}:B0X mi body k=mi fun ok ws=> A1m ok body (fun acc=> k (.own (.seq acc))) ws []:=rfl
@[simp] theorem C7T {mi:j8} {body:W→List W→(List W→MC)→MC} {k:SV→MC}:C4g mi body k=mi fun ok ws=> B0Z ok body (fun acc=> k (.own (.seq acc))) ws []:=rfl
@[simp] theorem C7L {mt:CB} {mi:j8} {body:W→(Option W→MC)→MC} {acc:List W} {kk:List W→MC}:C37 mt mi body acc kk=mt fun b=> if b=true then mi fun ok ws=> A1m ok body kk ws acc else kk acc:=rfl
@[simp] theorem C7P {m:CE} {k:SV→MC}:C4V m k=m fun x=> B5X x fun y=> k (.val (.str y)):=rfl
@[simp] theorem C5a {ms:List CE} {k:SV→MC}:C02 ms k=jsM ms Str.empty fun s=> k (.val (.str s)):=rfl
@[simp] theorem C55 {acc:Str} {k:Str→MC}:jsM [] acc k=k acc:=rfl
@[simp] theorem C5P {m:CE} {ms:List CE} {acc:Str} {k:Str→MC}:jsM (m::ms) acc k=m fun x=> asS x fun y=> F5 ((acc++y).length≤sizeLine) (jsM ms (acc++y) k):=rfl
@[simp] theorem C7V {f:U3} {m:CE} {ma:C5} {k:SV→MC}:C4F f m ma k=m fun x=> B5W f x ma k:=rfl
@[simp] theorem C7R {n f:Str} {x:SV} {mv:W→W→CW} {k:SV→MC}:C4a n f x mv k=dcX n f x mv k:=rfl
@[simp] theorem C11 {m:CE} {k:W→MC}:A5H m k=m fun x=> A5G x k:=rfl
@[simp] theorem C5m {ws:List W} {k:(AH→Prop)→List W→MC}:v4 (.val (.lst ws)) k=k (fun _=> True) ws:=rfl
@[simp] theorem C6b {ws:List W} {k:(AH→Prop)→List W→MC}:v4 (.val (.tup ws)) k=k (fun _=> True) ws:=rfl
end
end Ab
namespace Ab
open PySem PySem.Spec PyProof.Rows L2 RZ
theorem A2w:∀{l l':List (Str×W)},smap l=smap l'→l=l'
  | [],[],_=> rfl
  | [],_::_,e=> by cases e
  | _::_,[],e=> by cases e
  | (a,u)::l,(b,v)::l',e=> by
    unfold smap at e
    rw [List.map_cons,List.map_cons] at e
    injection e with e1 e2
    injection e1 with e1 e3
    injection e1 with e1
    have e3:u=v:=e3
    have e1:a=b:=e1
    rw [e1,e3,A2w e2]
theorem B2K {l l':List (Str×W)} (e:V8 l=V8 l'):l=l':=by
  unfold V8 at e
  injection e with e1 e2
  refine A2w ?_
  unfold smap at e1 e2 ⊢
  rw [List.map_map] at e1 e2
  refine List.ext_getElem (by simpa using congrArg List.length e1) fun i h1 h2=> ?_
  have h1':i < l.length:=by simpa using h1
  have h2':i < l'.length:=by simpa using h2
  have a:=congrArg (fun z=> z[i]?) e1
  have b:=congrArg (fun z=> z[i]?) e2
  simp only [List.getElem?_map,List.getElem?_eq_getElem h1',List.getElem?_eq_getElem h2',Option.map_some,Function.comp] at a b
  simp only [List.getElem_map]
  injection a with a
  injection b with b
  have a:W.str l[i].1=W.str l'[i].1:=a
  have b:l[i].2=l'[i].2:=b
  rw [a,b]
section
variable {Q:RR→AH→Prop} {E:AExc→AH→Prop} {h:AH} {a:Addr} {n f C nm:Str} {fs:List (Str×W)} {w u v:W} {l:List (Str×W)} {s:Str} {ws:List W}
theorem A3C {k:SV→MC} (e:h a=some (.ins n fs)) (l:fs.lookup f=some w):A1C n f (.val (.ref a)) k h Q E=k (.val w) h Q E:=
  propext ⟨fun ⟨fs',w',z1,z2,z3⟩=> by rw [e] at z1;cases z1;rw [l] at z2;cases z2;exact z3,fun z=> ⟨fs,w,e,l,z⟩⟩
theorem A86 {k:MC} (e:h a=some (.ins n fs)) (l:fs.length < 1000):v7 n f (.val (.ref a)) w k h Q E=k (D6 h a (.ins n (o5 f w fs))) Q E:=
  propext ⟨fun ⟨fs',z1,z2,z3⟩=> by rw [e] at z1;cases z1;exact z3,fun z=> ⟨fs,e,l,z⟩⟩
theorem B4I {k:Addr→MC} (e:h a=some (.ins C fs)) (l:fs.lookup nm=none):R8 C nm (.val (.ref a)) k h Q E=k a h Q E:=
  propext ⟨fun z=> z.2,fun z=> ⟨⟨fs,e,l⟩,z⟩⟩
theorem A4Z {c:Cont} (e:h a=some (.cont c)):L5 h (.val (.ref a))= .cv c:=by
  show (match h a with
    | some (.cont c)=> Vw.cv c
    | _=> .wv (.ref a))=_
  rw [e]
theorem cvM {l:List (Str×W)}:(Vw.cv (.map (smap l))).toW=V8 l:=by
  unfold V8 smap
  simp only [Vw.toW,Cont.fz]
theorem C2n {neg:Bool} {P:RV→Prop} {vw:Vw} (e:vw.toW=V8 l):inM neg vw (.str s) P=P (.val (.bl (if neg=true then !(l.lookup s).isSome else (l.lookup s).isSome))):=
  propext ⟨fun ⟨l',s',z1,z2,z3⟩=> by rw [e] at z1;cases B2K z1;cases z2;exact z3,fun z=> ⟨l,s,e,rfl,z⟩⟩
theorem B4D {neg:Bool} {k:SV→MC} (e:h a=some (.cont (.map (smap l)))):inX neg (.str s) (.val (.ref a)) k h Q E=k (.val (.bl (if neg=true then !(l.lookup s).isSome else (l.lookup s).isSome))) h Q E:=by
  unfold inX
  rw [A4Z e,C2n cvM]
  rfl
theorem C0F {P:RV→Prop} {vw:Vw} (e:vw.toW=V8 l) (hu:l.lookup s=some u):A5D vw (.str s) P=P (.val u):=
  propext ⟨fun ⟨l',s',u',z1,z2,z3,z4⟩=> by rw [e] at z1;cases B2K z1;cases z2;rw [hu] at z3;cases z3;exact z4,fun z=> ⟨l,s,u,e,rfl,hu,z⟩⟩
theorem A6L {k:SV→MC} (e:h a=some (.cont (.map (smap l)))) (hu:l.lookup s=some u):A7D (.val (.ref a)) (.str s) k h Q E=k (.val u) h Q E:=by
  unfold A7D
  rw [A4Z e,C0F cvM hu]
  rfl
theorem B9W {P:RV→Prop}:u6 [.cv (.map (smap l))] P=P (.val (.int l.length)):=
  propext ⟨fun ⟨l',z1,z2⟩=> by cases A2w z1;exact z2,fun z=> ⟨l,rfl,z⟩⟩
theorem B8s {P:RV→Prop}:A0u [.cv (.map (smap l))] P=P (.own (.seq (l.map fun p=> W.str p.1))):=
  propext ⟨fun ⟨l',z1,z2⟩=> by cases A2w z1;exact z2,fun z=> ⟨l,rfl,z⟩⟩
theorem B3Q {k:SV→MC} (e:h a=some (.cont (.map (smap l)))):cb u6 [.val (.ref a)] k h Q E=k (.val (.int l.length)) h Q E:=by
  unfold cb
  rw [List.map_cons,List.map_nil,A4Z e,B9W]
  rfl
theorem B91 {k:SV→MC} (e:h a=some (.cont (.map (smap l)))):cb A0u [.val (.ref a)] k h Q E=k (.own (.seq (l.map fun p=> W.str p.1))) h Q E:=by
  unfold cb
  rw [List.map_cons,List.map_nil,A4Z e,B8s]
  rfl
theorem B2i {k:MC} (e:h a=some (.cont (.map (smap l)))) (hl:l.length < sizeLine):i7 (.val (.ref a)) (.str s) v k h Q E=k (D6 h a (.cont (.map (smap (g8 l s v))))) Q E:=
  propext ⟨fun ⟨l',s',z1,z2,z3,z4⟩=> by rw [e] at z1;injection z1 with z1;injection z1 with z1;injection z1 with z1;cases A2w z1;cases z2;exact z4,fun z=> ⟨l,s,e,rfl,hl,z⟩⟩
theorem B3o {k:MC} (e:h a=some (.cont (.map (smap l)))) (hl:(l.lookup s).isSome=true):A5J (.val (.ref a)) (.str s) k h Q E=k (D6 h a (.cont (.map (smap (n5 l s))))) Q E:=
  propext ⟨fun ⟨l',s',z1,z2,z3,z4⟩=> by rw [e] at z1;injection z1 with z1;injection z1 with z1;injection z1 with z1;cases A2w z1;cases z2;exact z4,fun z=> ⟨l,s,e,rfl,hl,z⟩⟩
theorem C1U {k:(AH→Prop)→List W→MC} (e:h a=some (.cont (.seq ws))):v4 (.val (.ref a)) k h Q E=k (fun g=> g a=some (.cont (.seq ws))) ws h Q E:=
  propext ⟨fun ⟨ws',z1,z2⟩=> by rw [e] at z1;cases z1;exact z2,fun z=> ⟨ws,e,z⟩⟩
theorem A82 {α:Type} {ok:AH→Prop} {body:W→(Option W→MC)→MC} {k:List W→MC} (e:α→W) (f:α→Option W) (o:ok h):∀(l:List α) (acc:List W),(∀a∈l,∀kk,body (e a) kk h Q E=kk (f a) h Q E)→acc.length+l.length≤sizeLine→A1m ok body k (l.map e) acc h Q E=k (acc++l.filterMap f) h Q E
  | [],acc,_,_=> by
    show (ok h∧k acc h Q E)=_
    simp [o]
  | w::ws,acc,hb,hl=> by
    rw [List.length_cons] at hl
    show (ok h∧body (e w) _ h Q E)=_
    rw [hb w (by simp)]
    cases q:f w with
    | none=>
      rw [List.filterMap_cons_none q,←A82 (k:=k) e f o ws acc (fun w hw=> hb w (by simp [hw])) (by omega)]
      exact propext ⟨fun z=> z.2,fun z=> ⟨o,z⟩⟩
    | some y=>
      rw [List.filterMap_cons_some q,List.append_cons,←A82 (k:=k) e f o ws (acc++[y]) (fun w hw=> hb w (by simp [hw])) (by rw [List.length_append,List.length_cons,List.length_nil];omega)]
      exact propext ⟨fun z=> z.2.2,fun z=> ⟨o,by omega,z⟩⟩
theorem B2J {α:Type} {ok:AH→Prop} {body:W→Unit→(Unit→MC)→(Unit→MC)→MC} {k:Unit→MC} (e:α→W) (r:α→Option AExc) (o:ok h):∀l:List α,(∀a∈l,∀kn kb,body (e a) () kn kb h Q E=match r a with
    | none=> kn () h Q E
    | some x=> E x h)→n7 ok body k (l.map e) () h Q E=match l.findSome? r with
    | none=> k () h Q E
    | some x=> E x h
  | [],_=> by
    show (ok h∧k () h Q E)=_
    simp [o]
  | w::ws,hb=> by
    show (ok h∧body (e w) () (n7 ok body k (ws.map e)) k h Q E)=_
    rw [hb w (by simp),List.findSome?_cons]
    cases q:r w with
    | none=>
      have z:=B2J (k:=k) e r o ws fun w hw=> hb w (by simp [hw])
      show (ok h∧n7 ok body k (ws.map e) () h Q E)=_
      rw [z]
      exact propext ⟨fun z=> z.2,fun z=> ⟨o,z⟩⟩
    | some x=> exact propext ⟨fun z=> z.2,fun z=> ⟨o,z⟩⟩
theorem B2I {α σ τ:Type} {ok:AH→Prop} {body:W→σ→(σ→MC)→(σ→MC)→MC} {k:σ→MC} (e:α→W) (eS:τ→σ) (f:τ→α→τ) (o:ok h) (I:Nat→τ→Prop):∀(l:List α) (t:τ) (i:Nat),I i t→(∀(j:Nat) a,l[j]? =some a→∀t kn kb,I (i+j) t→I (i+j+1) (f t a)∧body (e a) (eS t) kn kb h Q E=kn (eS (f t a)) h Q E)→n7 ok body k (l.map e) (eS t) h Q E=k (eS (l.foldl f t)) h Q E
  | [],t,i,_,_=> by
    show (ok h∧k (eS t) h Q E)=_
    simp [o]
  | a::l,t,i,h0,hb=> by
    show (ok h∧body (e a) (eS t) (n7 ok body k (l.map e)) k h Q E)=_
    obtain ⟨i',z⟩:=hb 0 a rfl t (n7 ok body k (l.map e)) k h0
    rw [z,B2I e eS f o I l (f t a) (i+1) i' fun j b hj t kn kb hi=> ?_,List.foldl_cons]
    · exact propext ⟨fun z=> z.2,fun z=> ⟨o,z⟩⟩
    · have z:=hb (j+1) b (by simpa using hj) t kn kb (by rwa [show i+(j+1)=i+1+j by omega])
      rwa [show i+(j+1)+1=i+1+j+1 by omega] at z
theorem C3J {neg:Bool} {a b:Str} {k:SV→MC}:C9 (oInS neg) (.val (.str a)) (.val (.str b)) k=k (.val (.bl (if neg=true then !A0V a b else A0V a b))):=rfl
theorem B3u {xs:List W} {j:Int} {k:SV→MC}:C9 oMulX (.val (.lst xs)) (.val (.int j)) k=F5 (-(2 ^ 63)≤j∧j < 2 ^ 63∧xs.length*j.toNat≤sizeLine) (k (.own (.seq (List.replicate j.toNat xs).flatten))):=by
  funext h Q E
  exact propext ⟨fun ⟨ys,e,z1,z2⟩=> (by cases e;exact ⟨z1,z2⟩),fun ⟨z1,z2⟩=> ⟨xs,rfl,z1,z2⟩⟩
theorem C0P {x:Str} {j:Int} {k:SV→MC}:C9 oMulX (.val (.str x)) (.val (.int j)) k=F5 (0≤j∧j≤1000∧x.length≤1000) (k (.val (.str (i5 x j)))):=rfl
theorem B25:∀{l:List (Str×W)} {s:Str},l.lookup s=none→(l.any fun p=> decide (p.1=s))=false
  | [],_,_=> rfl
  | (g,u)::l,s,e=> by
    rw [List.lookup_cons] at e
    cases q:s==g with
    | true=> rw [q] at e;cases e
    | false=>
      rw [q] at e
      rw [List.any_cons,B25 e,Bool.or_false]
      exact decide_eq_false fun z=> by
        have z:g=s:=z
        rw [z,beq_self_eq_true] at q
        cases q
theorem B2b {l:List (Str×W)} {s:Str} {w:W} (e:l.lookup s=none):g8 l s w=l++[(s,w)]:=by
  unfold g8
  rw [B25 e]
  rfl
end
end Ab
namespace Ab
open PySem PySem.Spec PyProof.Rows L2 RZ
def B0N (xs:List SV) (k:List W→MC):MC:=match xs with
  | [x,y,z]=> R7 x fun i=> R7 y fun j=> R7 z fun c=> F5 (c= -1∧ -(2 ^ 62)≤i∧i < 2 ^ 62∧ -(2 ^ 62)≤j∧j < 2 ^ 62) (k (B5Z i (i - j).toNat))
  | _=> bad
def C3U (a:CS):C5:=fun k=> a fun xs=> B0N xs k
section
variable {Q:RR→AH→Prop} {E:AExc→AH→Prop} {env:A0} {tr:W1} {mr:CS}
@[simp] theorem C5x {a:CS} {k:List W→MC}:C3U a k=a fun w=> B0N w k:=rfl
@[simp] theorem C5h {i j:Int} {k:List W→MC}:B0N [.val (.int i),.val (.int j),.val (.int (-1))] k=F5 (-(2 ^ 62)≤i∧i < 2 ^ 62∧ -(2 ^ 62)≤j∧j < 2 ^ 62) (k (B5Z i (i - j).toNat)):=by
  funext h Q E
  exact propext ⟨fun ⟨a,z⟩=> ⟨a.2,z⟩,fun ⟨a,z⟩=> ⟨⟨rfl,a⟩,z⟩⟩
end
end Ab
namespace Ab
open PySem PySem.Spec PyProof.Rows L2 RZ
section
variable {Q:RR→AH→Prop} {E:AExc→AH→Prop} {h:AH} {l:List (Str×W)} {s:Str} {u w:W}
end
def B5l (x:SV) (w:W) (k:SV→MC):MC:=fun h Q E=> match x with
  | .own (.map kvs)=> ∃l s,kvs=smap l∧w= .str s∧(l.lookup s).isSome=true∧k (.own (.map (smap (n5 l s)))) h Q E
  | _=> False
def C30 (x:SV) (mk:CW) (k:SV→MC):MC:=fun h Q E=> (∃l,x= .own (.map (smap l)))∧mk (fun w=> B5l x w k) h Q E
def itK (w:W) (k:List W→MC):MC:=fun h Q E=> ∃l,w=V8 l∧k (l.map fun p=> W.str p.1) h Q E
def C4K (a:CW):C5:=fun k=> a fun w=> itK w k
def A92 (x y:SV) (k:SV→SV→MC):MC:=match x,y with
  | .own c,.own d=> k (.own c) (.own d)
  | _,_=> bad
def C3m (a b:CE) (k:SV→SV→MC):MC:=a fun x=> b fun y=> A92 x y k
def C27 (mv:CW) (x:SV) (mk1:CW) (y:SV) (mk2:SV→CW) (k:SV→SV→MC):MC:=mv fun w=> un2 w fun a b=> mk1 fun w1=> A3d x w1 a fun x'=> mk2 x' fun w2=> A3d y w2 b fun y'=> k x' y'
def C3g (mv:CW) (m1:CE) (mk1:CW) (m2:CE) (mk2:CW) (m3:CE) (mk3:CW) (k:MC):MC:=mv fun w=> un3 w fun a b c=> m1 fun x=> mk1 fun w1=> i7 x w1 a (m2 fun y=> mk2 fun w2=> i7 y w2 b (m3 fun z=> mk3 fun w3=> i7 z w3 c k))
section
variable {Q:RR→AH→Prop} {E:AExc→AH→Prop} {env:A0} {t t1 t2 t3 ta tb:AT} {m m1 m2 m3 ma mb:CE} {tv tv2 tk1 tk2 tk3:C3} {mv mv2 mk1 mk2 mk3:CW} {D:AEnds} {i j:Nat}
@[simp] theorem C6f {l:List (Str×W)} {mk:CW} {k:SV→MC}:C30 (.own (.map (smap l))) mk k=mk fun w=> B5l (.own (.map (smap l))) w k:=by
  funext h Q E
  exact propext ⟨fun z=> z.2,fun z=> ⟨⟨l,rfl⟩,z⟩⟩
@[simp] theorem C7G {a:CW} {k:List W→MC}:C4K a k=a fun w=> itK w k:=rfl
@[simp] theorem C6W {a b:CE} {k:SV→SV→MC}:C3m a b k=a fun x=> b fun y=> A92 x y k:=rfl
@[simp] theorem C5K {c d:Cont} {k:SV→SV→MC}:A92 (.own c) (.own d) k=k (.own c) (.own d):=rfl
@[simp] theorem C6F {mv:CW} {x:SV} {mk1:CW} {y:SV} {mk2:SV→CW} {k:SV→SV→MC}:C27 mv x mk1 y mk2 k=mv fun w=> un2 w fun a b=> mk1 fun w1=> A3d x w1 a fun x'=> mk2 x' fun w2=> A3d y w2 b fun y'=> k x' y':=rfl
@[simp] theorem C51 {mv:CW} {m1:CE} {mk1:CW} {m2:CE} {mk2:CW} {m3:CE} {mk3:CW} {k:MC}:C3g mv m1 mk1 m2 mk2 m3 mk3 k=mv fun w=> un3 w fun a b c=> m1 fun x=> mk1 fun w1=> i7 x w1 a (m2 fun y=> mk2 fun w2=> i7 y w2 b (m3 fun z=> mk3 fun w3=> i7 z w3 c k)):=rfl
end
end Ab
namespace Ab
open PySem PySem.Spec PyProof.Rows L2 RZ
@[simp] theorem C5H {xs:List W} {i:Int} {w:W} {k1:SV→W→MC}:lm C08 (.own (.seq xs)) [.int i,w] k1=F5 (xs.length < sizeLine∧0≤i∧i < 2 ^ 63) (k1 (.own (.seq (xs.take i.toNat++[w]++xs.drop i.toNat))) .non):=by
  funext h Q E
  exact propext ⟨fun ⟨a,b,c,z⟩=> ⟨⟨a,b,c⟩,z⟩,fun ⟨⟨a,b,c⟩,z⟩=> ⟨a,b,c,z⟩⟩
@[simp] theorem C5E {xs:List W} {k1:SV→W→MC}:lm B9w (.own (.seq xs)) [] k1=k1 (.own (.seq xs.reverse)) .non:=rfl
@[simp] theorem C5J {xs:List W} {k1:SV→W→MC}:lm C2F (.own (.seq xs)) [] k1=k1 (.own (.seq [])) .non:=rfl
def B5U (x:SV) (k:MC):MC:=fun h Q E=> isM (L5 h x)∧k h Q E
def B4c (x:SV) (w d:W) (k:SV→MC):MC:=fun h Q E=> B5N (L5 h x) w d fun r=> j9 k r h Q E
def C2D (m:CE) (mk md:CW):CE:=fun k=> m fun x=> B5U x (mk fun w=> md fun d=> B4c x w d k)
section
variable {Q:RR→AH→Prop} {E:AExc→AH→Prop} {env:A0} {t:AT} {m:CE} {tv tv2:C3} {mv mv2:CW}
end
@[simp] theorem C6K {m:CE} {mk md:CW} {k:SV→MC}:C2D m mk md k=m fun x=> B5U x (mk fun w=> md fun d=> B4c x w d k):=rfl
section
variable {h:AH} {Q:RR→AH→Prop} {E:AExc→AH→Prop} {a:Addr} {l:List (Str×W)} {s:Str}
end
def B5i (x:SV) (k:MC):MC:=fun h Q E=> match x with
  | .val (.ref a)=> (∃l,h a=some (.cont (.map (smap l))))∧k h Q E
  | _=> False
def C4B (m:CE) (mk:CW) (k:MC):MC:=m fun x=> B5i x (mk fun w=> A5J x w k)
section
variable {Q:RR→AH→Prop} {E:AExc→AH→Prop} {env:A0} {D:AEnds} {t:AT} {m:CE} {tv:C3} {mv:CW}
end
@[simp] theorem C64 {m:CE} {mk:CW} {k:MC}:C4B m mk k=m fun x=> B5i x (mk fun w=> A5J x w k):=rfl
end Ab
namespace Ab
open PySem PySem.Spec PyProof.Rows L2 RZ
@[simp] theorem C6X {i:Int} {k:SV→MC}:cb B5L [.val (.int i)] k=F5 (i.natAbs.log2 < 1920) (k (.val (.str (toString i)))):=rfl
@[simp] theorem C5w {x:Str} {k:SV→MC}:cb B5L [.val (.str x)] k=k (.val (.str x)):=rfl
def A48 (x:SV) (k:MC):MC:=fun h Q E=> (∃s,L5 h x= .wv (.str s))∧k h Q E
def B4w (x y:SV) (k:SV→MC):MC:=fun h Q E=> ∃(s:Str) (ys:List Str),L5 h x= .wv (.str s)∧(L5 h y).items=some (ys.map W.str)∧(ys.map (·.length)).sum+ys.length*s.length≤16777216∧k (.val (.str (Txt.join s ys))) h Q E
def C36 (m me:CE):CE:=fun k=> m fun x=> A48 x (me fun y=> B4w x y k)
section
variable {Q:RR→AH→Prop} {E:AExc→AH→Prop} {env:A0} {t te:AT} {m me:CE}
end
@[simp] theorem C7E {m me:CE} {k:SV→MC}:C36 m me k=m fun x=> A48 x (me fun y=> B4w x y k):=rfl
@[simp] theorem C5Y {s:Str} {k:MC}:A48 (.val (.str s)) k=k:=by
  funext h Q E
  exact propext ⟨fun z=> z.2,fun z=> ⟨⟨s,rfl⟩,z⟩⟩
end Ab
namespace Ab
open PySem PySem.Spec PyProof.Rows L2 RZ
def eM1 (o:L4) (m me:CE):CE:=fun k=> m fun x=> A48 x (me fun y=> cb o [x,y] k)
def C21 (neg:Bool) (tab:List (Str×Int)) (mk:CW):CE:=fun k=> mk fun w=> fun h Q E=> ∃s,w= .str s∧k (.val (.bl (if neg=true then !(j5 tab s).isSome else (j5 tab s).isSome))) h Q E
def C32 (tab:List (Str×Int)) (mk:CW):CE:=fun k=> mk fun w=> fun h Q E=> ∃s i,w= .str s∧j5 tab s=some i∧k (.val (.int i)) h Q E
section
variable {Q:RR→AH→Prop} {E:AExc→AH→Prop} {env:A0} {t te:AT} {m me:CE} {tv:C3} {mv:CW}
end
def B4m (neg:Bool) (tab:List (Str×Int)) (w:W) (k:SV→MC):MC:=fun h Q E=> ∃s,w= .str s∧k (.val (.bl (if neg=true then !(j5 tab s).isSome else (j5 tab s).isSome))) h Q E
def C3C (tab:List (Str×Int)) (w:W) (k:SV→MC):MC:=fun h Q E=> ∃s i,w= .str s∧j5 tab s=some i∧k (.val (.int i)) h Q E
@[simp] theorem C7s {o:L4} {m me:CE} {k:SV→MC}:eM1 o m me k=m fun x=> A48 x (me fun y=> cb o [x,y] k):=rfl
@[simp] theorem C6m {neg:Bool} {tab:List (Str×Int)} {mk:CW} {k:SV→MC}:C21 neg tab mk k=mk fun w=> B4m neg tab w k:=rfl
@[simp] theorem C6u {tab:List (Str×Int)} {mk:CW} {k:SV→MC}:C32 tab mk k=mk fun w=> C3C tab w k:=rfl
@[simp] theorem C65 {neg:Bool} {tab:List (Str×Int)} {s:Str} {k:SV→MC}:B4m neg tab (.str s) k=k (.val (.bl (if neg=true then !(j5 tab s).isSome else (j5 tab s).isSome))):=by
  funext h Q E
  exact propext ⟨fun ⟨s',e,z⟩=> by injection e with e;subst e;exact z,fun z=> ⟨s,rfl,z⟩⟩
@[simp] theorem C6g {a b:Str} {k:SV→MC}:cb C18 [.val (.str a),.val (.str b)] k=F5 ((b.length==0)=false∧a.length+2≤sizeLine) (k (.own (.seq ((Txt.split a b).map W.str)))):=by
  funext h Q E
  exact propext ⟨fun ⟨a,b,z⟩=> ⟨⟨a,b⟩,z⟩,fun ⟨⟨a,b⟩,z⟩=> ⟨a,b,z⟩⟩
end Ab
namespace Ab
open PySem PySem.Spec PyProof.Rows L2 RZ
@[simp] theorem C60 {b:Bool} {k:SV→MC}:cb C3L [.val (.bl b)] k=k (.val (.int (if b then 1 else 0))):=rfl
end Ab
namespace Ab
open PySem PySem.Spec PyProof.Rows L2 RZ
end Ab
namespace Ab
open PySem PySem.Spec PyProof.Rows L2 RZ
end Ab
namespace Ab
open PySem PySem.Spec PyProof.Rows L2 RZ
def B5S (C:Str) (neg:Bool) (f:List W→MC) (x:SV) (w:W) (k:SV→MC):MC:=fun h Q E=> match x with
  | .val (.ref a)=> (∃fs,h a=some (.ins C fs))∧B5D w∧f [.ref a,w] h (fun r h2=> ∃c:Bool,r= .val (.bl c)∧k (.val (.bl (if neg=true then !c else c))) h2 Q E) fun _ _=> False
  | _=> False
def C4L (C:Str) (neg:Bool) (f:List W→MC) (m:CE) (mv:CW):CE:=fun k=> m fun x=> mv fun w=> B5S C neg f x w k
section
variable {Q:RR→AH→Prop} {E:AExc→AH→Prop} {env:A0} {t:AT} {m:CE} {tv:C3} {mv:CW}
end
@[simp] theorem C7Z {C:Str} {neg:Bool} {f:List W→MC} {m:CE} {mv:CW} {k:SV→MC}:C4L C neg f m mv k=m fun x=> mv fun w=> B5S C neg f x w k:=rfl
@[simp] theorem C5f {n:Str} {b:Bool} {ws:List W} {k:SV→MC}:A5E n b (.val (.lst ws)) k=k (.val (.bl false)):=rfl
@[simp] theorem C5W {n:Str} {b:Bool} {ws:List W} {k:SV→MC}:A5E n b (.val (.tup ws)) k=k (.val (.bl false)):=rfl
@[simp] theorem C5T {n:Str} {b:Bool} {x:Str} {k:SV→MC}:A5E n b (.val (.str x)) k=k (.val (.bl false)):=rfl
end Ab
namespace Ab
open PySem PySem.Spec PyProof.Rows L2 RZ
def scL (body:W→(Option W→MC)→MC) (k:List (List Int)→MC):List W→List (List Int)→MC
  | [],acc=> fun h Q E=> ∃d,1≤d∧C2y d acc∧k acc h Q E
  | w::ws,acc=> body w fun o=> match o with
    | some y=> fun h Q E=> ∃n:List Int,y= .tup (n.map .int)∧Few acc∧scL body k ws (acc++[n]) h Q E
    | none=> scL body k ws acc
def C4j (it:C5) (body:W→(Option W→MC)→MC):CE:=fun k=> it fun ws=> scL body (fun acc=> k (.own (.seq ((B0Q acc).map fun n=> .tup (n.map .int))))) ws []
@[simp] theorem C7j {it:C5} {body:W→(Option W→MC)→MC} {k:SV→MC}:C4j it body k=it fun ws=> scL body (fun acc=> k (.own (.seq ((B0Q acc).map fun n=> .tup (n.map .int))))) ws []:=rfl
section
variable {Q:RR→AH→Prop} {E:AExc→AH→Prop} {env:A0} {ti:U2} {mi:C5} {tb:G7} {tv:C3}
end
end Ab
namespace Ab
open PySem PySem.Spec PyProof.Rows L2 RZ
open PySem.SeqAt in
open PySem.SeqAt in
def B5j (k:List Int):W:= .tup (k.map .int)
theorem RepL.perm {K:PySem.W.Frag} {H:Hp} {xs ys:List V} (p:xs.Perm ys):∀{ks:List (List Int)},RepL K H (ks.map B5j) xs→∃ks':List (List Int),ks'.Perm ks∧RepL K H (ks'.map B5j) ys:=by
  induction p with
  | nil=>
    intro ks r
    cases ks with
    | nil=> exact ⟨[],.refl _,.nil⟩
    | cons a ks=> obtain ⟨v,t,e,_⟩:=r.of_cons;cases e
  | cons x p ih=>
    intro ks r
    cases ks with
    | nil=> have:=r.of_nil;cases this
    | cons a ks=>
      obtain ⟨v,t,e,r1,r2⟩:=r.of_cons
      cases e
      obtain ⟨ks',p',r'⟩:=ih r2
      exact ⟨a::ks',p'.cons a,.cons r1 r'⟩
  | swap x y l=>
    intro ks r
    cases ks with
    | nil=> have:=r.of_nil;cases this
    | cons a ks=>
      obtain ⟨v,t,e,r1,r2⟩:=r.of_cons
      cases e
      cases ks with
      | nil=> have:=r2.of_nil;cases this
      | cons b ks=>
        obtain ⟨v,t,e,r3,r4⟩:=r2.of_cons
        cases e
        exact ⟨b::a::ks,.swap a b ks,.cons r3 (.cons r1 r4)⟩
  | trans p q ih1 ih2=>
    intro ks r
    obtain ⟨k1,p1,r1⟩:=ih1 r
    obtain ⟨k2,p2,r2⟩:=ih2 r1
    exact ⟨k2,p2.trans p1,r2⟩
end Ab
namespace Ab
open PySem PySem.Spec PyProof.Rows L2 RZ
abbrev N3:=List W→MC
abbrev CF:=(List N3→MC)→MC
abbrev AkM:=List W→CF
def C3i:CF:=fun _=> bad
def A0c (m:AkM):A3c:=fun ws h Qa=> ∃Q0:List N3→AH→Prop,(∀mls h',Q0 mls h'→Qa (mls.map upc) h')∧m ws (fun mls h' _ _=> Q0 mls h') h (fun _ _=> False) fun _ _=> False
theorem C1P {m:AkM}:∀ws h Q Q',(∀a b,Q a b→Q' a b)→A0c m ws h Q→A0c m ws h Q':=fun ws h Q Q' k ⟨Q0,a,b⟩=> ⟨Q0,fun mls h' z=> k _ _ (a mls h' z),b⟩
theorem C3y {m:AkM}:∀ws h (R:List B8→AH→Prop),A0c m ws h R→A0c m ws h fun sps g=> (∀sp∈sps,L6 sp)∧R sps g:=fun ws h R ⟨Q0,a,b⟩=> ⟨Q0,fun mls h' z=> ⟨fun sp hs=> by
  obtain ⟨ml,_,rfl⟩:=List.mem_map.mp hs
  exact upc.m,a mls h' z⟩,b⟩
def A3R (c:CF) (k:List N3→MC):MC:=fun h Q E=> c (fun mls h' _ _=> k mls h' Q E) h (fun _ _=> False) fun _ _=> False
def eAk (m:AkM) (a:C5):CF:=fun k=> a fun ws=> A3R (m ws) k
def C2g (a b:CF):CF:=fun k=> a fun xs=> b fun ys=> F5 (xs.length+ys.length≤sizeLine) (k (xs++ys))
def lcF (body:N3→CW) (k:List W→MC):List N3→List W→MC
  | [],acc=> k acc
  | m::ms,acc=> body m fun y=> F5 (acc.length < sizeLine) (lcF body k ms (acc++[y]))
def B0C (ak:CF) (body:N3→CW):CE:=fun k=> ak fun ms=> lcF body (fun acc=> k (.own (.seq acc))) ms []
def A7h (mm:N3→Addr→List W→MC) (ml:N3):CE:=fun k h Q E=> ∀f:Addr,call0 (mm ml f [.ref f]) k h Q E
section
variable {Q:RR→AH→Prop} {E:AExc→AH→Prop} {env:A0} {h:AH}
@[simp] theorem C4b {m:AkM} {a:C5} {k:List N3→MC}:eAk m a k=a fun ws=> A3R (m ws) k:=rfl
@[simp] theorem C54 {a b:CF} {k:List N3→MC}:C2g a b k=a fun xs=> b fun ys=> F5 (xs.length+ys.length≤sizeLine) (k (xs++ys)):=rfl
@[simp] theorem C3q {ak:CF} {body:N3→CW} {k:SV→MC}:B0C ak body k=ak fun ms=> lcF body (fun acc=> k (.own (.seq acc))) ms []:=rfl
@[simp] theorem C1X {body:N3→CW} {k:List W→MC} {acc:List W}:lcF body k [] acc=k acc:=rfl
@[simp] theorem B9z {body:N3→CW} {k:List W→MC} {m:N3} {ms:List N3} {acc:List W}:lcF body k (m::ms) acc=body m fun y=> F5 (acc.length < sizeLine) (lcF body k ms (acc++[y])):=rfl
theorem C2i {ms:List N3} {k:List N3→MC} {m:CF} (e:∀kk:List N3→MC,m kk=kk ms):A3R m k=k ms:=by
  funext h Q E
  unfold A3R
  rw [e]
def SF (Q:RR→AH→Prop) (E:AExc→AH→Prop) (env:A0) (t:AFT) (m:CF):Prop:=∀h (k:List N3→MC) (K:List B8→A0→AH→Prop),(∀mls h',k mls h' Q E→K (mls.map upc) env h')→m k h Q E→t env h K
theorem C1O {m:AkM} {ta:E5} {ma:C5} (a:SA Q E env ta ma):SF Q E env (aAk (A0c m) ta) (eAk m ma):=fun h k K hk z=>
  a h _ _ (fun ws h1 z=> ⟨fun mls h'=> k mls h' Q E,fun mls h' y=> hk mls h' y,z⟩) z
theorem B39 {vs:List Nat} {j:Nat} {te:Addr→B8→C3} {body:N3→CW} {e1:Addr→A0} (he:∀f,(P8 env vs).set j (some (.val (.ref f)))=e1 f) (hm:∀f,mend env (e1 f) vs=env) (b:∀f ml,SA Q E (e1 f) (te f (upc ml)) (body ml)) {k:List W→MC} {K:List W→A0→AH→Prop} (hk:∀acc h',k acc h' Q E→K acc env h'):
    ∀(ms:List N3) (acc:List W) (h:AH),lcF body k ms acc h Q E→lcLoopF vs j te K (ms.map upc) acc env h
  | [],acc,h,z=> hk acc h z
  | m::ms,acc,h,z=> fun f=> by
    rw [he f]
    exact b f m h _ _ (fun y h3 z=> ⟨z.1,by rw [hm f];exact B39 he hm b hk ms _ h3 z.2⟩) z
theorem C12 {vs:List Nat} {j:Nat} {tf:AFT} {mf:CF} {te:Addr→B8→C3} {body:N3→CW} (it:SF Q E env tf mf) (e1:Addr→A0) (he:∀f,(P8 env vs).set j (some (.val (.ref f)))=e1 f) (hm:∀f,mend env (e1 f) vs=env) (b:∀f ml,SA Q E (e1 f) (te f (upc ml)) (body ml)):SN Q E env (A7a vs j tf te) (B0C mf body):=fun h k K hk z=>
  it h _ _ (fun ms h1 z=> B39 he hm b (k:=fun acc=> k (.own (.seq acc))) (fun acc h' z=> hk (.own (.seq acc)) h' z) ms [] h1 z) z
theorem C2R {m i:Nat} {f:Addr} {ml:N3} {tc:Addr→B8→(AExc→A0→AH→Prop)→C0} {mm:N3→Addr→List W→MC} (e:env[i]? =some (some (.val (.ref f))))
    (hz:∀(f:Addr) (sp:B8),(∀ws h Q E,upc ml ws h Q E→sp ws h Q E)→∀ws h Qa Ea,ws.length=1→upc (mm ml f) ws h Qa Ea→tc f sp (C7 Ea) (C2 Qa) (F8 m ws) h):SN Q E env (B0G E0 m tc i f (upc ml)) (A7h mm ml):=fun h k K hk z=>
  ⟨e,fun r h2=> k r.sv h2 Q E,fun _ _=> False,fun r h2 z=> by cases r <;> exact hk _ _ z,fun x h2 z=> z.elim,hz f _ (fun _ _ _ _ z=> z) _ _ _ _ rfl ⟨_,_,fun _ _ z=> z,fun _ _ z=> z,z f⟩⟩
inductive LsOk (env:A0):List ((AExc→A0→AH→Prop)→AT)→List N3→Prop where
  | nil:LsOk env [] []
  | cons {t:(AExc→A0→AH→Prop)→AT} {ml:N3} {ts:List ((AExc→A0→AH→Prop)→AT)} {ms:List N3}:(∀ws h Q E,upc ml ws h Q E→u7 t env ws h Q E)→LsOk env ts ms→LsOk env (t::ts) (ml::ms)
theorem LsOk.imps {ts:List ((AExc→A0→AH→Prop)→AT)} {ms:List N3} (a:LsOk env ts ms):Imps (ts.map fun t=> u7 t env) (ms.map upc):=by
  induction a with
  | nil=> exact .nil
  | cons i t ih=> exact .cons upc.m i ih
theorem C04 {i:Nat} {env':A0} {ts:List ((AExc→A0→AH→Prop)→AT)} {ms:List N3} {Q0:List N3→AH→Prop} {Qa:List B8→AH→Prop} (hQ:∀mls h,Q0 mls h→Qa (mls.map upc) h) (he:env.set i none=env') (l:LsOk env' ts ms):
    ∀h,(fun mls h' (_:RR→AH→Prop) (_:AExc→AH→Prop)=> Q0 mls h') ms h Q E→A9x i ts (fun sps _ h'=> ∃tps,Imps sps tps∧Qa tps h') env h:=fun h z=> by
  subst he
  exact ⟨_,l.imps,hQ _ _ z⟩
def A8X (m:Addr→List W→MC) (l:CL):CE:=fun k=> l fun f ws=> call0 (m f ws) k
@[simp] theorem B8L {m:Addr→List W→MC} {l:CL} {k:SV→MC}:A8X m l k=l fun f ws=> call0 (m f ws) k:=rfl
theorem B73 {n m:Nat} {tc:Addr→B8→(AExc→A0→AH→Prop)→C0} {tb:(AExc→A0→AH→Prop)→AT} {tl:ALT} {ml:CL} {mm:Addr→List W→MC} {ML:List W→MC}
    (hz:∀(f:Addr) (sp:B8),(∀ws h Q E,upc ML ws h Q E→sp ws h Q E)→∀ws h Qa Ea,ws.length=n→upc (mm f) ws h Qa Ea→tc f sp (C7 Ea) (C2 Qa) (F8 m ws) h)
    (hb:∀ws h Q E,upc ML ws h Q E→u7 tb env ws h Q E) (a:SL Q E env tl ml):SN Q E env (A2G E0 n m tc tb tl) (A8X mm ml):=fun h k K hk z=>
  a h _ _ (fun f ws h1 z=> ⟨fun r h2=> k r.sv h2 Q E,fun _ _=> False,fun r h2 z=> by cases r <;> exact hk _ _ z,fun x h2 z=> z.elim,fun l=> hz f _ hb _ _ _ _ l ⟨_,_,fun _ _ z=> z,fun _ _ z=> z,z⟩⟩) z
end
end Ab
namespace Ab
open PySem PySem.Spec PyProof.Rows L2 RZ
def S9 (ss:List Int):Prop:=1≤ss.length∧ss.length≤6∧∀s∈ss,1≤s∧s≤40
inductive Dd where
  | swap (i j:Nat) | tap (n:Int) (c:Nat) | drain (n:Int) (c:Nat) | over (n:Int) (cs:List Nat) | down (n:Int) (cs:List Nat)
abbrev d5 (c:Nat):W:= .int (c:Int)
def Dd.w:Dd→W
  | .swap i j=> .tup [.str "swap",d5 i,d5 j]
  | .tap n c=> .tup [.str "tap",.int n,d5 c]
  | .drain n c=> .tup [.str "drain",.int n,d5 c]
  | .over n cs=> .tup (.str "over":: .int n::cs.map d5)
  | .down n cs=> .tup (.str "down":: .int n::cs.map d5)
def B5d (ss:List Int) (cs:List Nat):Prop:=2≤cs.length∧cs.length≤ss.length∧cs.Nodup∧∀c∈cs,c < ss.length
def A0Y:Int:=1000000000000000000000000000000
def Dd.ok (ss:List Int):Dd→Prop
  | .swap i j=> i < ss.length∧j < ss.length∧i≠j∧ss[i]? =ss[j]?
  | .tap n c=> 0≤n∧n < A0Y∧c < ss.length
  | .drain n c=> 0≤n∧n < A0Y∧c < ss.length
  | .over n cs=> 0≤n∧n < A0Y∧B5d ss cs
  | .down n cs=> 0≤n∧n < A0Y∧B5d ss cs
theorem C3n (d:Dd):d.w.nb 1=true:=by
  cases d <;> refine B4H (n:=0) fun x hx=> ?_
  all_goals simp only [List.mem_cons,List.not_mem_nil,or_false,List.mem_map] at hx
  · rcases hx with rfl | rfl | rfl <;> rfl
  · rcases hx with rfl | rfl | rfl <;> rfl
  · rcases hx with rfl | rfl | rfl <;> rfl
  · rcases hx with rfl | rfl | ⟨c,_,rfl⟩ <;> rfl
  · rcases hx with rfl | rfl | ⟨c,_,rfl⟩ <;> rfl
theorem B8b (n:Nat):X2 0 n=(List.range n).map d5:=C0g
def Dd.word:Dd→Str
  | .swap _ _=> "swap"
  | .tap _ _=> "tap"
  | .drain _ _=> "drain"
  | .over _ _=> "over"
  | .down _ _=> "down"
def Dd.rest:Dd→List W
  | .swap i j=> [d5 i,d5 j]
  | .tap n c=> [.int n,d5 c]
  | .drain n c=> [.int n,d5 c]
  | .over n cs=> .int n::cs.map d5
  | .down n cs=> .int n::cs.map d5
theorem Dd.w_eq (d:Dd):d.w= .tup (.str d.word::d.rest):=by cases d <;> rfl
end Ab
namespace Ab
open PySem PySem.Spec PyProof.Rows L2 RZ
def A4B (x_script:W):MC:=
  ((L1 (A2 (A1 (I9 Q7 (F7 (eSl (eV (.val x_script)) oNo (A7F (eC (.int 63)))) H9))) (A2 (A1 (eC (.int 0))) (A2 (A1 (eC (.int 0))) (A2 (A1 (eC (.int 9465))) (A2 (A1 (eC (.int 0))) B4)))))) ret)
def A18:List W→MC
  | [x_script]=> A4B x_script
  | _=> bad
def A39 (x_bag x_sides:W):MC:=
  (join (fun (s1:SV)=> (M2 (G6 (B5 oGe (B5 oIx (eV s1) (eC (.int 2))) (eV (.val x_sides)))) ((A1 (B5 T6 (B5 oIx (eV s1) (eC (.int 2))) (eV (.val x_sides)))) fun x_side=> (o3 (A1 (B5 A1e (B5 oIx (eV s1) (eC (.int 2))) (eV (.val x_sides)))) s1 (eC (.int 2)) fun x_bag=> ((eV (.val x_side)) ret))) (o3 (A1 (B5 oAdd (B5 oIx (eV s1) (eC (.int 4))) (eC (.int 1)))) s1 (eC (.int 4)) fun x_bag=> ((A1 (B5 oIx (eV x_bag) (eC (.int 3)))) fun x_mix=> (o3 (A1 (B5 T6 (B5 oAdd (B5 oAdd (B5 oAdd (B5 oMulT (B5 T6 (B5 oMulT (eV (.val x_mix)) (eV (.val x_mix))) (eC (.int 2147483629))) (eC (.int 5))) (B5 oMulT (eV (.val x_mix)) (eC (.int 16811)))) (B5 oMulT (eC (.int 7919)) (B5 oIx (eV x_bag) (eC (.int 4))))) (eC (.int 2531011))) (eC (.int 2147483647)))) x_bag (eC (.int 3)) fun x_bag=> ((B5 T6 (B5 oAdd (B5 A1e (B5 oIx (eV x_bag) (eC (.int 3))) (eC (.int 61))) (B5 oMulT (B5 T6 (B5 oIx (eV x_bag) (eC (.int 3))) (eC (.int 8191))) (eC (.int 31)))) (eV (.val x_sides))) ret)))))) fun kj3=> (M2 (tAnd (G6 (B5 oLt (B5 oIx (eV (.val x_bag)) (eC (.int 2))) (eV (.val x_sides)))) (G6 (B5 oLt (B5 oIx (eV (.val x_bag)) (eC (.int 1))) (I9 G4 (F7 (B5 oIx (eV (.val x_bag)) (eC (.int 0))) H9))))) ((A1 (B5 oIx (B5 oIx (eV (.val x_bag)) (eC (.int 0))) (B5 oIx (eV (.val x_bag)) (eC (.int 1))))) fun x_cell=> (o3 (A1 (B5 oAdd (B5 oIx (eV (.val x_bag)) (eC (.int 1))) (eC (.int 1)))) (.val x_bag) (eC (.int 1)) fun x_bag=> (o3 (A1 (eC (.int 0))) x_bag (eC (.int 2)) fun x_bag=> (M2 (G6 (B5 oGe (eV (.val x_cell)) (B5 A7W (eC (.int 10)) (eC (.int 18))))) (o3 (A1 (eV (.val x_cell))) x_bag (eC (.int 2)) fun x_bag=> (kj3 x_bag)) (o3 (A1 (B5 T6 (B5 oAdd (B5 oAdd (B5 oMulT (B5 oIx (eV x_bag) (eC (.int 3))) (eC (.int 48271))) (B5 oMulT (B5 T6 (eV (.val x_cell)) (eC (.int 2147483629))) (eC (.int 69621)))) (eC (.int 12345))) (eC (.int 2147483647)))) x_bag (eC (.int 3)) fun x_bag=> (kj3 x_bag)))))) (kj3 (.val x_bag))))
def U4:List W→MC
  | [x_bag,x_sides]=> A39 x_bag x_sides
  | _=> bad
def A4E (x_bag x_row:W):MC:=
  ((B5 oIx (eV (.val x_row)) (R1 U4 (A2 (A1 (eV (.val x_bag))) (A2 (A1 (I9 G4 (F7 (eV (.val x_row)) H9))) B4)))) ret)
def A19:List W→MC
  | [x_bag,x_row]=> A4E x_bag x_row
  | _=> bad
section
variable {Q:RR→AH→Prop} {E:AExc→AH→Prop} {h:AH} {p:Addr} {xs:List W}
theorem B97 {σ:Type} {k:σ→MC} {f:(σ→MC)→MC} (P:σ→AH→Prop) (hk:∀s h,P s h→k s h Q E) (hf:∀kk:σ→MC,(∀s h,P s h→kk s h Q E)→f kk h Q E):join k f h Q E:=hf k hk
theorem A0v {i:Int} {k:SV→MC} (e:h p=some (.cont (.seq xs))):C9 oIx (.val (.ref p)) (.val (.int i)) k h Q E=W0 xs i (fun w=> k (.val w)) h Q E:=by
  have ev:L5 h (.val (.ref p))= .cv (.seq xs):=by
    show (match h p with
      | some (.cont c)=> Vw.cv c
      | _=> .wv (.ref p))=_
    rw [e]
  show oIx (L5 h (.val (.ref p))) (.wv (.int i)) _=_
  rw [ev,B2m rfl (fun _ z=> by cases z)]
  unfold W0
  cases L2.atI xs i <;> rfl
theorem A2M {i:Int} {w:W} {k:SV→MC} {j:Nat} (e:h p=some (.cont (.seq xs))) (ej:ixN xs.length i=some j):A1i (.val (.ref p)) (.val (.int i)) w k h Q E=k (.val (.ref p)) (D6 h p (.cont (.seq (xs.set j w)))) Q E:=by
  show (match h p with
      | some (.cont (.seq xs))=> ∃j,ixN xs.length i=some j∧k (.val (.ref p)) (D6 h p (.cont (.seq (xs.set j w)))) Q E
      | _=> False)=_
  rw [e]
  show (∃j,ixN xs.length i=some j∧k (.val (.ref p)) (D6 h p (.cont (.seq (xs.set j w)))) Q E)=_
  rw [ej]
  refine propext ⟨fun ⟨_,a,b⟩=> ?_,fun z=> ⟨j,rfl,z⟩⟩
  cases a
  exact b
theorem A6g {b:Prop} [Decidable b] {A B:MC} (x:b→A h Q E) (y:¬b→B h Q E):(if b then A else B) h Q E:=by
  split
  · exact x ‹_›
  · exact y ‹_›
end
def A5A (ns:List Int) (i b m c:Int):AO:= .cont (.seq [.lst (ns.map .int),.int i,.int b,.int m,.int c])
def Bag (n:Nat) (h:AH) (p:Addr):Prop:=∃(ns:List Int) (i b m c:Int),h p=some (A5A ns i b m c)∧0≤i∧i≤ns.length∧0≤b∧0≤m∧m < 2147483648∧0≤c∧c≤n
theorem Bag.le {n m:Nat} {h:AH} {p:Addr} (b:Bag n h p) (l:n≤m):Bag m h p:=let ⟨ns,i,x,y,c,a1,a2,a3,a4,a5,a6,a7,a8⟩:=b;⟨ns,i,x,y,c,a1,a2,a3,a4,a5,a6,a7,by omega⟩
def Dr (c:Nat) (m:Addr→MC) (P:RR→Prop):Prop:=∀(p:Addr) (n:Nat) (h:AH) (Q:RR→AH→Prop) (E:AExc→AH→Prop),Bag n h p→n+c≤1000000000000000→(∀r h',P r→Bag (n+c) h' p→Bt p h h'→Q r h')→m p h Q E
section
variable {Q:RR→AH→Prop} {E:AExc→AH→Prop} {h:AH} {p:Addr} {n c:Nat} {m:Addr→MC} {P:RR→Prop} {K:SV→MC}
theorem Dr.call (d:Dr c m P) (b:Bag n h p) (l:n+c≤1000000000000000) (q:∀r h',P r→Bag (n+c) h' p→Bt p h h'→K r.sv h' Q E):call (m p) K h Q E:=d p n h _ _ b l q
theorem Dr.call0 (d:Dr c m P) (b:Bag n h p) (l:n+c≤1000000000000000) (q:∀r h',P r→Bag (n+c) h' p→Bt p h h'→K r.sv h' Q E):call0 (m p) K h Q E:=d p n h _ _ b l q
theorem Dr.imp {P':RR→Prop} {c':Nat} (d:Dr c m P) (i:∀r,P r→P' r) (l:c≤c'):Dr c' m P':=fun p n h Q E b l' q=> d p n h Q E b (by omega) fun r h' z b' t=> q r h' (i r z) (b'.le (by omega)) t
end
theorem B9J {ns:List Int} {i b m c s:Int} {h:AH} {p:Addr} {Q:RR→AH→Prop} {E:AExc→AH→Prop} (hp:h p=some (A5A ns i b m c)) (i0:0≤i) (i1:i≤ns.length) (b0:0≤b) (m0:0≤m) (m1:m < 2147483648) (c0:0≤c)
    (c1:c≤1000000000000000) (s1:1≤s) (cd:∀b:Int,CDivW b s)
    (q:∀k h',0≤k→k < s→(∃b' m' c',h' p=some (A5A ns i b' m' c')∧0≤b'∧0≤m'∧m' < 2147483648∧0≤c'∧c'≤c+1)→Bt p h h'→Q (.val (.int k)) h'):
    (M2 (G6 (B5 oGe (B5 oIx (eV (.val (.ref p))) (eC (.int 2))) (eV (.val (.int s))))) ((A1 (B5 T6 (B5 oIx (eV (.val (.ref p))) (eC (.int 2))) (eV (.val (.int s))))) fun x_side=> (o3 (A1 (B5 A1e (B5 oIx (eV (.val (.ref p))) (eC (.int 2))) (eV (.val (.int s))))) (.val (.ref p)) (eC (.int 2)) fun x_bag=> ((eV (.val x_side)) ret))) (o3 (A1 (B5 oAdd (B5 oIx (eV (.val (.ref p))) (eC (.int 4))) (eC (.int 1)))) (.val (.ref p)) (eC (.int 4)) fun x_bag=> ((A1 (B5 oIx (eV x_bag) (eC (.int 3)))) fun x_mix=> (o3 (A1 (B5 T6 (B5 oAdd (B5 oAdd (B5 oAdd (B5 oMulT (B5 T6 (B5 oMulT (eV (.val x_mix)) (eV (.val x_mix))) (eC (.int 2147483629))) (eC (.int 5))) (B5 oMulT (eV (.val x_mix)) (eC (.int 16811)))) (B5 oMulT (eC (.int 7919)) (B5 oIx (eV x_bag) (eC (.int 4))))) (eC (.int 2531011))) (eC (.int 2147483647)))) x_bag (eC (.int 3)) fun x_bag=> ((B5 T6 (B5 oAdd (B5 A1e (B5 oIx (eV x_bag) (eC (.int 3))) (eC (.int 61))) (B5 oMulT (B5 T6 (B5 oIx (eV x_bag) (eC (.int 3))) (eC (.int 8191))) (eC (.int 31)))) (eV (.val (.int s)))) ret))))) h Q E:=by
  have cd:=cd b
  have hp':h p=some (.cont (.seq [.lst (ns.map .int),.int i,.int b,.int m,.int c])):=hp
  have e2:ixN 5 2=some 2:=rfl
  have e3:ixN 5 3=some 3:=rfl
  have e4:ixN 5 4=some 4:=rfl
  simp only [K9,H8,E8,C4,D1,A0v hp',A3V,B0d,F6,decide_eq_true_eq]
  refine A6g (fun _=> ?_) fun _=> ?_
  · simp only [D5,E8,C4,D1,A4k,A0v hp',A3V,A6y,B4d,A1c,C6]
    refine ⟨by omega,cd,?_⟩
    rw [A2M hp' e2]
    exact q _ _ (Int.emod_nonneg _ (by omega)) (Int.emod_lt_of_pos _ (by omega)) ⟨_,_,_,R4,Int.ediv_nonneg b0 (by omega),m0,m1,c0,by omega⟩ .upd
  · simp only [D5,E8,C4,D1,A4k,A0v hp',B5O,A0T,C6]
    rw [A2M hp' e4]
    have h1:D6 h p (.cont (.seq ([.lst (ns.map .int),.int i,.int b,.int m,.int c].set 4 (.int (c+1))))) p=some (.cont (.seq [.lst (ns.map .int),.int i,.int b,.int m,.int (c+1)])):=R4
    have x0:0≤m*m % 2147483629:=Int.emod_nonneg _ (by decide)
    have x1:m*m % 2147483629 < 2147483629:=Int.emod_lt_of_pos _ (by decide)
    simp only [D5,E8,C4,D1,A4k,A0v h1,B5O,A9z,A0T,A7N,A6y,A1c,C6]
    refine ⟨A1d m0 (by omega) m0 (by omega),by decide,A1d x0 (by omega) (by decide) (by decide),A1d m0 (by omega) (by decide) (by decide),A1d (by decide) (by decide) (by omega) (by omega),by decide,?_⟩
    rw [A2M h1 e3]
    generalize m*m % 2147483629*5+m*16811+7919*(c+1)+2531011=y
    have g0:0≤y % 2147483647:=Int.emod_nonneg _ (by decide)
    have g1:y % 2147483647 < 2147483647:=Int.emod_lt_of_pos _ (by decide)
    have w0:0≤y % 2147483647 % 8191:=Int.emod_nonneg _ (by decide)
    have w1:y % 2147483647 % 8191 < 8191:=Int.emod_lt_of_pos _ (by decide)
    have h2:D6 (D6 h p (.cont (.seq ([.lst (ns.map .int),.int i,.int b,.int m,.int c].set 4 (.int (c+1)))))) p (.cont (.seq ([.lst (ns.map .int),.int i,.int b,.int m,.int (c+1)].set 3 (.int (y % 2147483647))))) p=some (.cont (.seq [.lst (ns.map .int),.int i,.int b,.int (y % 2147483647),.int (c+1)])):=R4
    simp only [A0v h2,A9z,A0T,A7N,A6y,B4d,A1c]
    refine ⟨wide_div (b:=10) (by decide) (by decide) (by decide) (by decide),by decide,A1d w0 (by omega) (by decide) (by decide),by omega,?_⟩
    exact q _ _ (Int.emod_nonneg _ (by omega)) (Int.emod_lt_of_pos _ (by omega)) ⟨_,_,_,R4,b0,g0,by omega,by omega,by omega⟩ (Bt.upd.trans .upd)
theorem B92 {s:Int} (s1:1≤s) (s2:∀b:Int,CDivW b s):Dr 1 (fun p=> U4 [.ref p,.int s]) fun r=> ∃k,r= .val (.int k)∧0≤k∧k < s:=by
  intro p n h Q E ⟨ns,i,b,m,c,hp,i0,i1,b0,m0,m1,c0,c1⟩ hn q
  have q':∀k h',0≤k→k < s→(∃i' b' m' c',h' p=some (A5A ns i' b' m' c')∧0≤i'∧i'≤ns.length∧0≤b'∧0≤m'∧m' < 2147483648∧0≤c'∧c'≤c+1)→Bt p h h'→Q (.val (.int k)) h':=
    fun k h' k0 k1 ⟨i',b',m',c',a0,a1,a2,a3,a4,a5,a6,a7⟩ t=> q _ _ ⟨k,rfl,k0,k1⟩ ⟨ns,i',b',m',c',a0,a1,a2,a3,a4,a5,a6,by omega⟩ t
  clear q
  show A39 (.ref p) (.int s) h Q E
  unfold A39
  have hp':h p=some (.cont (.seq [.lst (ns.map .int),.int i,.int b,.int m,.int c])):=hp
  refine B97 (fun x k=> x= .val (.ref p)∧∃i' b' m':Int,0≤i'∧i'≤ns.length∧0≤b'∧0≤m'∧m' < 2147483648∧k p=some (A5A ns i' b' m' c)∧Bt p h k) ?_ ?_
  · rintro _ k ⟨rfl,i',b',m',z1,z2,z3,z4,z5,z6,z7⟩
    exact B9J z6 z1 z2 z3 z4 z5 c0 (by omega) s1 s2 fun k h' k0 k1 ⟨b2,m2,c2,a0,a1,a2,a3,a4,a5⟩ t=> q' k h' k0 k1 ⟨i',b2,m2,c2,a0,z1,z2,a1,a2,a3,a4,a5⟩ (z7.trans t)
  · intro kk hk
    have same:kk (.val (.ref p)) h Q E:=hk _ _ ⟨rfl,i,b,m,i0,i1,b0,m0,m1,hp,.refl⟩
    have e1:ixN 5 1=some 1:=rfl
    have e2:ixN 5 2=some 2:=rfl
    have e3:ixN 5 3=some 3:=rfl
    simp only [K9,C1u,H8,E8,C4,D1,A0v hp',A3V,B0Y,F6,decide_eq_true_eq]
    refine A6g (fun _=> ?_) fun _=> by rw [if_neg Bool.false_ne_true];exact same
    simp only [K3,J8,J9,E8,C4,D1,A0v hp',A0S,f9,A6j,B0Y,F6,decide_eq_true_eq,List.length_map]
    refine A6g (fun h2=> ?_) fun _=> same
    obtain ⟨j,rfl⟩:=Int.eq_ofNat_of_zero_le i0
    have hj:j < ns.length:=by omega
    simp only [D5,E8,C4,D1,A4k,A0v hp',A0S,f9,A3U,A6Y hj,A0T,C6]
    generalize ns[j]=v
    rw [A2M hp' e1]
    have h1:D6 h p (.cont (.seq ([.lst (ns.map .int),.int (j:Int),.int b,.int m,.int c].set 1 (.int ((j:Int)+1))))) p=some (.cont (.seq [.lst (ns.map .int),.int ((j:Int)+1),.int b,.int m,.int c])):=R4
    rw [A2M h1 e2]
    generalize hk1:D6 (D6 h p (.cont (.seq ([.lst (ns.map .int),.int (j:Int),.int b,.int m,.int c].set 1 (.int ((j:Int)+1)))))) p (.cont (.seq ([.lst (ns.map .int),.int ((j:Int)+1),.int b,.int m,.int c].set 2 (.int 0))))=h2'
    have hp2:h2' p=some (.cont (.seq [.lst (ns.map .int),.int ((j:Int)+1),.int 0,.int m,.int c])):=by rw [←hk1];exact R4
    have bt:Bt p h h2':=by rw [←hk1];exact Bt.upd.trans .upd
    simp only [K9,H8,E8,C4,D1,C3l,A1c,B0d,F6,decide_eq_true_eq]
    refine ⟨⟨by decide,by decide,by decide⟩,A6g (fun h3=> ?_) fun h3=> ?_⟩
    · have z:(0:Int)≤10 ^ Int.toNat 18:=by decide
      rw [A2M hp2 e2]
      exact hk _ _ ⟨rfl,(j:Int)+1,v,m,by omega,by omega,by omega,m0,m1,R4,bt.trans .upd⟩
    · have a0:0≤v % 2147483629:=Int.emod_nonneg _ (by decide)
      have a1:v % 2147483629 < 2147483629:=Int.emod_lt_of_pos _ (by decide)
      simp only [A4k,D5,E8,C4,D1,A0v hp2,A9z,A7N,A6y,A0T,A1c,C6]
      refine ⟨A1d m0 (by omega) (by decide) (by decide),by decide,A1d a0 (by omega) (by decide) (by decide),by decide,?_⟩
      rw [A2M hp2 e3]
      have b1:0≤(m*48271+v % 2147483629*69621+12345) % 2147483647:=Int.emod_nonneg _ (by decide)
      have b2:(m*48271+v % 2147483629*69621+12345) % 2147483647 < 2147483647:=Int.emod_lt_of_pos _ (by decide)
      exact hk _ _ ⟨rfl,(j:Int)+1,0,_,by omega,by omega,by omega,b1,by omega,R4,bt.trans .upd⟩
theorem A6X {s:Int} (s1:1≤s) (s2:s≤10 ^ 40):Dr 1 (fun p=> U4 [.ref p,.int s]) fun r=> ∃k,r= .val (.int k)∧0≤k∧k < s:=B92 s1 fun b=> wide_div (b:=200) (by omega) (by omega) (by decide) (by decide)
theorem C0d {ns:List Int} (h:ns.length≤63):A18 [.lst (ns.map .int)]=ret (.own (.seq [.lst (ns.map .int),.int 0,.int 0,.int 9465,.int 0])):=by
  show A4B _=_
  unfold A4B
  simp only [V7,E6,E7,D5,K3,J8,J9,B5e,C4,D1,B42,B3h,W8,B5B,C1d,Q5,C6]
  rw [G2 (by simp [G9]),show j7 (ns.map W.int) none (some 63)=(ns.map W.int).take 63 from B4f (k:=63),List.take_of_length_le (by rw [List.length_map];exact h)]
theorem C1A {h:AH} {p:Addr} {ns:List Int}:Bag 0 (D6 h p (.cont (.seq [.lst (ns.map .int),.int 0,.int 0,.int 9465,.int 0]))) p:=⟨ns,0,0,9465,0,R4,by omega,by omega,by omega,by omega,by omega,by omega,by omega⟩
theorem C0O {row:W} {xs:List W} (hr:row= .lst xs∨row= .tup xs) (h0:xs≠[]) (h1:xs.length≤1000000):Dr 1 (fun p=> A19 [.ref p,row]) fun r=> ∃w,r= .val w∧w∈xs:=by
  intro p n h Q E b hn q
  have l0:0 < xs.length:=List.length_pos_iff.mpr h0
  show A4E (.ref p) row h Q E
  unfold A4E
  have go:call (U4 [.ref p,.int xs.length]) (fun x=> C9 oIx (.val row) x ret) h Q E:=by
    refine (A6X (by omega) (by omega)).call b hn fun r h' ⟨k,e,k0,k1⟩ b' t=> ?_
    subst e
    obtain ⟨j,rfl⟩:=Int.eq_ofNat_of_zero_le k0
    have hj:j < xs.length:=by omega
    rcases hr with rfl | rfl <;> (simp only [A3I,R6,A3U,A6d hj];exact q _ _ ⟨_,rfl,List.getElem_mem hj⟩ b' t)
  rcases hr with rfl | rfl <;> simpa only [E8,C4,T8,E6,E7,D5,K3,J8,J9,A6j,Y5,C6] using go
end Ab
namespace Ab
open PySem PySem.Spec PyProof.Rows L2 RZ
def A35 (x_bag x_mcasks x_most:W):MC:=
  ((I9 d0 (F7 (eLc (A7M (F7 (B5 oAdd (eC (.int 1)) (R1 U4 (A2 (A1 (eV (.val x_bag))) (A2 (A1 (eV (.val x_mcasks))) B4)))) H9)) fun x_mcask kk=> lcb tYes (A1 (B5 oAdd (eC (.int 1)) (A3D U4 (A2 (A1 (eV (.val x_bag))) (A2 (A1 (eV (.val x_most))) B4))))) kk) H9)) ret)
def A17:List W→MC
  | [x_bag,x_mcasks,x_most]=> A35 x_bag x_mcasks x_most
  | _=> bad
def A3p (x_bag:W):MC:=
  ((R1 A17 (A2 (A1 (eV (.val x_bag))) (A2 (A1 (eC (.int 6))) (A2 (A1 (R1 A19 (A2 (A1 (eV (.val x_bag))) (A2 (A1 (L1 (A2 (A1 (eC (.int 40))) (A2 (A1 (eC (.int 9))) (A2 (A1 (eC (.int 4))) (A2 (A1 (eC (.int 2))) B4)))))) B4)))) B4)))) ret)
def A1t:List W→MC
  | [x_bag]=> A3p x_bag
  | _=> bad
theorem B2g {α:Type} {P:α→Prop} {e:α→W}:∀{ws ys:List W},All2 (fun _ y=> ∃a,y=e a∧P a) ws ys→∃as:List α,ys=as.map e∧as.length=ws.length∧∀a∈as,P a
  | _,_,.nil=> ⟨[],rfl,rfl,fun _ h=> by cases h⟩
  | _,_,.cons ⟨a,e1,hp⟩ r=> by
    obtain ⟨as,e2,l,h⟩:=B2g r
    subst e1 e2
    exact ⟨a::as,rfl,by rw [List.length_cons,List.length_cons,l],fun b hb=> by
      rcases List.mem_cons.mp hb with rfl | hb
      · exact hp
      · exact h b hb⟩
theorem C3e {α:Type} {P:α→Prop} {e:α→W} {Q:RR→AH→Prop} {E:AExc→AH→Prop} {body:W→(Option W→MC)→MC} {k:List W→MC} {p:Addr} {n c:Nat} {h:AH} (ws:List W) (hl:ws.length≤1000) (b:Bag n h p) (hn:n+ws.length*c≤1000000000000000)
    (hb:∀w∈ws,∀m h1 kk,m+c≤1000000000000000→Bag m h1 p→(∀a h',P a→Bag (m+c) h' p→Bt p h1 h'→kk (some (e a)) h' Q E)→body w kk h1 Q E)
    (q:∀(as:List α) h',as.length=ws.length→(∀a∈as,P a)→Bag (n+ws.length*c) h' p→Bt p h h'→k (as.map e) h' Q E):V4 body k ws [] h Q E:=by
  refine B5C (fun i h'=> Bag (n+i*c) h' p∧Bt p h h') (fun _ y=> ∃a,y=e a∧P a) ws [] 0 h (by simp [G9];omega) ⟨by simpa using b,.refl⟩ (fun w hw j h1 kk hj ⟨b1,t1⟩ hk=> ?_) fun ys h' ay ⟨b',t'⟩=> ?_
  · have z:j*c+c≤ws.length*c:=by rw [←Nat.succ_mul];exact Nat.mul_le_mul_right _ (by omega)
    refine hb w hw _ h1 kk (by omega) b1 fun a h' pa b2 t2=> hk _ h' ⟨a,rfl,pa⟩ ⟨by rw [Nat.succ_mul,←Nat.add_assoc];exact b2,t1.trans t2⟩
  · obtain ⟨as,rfl,l,pa⟩:=B2g ay
    rw [List.nil_append]
    exact q as h' l pa (by simpa using b') t'
theorem B9k {mc mo:Int} (h0:1≤mc) (h1:mc≤6) (g0:1≤mo) (g1:mo≤40):Dr 10 (fun p=> A17 [.ref p,.int mc,.int mo]) fun r=> ∃ss:List Int,r= .val (.tup (ss.map .int))∧1≤ss.length∧ss.length≤mc∧∀s∈ss,1≤s∧s≤mo:=by
  intro p n h Q E b hn q
  show A35 (.ref p) (.int mc) (.int mo) h Q E
  unfold A35
  simp only [K3,J8,J9,Y8,t9,E8,D1,C4,T8,E6,E7,D5,C6]
  refine (A6X h0 (by omega)).call b (by omega) fun r h' ⟨k,e,k0,k1⟩ b' t=> ?_
  subst e
  simp only [A3I,A0T,A4W,A1c]
  refine ⟨by omega,?_⟩
  refine C3e (P:=fun s=> 1≤s∧s≤mo) (e:=W.int) (c:=1) _ (by rw [A8k];omega) b' (by rw [A8k];omega) (fun w hw m h1 kk hm b1 hk=> ?_) fun ss h2 l ps b2 t2=> ?_
  · simp only [X1,W9,if_true,D5,E8,D1,C4,c8,E6,E7,C6]
    refine (A6X g0 (by omega)).call0 b1 (by omega) fun r h' ⟨k,e,k0,k1⟩ b' t=> ?_
    subst e
    simp only [A3I,A0T,C6]
    exact hk _ _ ⟨by omega,by omega⟩ b' t
  · rw [A8k] at l b2
    simp only [C2c]
    exact q _ _ ⟨ss,rfl,by omega,by omega,ps⟩ (b2.le (by omega)) (t.trans t2)
theorem any_sizes_dr:Dr 20 (fun p=> A1t [.ref p]) fun r=> ∃ss:List Int,r= .val (.tup (ss.map .int))∧S9 ss:=by
  intro p n h Q E b hn q
  show A3p (.ref p) h Q E
  unfold A3p
  simp only [D1,C4,T8,E6,E7,D5,C6,V7,Q5]
  rw [G2 (by simp [G9])]
  refine (C0O (.inl rfl) (by simp) (by simp)).call b (by omega) fun r h' ⟨w,e,hw⟩ b' t=> ?_
  subst e
  obtain ⟨mo,rfl,g0,g1⟩:∃mo:Int,w= .int mo∧1≤mo∧mo≤40:=by
    simp only [List.mem_cons,List.not_mem_nil,or_false] at hw
    rcases hw with rfl | rfl | rfl | rfl <;> exact ⟨_,rfl,by omega,by omega⟩
  simp only [A3I,C6]
  refine (B9k (by omega) (by omega) g0 g1).call b' (by omega) fun r h2 ⟨ss,e,l1,l2,ps⟩ b2 t2=> ?_
  subst e
  exact q _ _ ⟨ss,rfl,l1,by omega,fun s hs=> ⟨(ps s hs).1,Int.le_trans (ps s hs).2 g1⟩⟩ (b2.le (by omega)) (t.trans t2)
end Ab
namespace Ab
open PySem PySem.Spec PyProof.Rows L2 RZ
def A4D (x_word x_many x_casks:W):MC:=
  ((eIf (G6 (B5 (V9 false) (eV (.val x_word)) (eC (.tup [.str ("over":Str),.str ("down":Str)])))) (A07 (fun i j=> decide (i≤j)) (fun i j=> decide (i≤j)) (eC (.int 4)) (eV (.val x_many)) (B5 oAdd (eC (.int 2)) (eV (.val x_casks)))) (B5 (F0 false) (eV (.val x_many)) (eC (.int 3)))) ret)
def A2B:List W→MC
  | [x_word,x_many,x_casks]=> A4D x_word x_many x_casks
  | _=> bad
def A4F (x_things x_start x_casks:W):MC:=
  (A7Y (A7I (A1 (eV (.val x_things)))) () (fun w6 (s1:Unit) kn3 kb4=> un2 w6 fun x_at x_cask=> (M2 (tOr (A1A (G6 (A07 (fun i j=> decide (i≤j)) (fun i j=> decide (i < j)) (eC (.int 0)) (eV (.val x_cask)) (eV (.val x_casks))))) (G6 (B5 (V9 false) (eV (.val x_cask)) (eSl (eV (.val x_things)) oNo (A7F (eV (.val x_at))))))) ((B5 oAdd (eV (.val x_start)) (eV (.val x_at))) ret) (kn3 ()))) fun (s1:Unit)=> ((eC .non) ret))
def x8:List W→MC
  | [x_things,x_start,x_casks]=> A4F x_things x_start x_casks
  | _=> bad
def A0l (x_sizes x_deed:W):MC:=
  (M2 (tOr (G6 (B5 (F0 false) (I9 G4 (F7 (eV (.val x_deed)) H9)) (eC (.int 0)))) (G6 (B5 (V9 true) (B5 oIx (eV (.val x_deed)) (eC (.int 0))) (B5 oAdd (eC (.tup [.str ("over":Str),.str ("down":Str)])) (eC (.tup [.str ("swap":Str),.str ("tap":Str),.str ("drain":Str)])))))) ((eC (.int 0)) ret) (M2 (A1A (G6 (R1 A2B (A2 (A1 (B5 oIx (eV (.val x_deed)) (eC (.int 0)))) (A2 (A1 (I9 G4 (F7 (eV (.val x_deed)) H9))) (A2 (A1 (I9 G4 (F7 (eV (.val x_sizes)) H9))) B4)))))) ((A3Y (eC (.int 1))) ret) (A7Q (A1 (eV (.val x_deed))) fun x_word x_things=> (M2 (G6 (B5 (F0 false) (eV (.val x_word)) (eC (.str ("swap":Str))))) ((A1 (R1 x8 (A2 (A1 (eV (.val (SV.fz x_things)))) (A2 (A1 (eC (.int 1))) (A2 (A1 (I9 G4 (F7 (eV (.val x_sizes)) H9))) B4))))) fun x_bad=> (M2 (G6 (B5 (O3 true) (eV (.val x_bad)) (eC .non))) ((eV (.val x_bad)) ret) ((eIf (G6 (B5 (F0 false) (B5 oIx (eV (.val x_sizes)) (B5 oIx (eV (.val (SV.fz x_things))) (eC (.int 0)))) (B5 oIx (eV (.val x_sizes)) (B5 oIx (eV (.val (SV.fz x_things))) (eC (.int 1)))))) (eC .non) (eC (.int 2))) ret))) (A7Q (A1 (eV (.val (SV.fz x_things)))) fun x_many x_casks=> (M2 (A1A (G6 (A07 (fun i j=> decide (i≤j)) (fun i j=> decide (i < j)) (eC (.int 0)) (eV (.val x_many)) (eC (.int 1000000000000000000000000000000))))) ((eC (.int 1)) ret) ((R1 x8 (A2 (A1 (eV (.val (SV.fz x_casks)))) (A2 (A1 (eC (.int 2))) (A2 (A1 (I9 G4 (F7 (eV (.val x_sizes)) H9))) B4)))) ret)))))))
def q9:List W→MC
  | [x_sizes,x_deed]=> A0l x_sizes x_deed
  | _=> bad
theorem B1z {α:Type} {l:List α} {q:α×Nat} (h:q∈l.zipIdx):l[q.2]? =some q.1:=by
  obtain ⟨a,i⟩:=q
  simpa using List.mem_zipIdx_iff_getElem?.mp h
theorem A2u {w:Str} {m c:Int}:A2B [.str w,.int m,.int c]=ret (.val (.bl (if w="over"∨w="down" then decide (4≤m∧m≤2+c) else decide (m=3)))):=by
  show A4D _ _ _=_
  unfold A4D
  simp only [v5,H8,E8,C4,D1]
  rw [B5o (y:= .val (.tup [.str ("over":Str),.str ("down":Str)])) (sp Y3) (fun _=> rfl) (fun z hz=> by
    simp only [List.mem_cons,List.not_mem_nil,or_false] at hz
    rcases hz with rfl | rfl <;> rfl)]
  by_cases h:w="over"∨w="down"
  · rw [if_pos h,if_pos (decide_eq_true (by rcases h with rfl | rfl <;> simp))]
    simp only [j4,D1,C4,E8,A0T,W8]
    by_cases g1:4≤m <;> by_cases g2:m≤2+c <;> simp [g1,g2]
  · rw [if_neg h,if_neg (by simpa using h)]
    rw [A5I (sp c9) (sp c9)]
    simp [C0Z]
def A2j:Option Int→W
  | none=> .non
  | some i=> .int i
theorem A77 {cs:List Int} {st casks:Int} (hl:cs.length≤1000):x8 [.lst (cs.map .int),.int st,.int casks]=ret (.val (A2j (i4 casks [] cs st))):=by
  show A4F _ _ _=_
  unfold A4F
  simp only [B4l,B3R,D5,C4,C6,A8W,B8S,A9U]
  rw [B2y (fun q:Int×Nat=> W.tup [.int (q.2:Int),.int q.1]) (fun q=> if ¬(0≤q.1∧q.1 < casks)∨q.1∈cs.take q.2 then some (ret (.val (.int (st+q.2)))) else none) cs.zipIdx fun q hq kn=> ?_]
  · have go:∀(r seen:List Int) (n:Nat),seen=cs.take n→r=cs.drop n→((r.zipIdx n).findSome? (fun q=> if ¬(0≤q.1∧q.1 < casks)∨q.1∈cs.take q.2 then some (ret (.val (.int (st+q.2)))) else none)).getD (eC .non ret)=ret (.val (A2j (i4 casks seen r (st+n)))):=by
      intro r
      induction r with
      | nil=> intro seen n _ _;rfl
      | cons c r ih=>
        intro seen n e1 e2
        rw [List.zipIdx_cons,List.findSome?_cons]
        simp only [i4]
        by_cases h:¬(0≤c∧c < casks)∨c∈cs.take n
        · rw [if_pos h,if_pos (e1▸h)]
          rfl
        · rw [if_neg h,if_neg (e1▸h)]
          have hn:n < cs.length:=by
            have:=congrArg List.length e2
            simp at this
            omega
          have e3:cs[n]? =some c:=by
            have:=congrArg (fun l:List Int=> l[0]?) e2
            rw [List.getElem?_drop] at this
            simpa using this.symm
          have z:=ih (seen++[c]) (n+1) (by rw [e1,List.take_add_one,e3];rfl) (by
            have:=congrArg List.tail e2
            rw [List.tail_drop] at this
            simpa using this)
          rw [show st+((n+1:Nat):Int)=st+(n:Int)+1 by omega] at z
          exact z
    have z:=go cs [] 0 rfl rfl
    simpa using z
  · obtain ⟨c,n⟩:=q
    simp only [A84,K9,d3,m9,H8,j4,E8,D1,C4,W8,F6,B5e,B42,B3h,B5B,B4f]
    have tin:∀k:Bool→MC,(C9 (V9 false) (.val (.int c)) (.own (.seq ((cs.map W.int).take n))) fun r=> T7 r k)=k (decide (c∈cs.take n)):=fun k=> by
      rw [B5o (y:= .own (.seq ((cs.map W.int).take n))) (sp c9) (fun _=> rfl) (fun z hz=> by
        obtain ⟨i,_,rfl⟩:=List.mem_map.mp ((List.take_sublist n _).subset hz)
        exact B4J)]
      have e:W.int c∈(cs.map W.int).take n↔c∈cs.take n:=by
        rw [←List.map_take,List.mem_map]
        exact ⟨fun ⟨x,hx,e⟩=> by cases e;exact hx,fun h=> ⟨c,h,rfl⟩⟩
      rw [C6,decide_eq_decide.mpr e]
    simp only [tin,A0T]
    by_cases g1:0≤c <;> by_cases g2:c < casks <;> by_cases g3:c∈cs.take n <;> simp [g1,g2,g3]
theorem B11 {n:Nat}:∀(cs seen:List Nat) (k:Int),(∀c∈cs,c < n)→cs.Nodup→(∀c∈cs,c∉seen)→i4 n (seen.map fun (c:Nat)=> (c:Int)) (cs.map fun (c:Nat)=> (c:Int)) k=none
  | [],_,_,_,_,_=> rfl
  | c::cs,seen,k,h1,h2,h3=> by
    have hc:=h1 c (by simp)
    have hs:=h3 c (by simp)
    have ns:¬(¬(0≤(c:Int)∧(c:Int) < n)∨(c:Int)∈seen.map fun (c:Nat)=> (c:Int)):=fun z=> by
      rcases z with z | z
      · exact z ⟨by omega,by omega⟩
      · obtain ⟨x,hx,e⟩:=List.mem_map.mp z
        have:x=c:=by omega
        exact hs (this▸hx)
    show (if ¬(0≤(c:Int)∧(c:Int) < n)∨(c:Int)∈seen.map (fun (c:Nat)=> (c:Int)) then some k else i4 n (seen.map (fun (c:Nat)=> (c:Int))++[(c:Int)]) (cs.map fun (c:Nat)=> (c:Int)) (k+1))=none
    rw [if_neg ns,show seen.map (fun (c:Nat)=> (c:Int))++[(c:Int)]=(seen++[c]).map (fun (c:Nat)=> (c:Int)) by simp]
    obtain ⟨h4,h5⟩:=List.nodup_cons.mp h2
    refine B11 cs (seen++[c]) (k+1) (fun x hx=> h1 x (by simp [hx])) h5 fun x hx z=> ?_
    rcases List.mem_append.mp z with z | z
    · exact h3 x (by simp [hx]) z
    · rw [List.mem_singleton.mp z] at hx
      exact h4 hx
theorem A37 {n:Nat} {cs:List Nat} {k:Int} (h1:∀c∈cs,c < n) (h2:cs.Nodup) (hl:cs.length≤1000):x8 [.lst (cs.map d5),.int k,.int n]=ret (.val .non):=by
  have z:=A77 (cs:=cs.map fun (c:Nat)=> (c:Int)) (st:=k) (casks:=n) (by simpa using hl)
  have b:=B11 cs [] k h1 h2 (by simp)
  simp only [List.map_nil] at b
  rw [b,List.map_map] at z
  exact z
theorem B3S {w:Str} {k:Bool→MC} {x y:List W}:(B5 oAdd (eC (.tup [.str ("over":Str),.str ("down":Str)])) (eC (.tup [.str ("swap":Str),.str ("tap":Str),.str ("drain":Str)])) fun z=> C9 (V9 true) (.val (.str w)) z fun r=> T7 r k)=k (!decide (w="over"∨w="down"∨w="swap"∨w="tap"∨w="drain")):=by
  simp only [E8,D1,B4U]
  rw [G2 (by simp [G9]),C3I (y:= .val (.tup _)) (sp Y3) (fun _=> rfl) (fun z hz=> by
    simp only [List.mem_append,List.mem_cons,List.not_mem_nil,or_false] at hz
    rcases hz with (rfl | rfl) | rfl | rfl | rfl <;> rfl)]
  simp
theorem B7V {ss:List Int} {d:Dd} (hs:S9 ss) (hd:d.ok ss):q9 [.tup (ss.map .int),d.w]=ret (.val .non):=by
  show A0l _ _=_
  unfold A0l
  obtain ⟨l1,l2,s3⟩:=hs
  have len:∀(xs:List W),¬(W.int ((xs.length+1:Nat):Int))= .int 0:=fun xs e=> by
    injection e with e
    omega
  have head:∀{w:Str} {xs:List W} {m1 m2:MC},(w="over"∨w="down"∨w="swap"∨w="tap"∨w="drain")→
      M2 (tOr (G6 (B5 (F0 false) (I9 G4 (F7 (eV (.val (.tup (.str w::xs)))) H9)) (eC (.int 0)))) (G6 (B5 (V9 true) (B5 oIx (eV (.val (.tup (.str w::xs)))) (eC (.int 0))) (B5 oAdd (eC (.tup [.str ("over":Str),.str ("down":Str)])) (eC (.tup [.str ("swap":Str),.str ("tap":Str),.str ("drain":Str)])))))) m1 m2=m2:=by
    intro w xs m1 m2 hw
    rw [K9,d3,H8,E8,K3,J8,C4,J9,Y5,D1,A1B (sp c9) (sp c9),List.length_cons]
    rw [C6,C6,decide_eq_false (len xs),if_neg Bool.false_ne_true,H8,E8,E8,C4,D1,R6,f9,B3S (x:=[]) (y:=[]),decide_eq_true hw]
    simp
  cases d with
  | swap i j=>
    obtain ⟨hi,hj,ne,es⟩:=hd
    rw [Dd.w,head (by simp)]
    have bf:=A37 (n:=ss.length) (cs:=[i,j]) (k:=1) (by simp [hi,hj]) (by simp [ne]) (by simp)
    have e1:ss[i]=ss[j]:=by
      rw [List.getElem?_eq_getElem hi,List.getElem?_eq_getElem hj] at es
      exact Option.some.inj es
    simp only [K9,m9,H8,T8,E6,E7,D5,E8,C4,D1,R6,f9,C6,K3,J8,J9,Y5,List.length_map,A2u,S8,F6,List.length_cons,List.length_nil,
      A0t,String.reduceEq,or_self,if_false,Nat.zero_add,Nat.reduceAdd,Int.cast_ofNat_Int,decide_true,Bool.not_true,Bool.false_eq_true,A2N,A24,Q5]
    rw [A1B (sp Y3) (sp Y3)]
    simp only [C6,decide_true,if_true,List.map_cons,List.map_nil] at bf ⊢
    rw [bf]
    simp only [S8,C6]
    rw [C2M C2d]
    simp only [decide_true,Bool.not_true,Bool.false_eq_true,if_false,v5,H8,E8,C4,D1,A3U,f9,A0S,R6,A6Y hi,A6Y hj]
    rw [A1B (sp c9) (sp c9),e1]
    simp
  | tap n c=>
    obtain ⟨n0,n1,hc⟩:=hd
    rw [Dd.w,head (by simp)]
    have bf:=A37 (n:=ss.length) (cs:=[c]) (k:=2) (by simp [hc]) (by simp) (by simp)
    have e0:decide (n < 1000000000000000000000000000000)=true:=decide_eq_true n1
    simp only [K9,m9,H8,T8,E6,E7,D5,E8,C4,D1,R6,f9,C6,K3,J8,J9,Y5,List.length_map,A2u,S8,F6,List.length_cons,List.length_nil,
      A0t,String.reduceEq,or_self,if_false,Nat.zero_add,Nat.reduceAdd,Int.cast_ofNat_Int,decide_true,Bool.not_true,Bool.false_eq_true,A2N,A24,Q5]
    rw [A1B (sp Y3) (sp Y3)]
    simp only [C6,W.str.injEq,A0t,String.reduceEq,decide_false,Bool.false_eq_true,if_false,A23,j4,D1,C4,W8,F6,decide_eq_true n0,if_true,e0,Bool.not_true,Q5]
    simp only [List.map_cons,List.map_nil] at bf
    rw [bf]
    rfl
  | drain n c=>
    obtain ⟨n0,n1,hc⟩:=hd
    rw [Dd.w,head (by simp)]
    have bf:=A37 (n:=ss.length) (cs:=[c]) (k:=2) (by simp [hc]) (by simp) (by simp)
    have e0:decide (n < 1000000000000000000000000000000)=true:=decide_eq_true n1
    simp only [K9,m9,H8,T8,E6,E7,D5,E8,C4,D1,R6,f9,C6,K3,J8,J9,Y5,List.length_map,A2u,S8,F6,List.length_cons,List.length_nil,
      A0t,String.reduceEq,or_self,if_false,Nat.zero_add,Nat.reduceAdd,Int.cast_ofNat_Int,decide_true,Bool.not_true,Bool.false_eq_true,A2N,A24,Q5]
    rw [A1B (sp Y3) (sp Y3)]
    simp only [C6,W.str.injEq,A0t,String.reduceEq,decide_false,Bool.false_eq_true,if_false,A23,j4,D1,C4,W8,F6,decide_eq_true n0,if_true,e0,Bool.not_true,Q5]
    simp only [List.map_cons,List.map_nil] at bf
    rw [bf]
    rfl
  | over n cs=>
    obtain ⟨n0,n1,c1,c2,c3,c4⟩:=hd
    rw [Dd.w,head (by simp)]
    have bf:=A37 (n:=ss.length) (cs:=cs) (k:=2) c4 c3 (by omega)
    have e0:decide (n < 1000000000000000000000000000000)=true:=decide_eq_true n1
    have e1:decide (4≤((cs.length+1+1:Nat):Int)∧((cs.length+1+1:Nat):Int)≤2+(ss.length:Int))=true:=decide_eq_true ⟨by omega,by omega⟩
    simp only [K9,m9,H8,T8,E6,E7,D5,E8,C4,D1,R6,f9,C6,K3,J8,J9,Y5,List.length_map,A2u,S8,F6,List.length_cons,
      true_or,if_true,e1,Bool.not_true,Bool.false_eq_true,if_false,A2N,A24,Q5]
    rw [A1B (sp Y3) (sp Y3)]
    simp only [C6,W.str.injEq,A0t,String.reduceEq,decide_false,Bool.false_eq_true,if_false,A23,j4,D1,C4,W8,F6,decide_eq_true n0,if_true,e0,Bool.not_true,Q5]
    rw [bf]
    rfl
  | down n cs=>
    obtain ⟨n0,n1,c1,c2,c3,c4⟩:=hd
    rw [Dd.w,head (by simp)]
    have bf:=A37 (n:=ss.length) (cs:=cs) (k:=2) c4 c3 (by omega)
    have e0:decide (n < 1000000000000000000000000000000)=true:=decide_eq_true n1
    have e1:decide (4≤((cs.length+1+1:Nat):Int)∧((cs.length+1+1:Nat):Int)≤2+(ss.length:Int))=true:=decide_eq_true ⟨by omega,by omega⟩
    simp only [K9,m9,H8,T8,E6,E7,D5,E8,C4,D1,R6,f9,C6,K3,J8,J9,Y5,List.length_map,A2u,S8,F6,List.length_cons,
      or_true,if_true,e1,Bool.not_true,Bool.false_eq_true,if_false,A2N,A24,Q5]
    rw [A1B (sp Y3) (sp Y3)]
    simp only [C6,W.str.injEq,A0t,String.reduceEq,decide_false,Bool.false_eq_true,if_false,A23,j4,D1,C4,W8,F6,decide_eq_true n0,if_true,e0,Bool.not_true,Q5]
    rw [bf]
    rfl
theorem B2d {cs:List Int} {c:Nat} {k:W→MC} (h:c < cs.length):W0 (cs.map W.int) (c:Int) k=k (.int (cs.getD c 0)):=by
  rw [A6Y h]
  congr 2
  rw [List.getD_eq_getElem?_getD,List.getElem?_eq_getElem h];rfl
end Ab
namespace Ab
open PySem PySem.Spec PyProof.Rows L2 RZ
theorem A8h {l:List Int} {c i:Nat} {x:Int}:(l.set c x).getD i 0=if i=c∧c < l.length then x else l.getD i 0:=by
  simp only [List.getD_eq_getElem?_getD,List.getElem?_set]
  by_cases h:c=i
  · subst h
    by_cases h2:c < l.length
    · simp [h2]
    · simp [h2]
  · rw [if_neg h,if_neg (fun z=> h z.1.symm)]
theorem B3d:∀{l:List Int} {c:Nat} {x:Int},c < l.length→(l.set c x).sum=l.sum - l.getD c 0+x
  | a::l,0,x,_=> by simp [List.sum_cons];omega
  | a::l,c+1,x,h=> by
    have ih:=B3d (l:=l) (c:=c) (x:=x) (by simpa using h)
    simp only [List.set_cons_succ,List.sum_cons,ih,List.getD_cons_succ]
    omega
def Ct (ss cs:List Int):Prop:=cs.length=ss.length∧∀i,i < ss.length→0≤cs.getD i 0∧cs.getD i 0≤ss.getD i 0
def LeL (as bs:List Int):Prop:=as.length=bs.length∧∀i,as.getD i 0≤bs.getD i 0
noncomputable instance {as bs:List Int}:Decidable (LeL as bs):=Classical.propDecidable _
theorem LeL.set {as bs:List Int} {c:Nat} {x y:Int} (h:LeL as bs) (xy:x≤y):LeL (as.set c x) (bs.set c y):=by
  refine ⟨by rw [List.length_set,List.length_set];exact h.1,fun i=> ?_⟩
  rw [A8h,A8h,←h.1]
  split
  · exact xy
  · exact h.2 i
theorem LeL.refl {as:List Int}:LeL as as:=⟨rfl,fun _=> Int.le_refl _⟩
theorem LeL.trans {as bs cs:List Int} (h:LeL as bs) (g:LeL bs cs):LeL as cs:=⟨h.1.trans g.1,fun i=> Int.le_trans (h.2 i) (g.2 i)⟩
def Dd.still:Dd→Bool
  | .tap _ _=> false
  | .drain _ _=> false
  | _=> true
theorem A9Y:∀{as bs:List Int},as.length=bs.length→LeL (List.zipWith min as bs) bs
  | [],[],_=> LeL.refl
  | a::as,b::bs,h=> by
    have ih:=A9Y (as:=as) (bs:=bs) (by simpa using h)
    refine ⟨by simp only [List.length_zipWith,List.length_cons] at h ⊢;omega,fun i=> ?_⟩
    cases i with
    | zero=> simp;omega
    | succ i=> simpa using ih.2 i
  | [],_::_,h=> by simp at h
  | _::_,[],h=> by simp at h
theorem A4V {f:Int→Int→Int} {as bs:List Int} {i:Nat} (ha:i < as.length) (hb:i < bs.length):(List.zipWith f as bs).getD i 0=f (as.getD i 0) (bs.getD i 0):=by
  simp only [List.getD_eq_getElem?_getD,List.getElem?_zipWith,List.getElem?_eq_getElem ha,List.getElem?_eq_getElem hb]
  rfl
end Ab
namespace Ab
open PySem PySem.Spec PyProof.Rows L2 RZ
def Dd.ws (ds:List Dd):List W:=ds.map Dd.w
theorem A9O:∀{as bs:List Int},LeL as bs→as.sum≤bs.sum
  | [],[],_=> Int.le_refl _
  | a::as,b::bs,h=> by
    have ih:=A9O (as:=as) (bs:=bs) ⟨by simpa using h.1,fun i=> by simpa using h.2 (i+1)⟩
    have:=h.2 0
    simp only [List.sum_cons,List.getD_cons_zero] at this ⊢
    omega
  | [],_::_,h=> by have:=h.1;simp at this
  | _::_,[],h=> by have:=h.1;simp at this
theorem A6F {l:List Int} {i:Nat} (h:l.length≤i):l.getD i 0=0:=by
  rw [List.getD_eq_getElem?_getD,List.getElem?_eq_none h];rfl
theorem A9p {as bs:List Int} (hl:as.length=bs.length) (h:∀i,i < as.length→as.getD i 0≤bs.getD i 0):LeL as bs:=⟨hl,fun i=> by
  by_cases hi:i < as.length
  · exact h i hi
  · rw [A6F (by omega),A6F (by omega)];exact Int.le_refl _⟩
theorem B3j {as bs:List Int} (h:as.length=bs.length):LeL (List.zipWith min as bs) as:=A9p (by rw [List.length_zipWith];omega) fun i hi=> by
  rw [List.length_zipWith] at hi
  rw [A4V (by omega) (by omega)]
  omega
theorem C2W {as bs cs:List Int} (h1:LeL cs as) (h2:LeL cs bs):LeL cs (List.zipWith min as bs):=A9p (by rw [List.length_zipWith,←h1.1,←h2.1];omega) fun i hi=> by
  have a:=h1.1
  have b:=h2.1
  rw [A4V (by omega) (by omega)]
  have:=h1.2 i
  have:=h2.2 i
  omega
theorem max_le {as bs cs:List Int} (h1:LeL as cs) (h2:LeL bs cs):LeL (List.zipWith max as bs) cs:=A9p (by rw [List.length_zipWith,h1.1,h2.1];omega) fun i hi=> by
  have a:=h1.1
  have b:=h2.1
  rw [List.length_zipWith] at hi
  rw [A4V (by omega) (by omega)]
  have:=h1.2 i
  have:=h2.2 i
  omega
end Ab
namespace Ab
open PySem PySem.Spec PyProof.Rows L2 RZ
def A16 (m__law_same:List W→MC) (x_found x_due:W):MC:=
  (M2 (G6 (B5 (O3 false) (eV (.val x_due)) (eC .non))) ((B5 (O3 false) (eV (.val x_found)) (eC .non)) ret) (M2 (G6 (I9 F4 (F7 (eV (.val x_due)) (F7 (eC (.ty "bool")) H9)))) ((A09 (I9 F4 (F7 (eV (.val x_found)) (F7 (eC (.ty "bool")) H9))) (B5 (F0 false) (eV (.val x_found)) (eV (.val x_due)))) ret) (M2 (G6 (I9 F4 (F7 (eV (.val x_due)) (F7 (eC (.ty "int")) H9)))) ((A09 (I9 F4 (F7 (eV (.val x_found)) (F7 (eC (.ty "int")) H9))) (A09 (B0F (I9 F4 (F7 (eV (.val x_found)) (F7 (eC (.ty "bool")) H9)))) (B5 (F0 false) (eV (.val x_found)) (eV (.val x_due))))) ret) (M2 (G6 (I9 F4 (F7 (eV (.val x_due)) (F7 (eC (.ty "str")) H9)))) ((A09 (I9 F4 (F7 (eV (.val x_found)) (F7 (eC (.ty "str")) H9))) (B5 (F0 false) (eV (.val x_found)) (eV (.val x_due)))) ret) (M2 (tOr (G6 (B5 (F0 true) (I9 F4 (F7 (eV (.val x_due)) (F7 (eC (.ty "tuple")) H9))) (I9 F4 (F7 (eV (.val x_found)) (F7 (eC (.ty "tuple")) H9))))) (G6 (B5 (F0 true) (I9 F4 (F7 (eV (.val x_due)) (F7 (eC (.ty "list")) H9))) (I9 F4 (F7 (eV (.val x_found)) (F7 (eC (.ty "list")) H9)))))) ((eC (.bl false)) ret) (M2 (G6 (B5 (F0 true) (I9 G4 (F7 (eV (.val x_found)) H9)) (I9 G4 (F7 (eV (.val x_due)) H9)))) ((eC (.bl false)) ret) ((I9 A2l (F7 (eLc (A7M (F7 (I9 G4 (F7 (eV (.val x_due)) H9)) H9)) fun x_at kk=> lcb tYes (A1 (A3D m__law_same (A2 (A1 (B5 oIx (eV (.val x_found)) (eV (.val x_at)))) (A2 (A1 (B5 oIx (eV (.val x_due)) (eV (.val x_at)))) B4)))) kk) H9)) ret)))))))
def m__law_same:Nat→List W→MC
  | 0=> fun _=> bad
  | d+1=> fun ws=> match ws with
    | [x_found,x_due]=> A16 (m__law_same d) x_found x_due
    | _=> bad
section
variable {k:SV→MC} {b c:Bool} {i:Int} {x:Str} {xs:List W} {T:String}
theorem O8 {w:W} {n:String} {r:Bool} (hv:∀h,viewW h w= .wv w) (e1:w.tyName=some n) (e2:A1D n T=some r):cb F4 [.val w,.val (.ty T)] k=k (.val (.bl r)):=by
  funext h Q E
  show F4 [viewW h w,.wv (.ty T)] _=_
  rw [hv,C3S]
  show (match (Vw.wv w).tyName with
    | some n=> (match A1D n T with
      | some b=> j9 k (.val (.bl b)) h Q E
      | none=> False)
    | none=> False)=_
  rw [show (Vw.wv w).tyName=w.tyName from rfl,e1]
  show (match A1D n T with
      | some b=> j9 k (.val (.bl b)) h Q E
      | none=> False)=_
  rw [e2]
  rfl
theorem z9:cb F4 [.val .non,.val (.ty "bool")] k=k (.val (.bl false)):=O8 (fun _=> rfl) rfl rfl
theorem A0K:cb F4 [.val .non,.val (.ty "int")] k=k (.val (.bl false)):=O8 (fun _=> rfl) rfl rfl
theorem A0G:cb F4 [.val .non,.val (.ty "str")] k=k (.val (.bl false)):=O8 (fun _=> rfl) rfl rfl
theorem w4:cb F4 [.val .non,.val (.ty "tuple")] k=k (.val (.bl false)):=O8 (fun _=> rfl) rfl rfl
theorem y9:cb F4 [.val .non,.val (.ty "list")] k=k (.val (.bl false)):=O8 (fun _=> rfl) rfl rfl
theorem A0H:cb F4 [.val (.bl b),.val (.ty "bool")] k=k (.val (.bl true)):=O8 (fun _=> rfl) rfl rfl
theorem A0O:cb F4 [.val (.bl b),.val (.ty "int")] k=k (.val (.bl true)):=O8 (fun _=> rfl) rfl rfl
theorem A0N:cb F4 [.val (.bl b),.val (.ty "str")] k=k (.val (.bl false)):=O8 (fun _=> rfl) rfl rfl
theorem z8:cb F4 [.val (.bl b),.val (.ty "tuple")] k=k (.val (.bl false)):=O8 (fun _=> rfl) rfl rfl
theorem A0L:cb F4 [.val (.bl b),.val (.ty "list")] k=k (.val (.bl false)):=O8 (fun _=> rfl) rfl rfl
theorem A0A:cb F4 [.val (.int i),.val (.ty "bool")] k=k (.val (.bl false)):=O8 (fun _=> rfl) rfl rfl
theorem A0I:cb F4 [.val (.int i),.val (.ty "int")] k=k (.val (.bl true)):=O8 (fun _=> rfl) rfl rfl
theorem A0F:cb F4 [.val (.int i),.val (.ty "str")] k=k (.val (.bl false)):=O8 (fun _=> rfl) rfl rfl
theorem v9:cb F4 [.val (.int i),.val (.ty "tuple")] k=k (.val (.bl false)):=O8 (fun _=> rfl) rfl rfl
theorem x7:cb F4 [.val (.int i),.val (.ty "list")] k=k (.val (.bl false)):=O8 (fun _=> rfl) rfl rfl
theorem y6:cb F4 [.val (.str x),.val (.ty "bool")] k=k (.val (.bl false)):=O8 (fun _=> rfl) rfl rfl
theorem A0D:cb F4 [.val (.str x),.val (.ty "int")] k=k (.val (.bl false)):=O8 (fun _=> rfl) rfl rfl
theorem A0B:cb F4 [.val (.str x),.val (.ty "str")] k=k (.val (.bl true)):=O8 (fun _=> rfl) rfl rfl
theorem w8:cb F4 [.val (.str x),.val (.ty "tuple")] k=k (.val (.bl false)):=O8 (fun _=> rfl) rfl rfl
theorem y8:cb F4 [.val (.str x),.val (.ty "list")] k=k (.val (.bl false)):=O8 (fun _=> rfl) rfl rfl
theorem y7:cb F4 [.val (.tup xs),.val (.ty "bool")] k=k (.val (.bl false)):=O8 (fun _=> rfl) rfl rfl
theorem A0J:cb F4 [.val (.tup xs),.val (.ty "int")] k=k (.val (.bl false)):=O8 (fun _=> rfl) rfl rfl
theorem A0C:cb F4 [.val (.tup xs),.val (.ty "str")] k=k (.val (.bl false)):=O8 (fun _=> rfl) rfl rfl
theorem w7:cb F4 [.val (.tup xs),.val (.ty "tuple")] k=k (.val (.bl true)):=O8 (fun _=> rfl) rfl rfl
theorem w9:cb F4 [.val (.tup xs),.val (.ty "list")] k=k (.val (.bl false)):=O8 (fun _=> rfl) rfl rfl
theorem x9:cb F4 [.val (.lst xs),.val (.ty "bool")] k=k (.val (.bl false)):=O8 (fun _=> rfl) rfl rfl
theorem A0M:cb F4 [.val (.lst xs),.val (.ty "int")] k=k (.val (.bl false)):=O8 (fun _=> rfl) rfl rfl
theorem A0E:cb F4 [.val (.lst xs),.val (.ty "str")] k=k (.val (.bl false)):=O8 (fun _=> rfl) rfl rfl
theorem w5:cb F4 [.val (.lst xs),.val (.ty "tuple")] k=k (.val (.bl false)):=O8 (fun _=> rfl) rfl rfl
theorem y0:cb F4 [.val (.lst xs),.val (.ty "list")] k=k (.val (.bl true)):=O8 (fun _=> rfl) rfl rfl
theorem A6q:M1 (.bl b) (.bl c)=decide (b=c):=by cases b <;> cases c <;> rfl
theorem A1f:C9 (F0 false) (.val (.bl b)) (.val (.bl c)) k=k (.val (.bl (decide (b=c)))):=by
  funext h Q E
  show (_∧_∧_)=_
  refine propext ⟨fun z=> ?_,fun z=> ⟨rfl,rfl,?_⟩⟩
  · have z:=z.2.2
    rw [←A6q]
    exact z
  · rw [←A6q] at z
    exact z
theorem B4S:C9 (O3 false) (.val (.bl b)) (.val .non) k=k (.val (.bl false)):=u5 (fun _=> rfl)
theorem A0W:C9 (F0 true) (.val (.bl b)) (.val (.bl c)) k=k (.val (.bl (!decide (b=c)))):=by
  funext h Q E
  show (_∧_∧_)=_
  refine propext ⟨fun z=> ?_,fun z=> ⟨rfl,rfl,?_⟩⟩
  · have z:=z.2.2
    rw [←A6q]
    exact z
  · rw [←A6q] at z
    exact z
end
mutual
def W.sm:Nat→W→Bool
  | _,.non=> true
  | _,.bl _=> true
  | _,.int _=> true
  | _,.str _=> true
  | n+1,.tup xs=> decide (xs.length≤100000) && W.sms n xs
  | n+1,.lst xs=> decide (xs.length≤100000) && W.sms n xs
  | _,_=> false
def W.sms:Nat→List W→Bool
  | _,[]=> true
  | n,x::xs=> W.sm n x && W.sms n xs
end
theorem W.sms_mem {n:Nat}:∀{xs:List W},W.sms n xs=true→∀x∈xs,x.sm n=true
  | [],_,x,h=> by cases h
  | y::ys,e,x,h=> by
    simp only [W.sms,Bool.and_eq_true] at e
    rcases List.mem_cons.mp h with rfl | h
    · exact e.1
    · exact W.sms_mem e.2 x h
theorem B3A:∀(d:Nat) (w:W),w.sm d=true→m__law_same (d+1) [w,w]=ret (.val (.bl true)):=by
  intro d
  induction d with
  | zero=>
    intro w h
    show A16 _ w w=_
    unfold A16
    cases w with
    | non=> simp only [↓C4,↓D1,↓E8,↓D5,↓E7,↓E6,↓J9,↓J8,↓K3,↓W9,↓H8,↓d3,↓Y7,↓A0Z,↓c8,↓t9,↓K9,↓X1,↓Y8,↓F6,↓B3C,if_true,if_false,Bool.not_true,Bool.not_false,Bool.false_eq_true,decide_true,↓z9,↓A0K,↓A0G,↓w4,↓y9,↓A0H,↓A0O,↓A0N,↓z8,↓A0L,↓A0A,↓A0I,↓A0F,↓v9,↓x7,↓y6,↓A0D,↓A0B,↓w8,↓y8,↓y7,↓A0J,↓A0C,↓w7,↓w9,↓x9,↓A0M,↓A0E,↓w5,↓y0,↓A1f,↓A0W]
    | bl b=> simp only [↓C4,↓D1,↓E8,↓D5,↓E7,↓E6,↓J9,↓J8,↓K3,↓W9,↓H8,↓d3,↓Y7,↓A0Z,↓c8,↓t9,↓K9,↓X1,↓Y8,↓F6,if_true,if_false,Bool.not_true,Bool.false_eq_true,decide_true,↓B4S,↓z9,↓A0K,↓A0G,↓w4,↓y9,↓A0H,↓A0O,↓A0N,↓z8,↓A0L,↓A0A,↓A0I,↓A0F,↓v9,↓x7,↓y6,↓A0D,↓A0B,↓w8,↓y8,↓y7,↓A0J,↓A0C,↓w7,↓w9,↓x9,↓A0M,↓A0E,↓w5,↓y0,↓A1f,↓A0W]
    | int i=> simp only [↓C4,↓D1,↓E8,↓D5,↓E7,↓E6,↓J9,↓J8,↓K3,↓W9,↓H8,↓d3,↓Y7,↓A0Z,↓c8,↓t9,↓K9,↓X1,↓Y8,↓F6,↓A7R,↓B35,if_true,if_false,Bool.not_true,Bool.not_false,Bool.false_eq_true,decide_true,↓z9,↓A0K,↓A0G,↓w4,↓y9,↓A0H,↓A0O,↓A0N,↓z8,↓A0L,↓A0A,↓A0I,↓A0F,↓v9,↓x7,↓y6,↓A0D,↓A0B,↓w8,↓y8,↓y7,↓A0J,↓A0C,↓w7,↓w9,↓x9,↓A0M,↓A0E,↓w5,↓y0,↓A1f,↓A0W]
    | str x=> simp only [↓C4,↓D1,↓E8,↓D5,↓E7,↓E6,↓J9,↓J8,↓K3,↓W9,↓H8,↓d3,↓Y7,↓A0Z,↓c8,↓t9,↓K9,↓X1,↓Y8,↓F6,↓A4W,↓A9V,↓A3M,↓A4j,↓B34,if_true,if_false,Bool.not_true,Bool.not_false,Bool.false_eq_true,decide_true,Int.toNat_natCast,G9,↓z9,↓A0K,↓A0G,↓w4,↓y9,↓A0H,↓A0O,↓A0N,↓z8,↓A0L,↓A0A,↓A0I,↓A0F,↓v9,↓x7,↓y6,↓A0D,↓A0B,↓w8,↓y8,↓y7,↓A0J,↓A0C,↓w7,↓w9,↓x9,↓A0M,↓A0E,↓w5,↓y0,↓A1f,↓A0W]
    | tup xs=> simp [W.sm] at h
    | lst xs=> simp [W.sm] at h
    | dct _ _=> simp [W.sm] at h
    | ref _=> simp [W.sm] at h
    | ty _=> simp [W.sm] at h
    | emp=> simp [W.sm] at h
  | succ d ih=>
    intro w h
    show A16 (m__law_same (d+1)) w w=_
    unfold A16
    have seq:∀xs:List W,xs.length≤100000→(∀x∈xs,x.sm d=true)→∀v:W,(∀(i:Nat) (k:SV→MC),i < xs.length→C9 oIx (.val v) (.val (.int i)) k=W0 xs i fun w=> k (.val w))→
        ∀k:SV→MC,V4 (fun x_at kk=> C9 oIx (.val v) (.val x_at) fun x=> C9 oIx (.val v) (.val x_at) fun y=> call0 (m__law_same (d+1) [x.fz,y.fz]) fun z=> kk (some z.fz)) (fun acc=> k (.own (.seq acc))) (X2 0 xs.length) []=k (.own (.seq ((List.replicate xs.length true).map W.bl))):=by
      intro xs hl hx v hv k
      rw [B8b,A9D d5 (fun _=> .bl true) _ (fun i hi kk=> ?_) (by simp [G9];omega)]
      · congr 3
        rw [List.map_const',List.map_replicate,List.length_range]
      · have hi:i < xs.length:=by simpa using hi
        rw [hv i _ hi,A6d hi,hv i _ hi,A6d hi,C6,ih _ (hx _ (List.getElem_mem hi)),A4Q,C6]
    cases w with
    | non=> simp only [↓C4,↓D1,↓E8,↓D5,↓E7,↓E6,↓J9,↓J8,↓K3,↓W9,↓H8,↓d3,↓Y7,↓A0Z,↓c8,↓t9,↓K9,↓X1,↓Y8,↓F6,↓B3C,if_true,if_false,Bool.not_true,Bool.not_false,Bool.false_eq_true,decide_true,↓z9,↓A0K,↓A0G,↓w4,↓y9,↓A0H,↓A0O,↓A0N,↓z8,↓A0L,↓A0A,↓A0I,↓A0F,↓v9,↓x7,↓y6,↓A0D,↓A0B,↓w8,↓y8,↓y7,↓A0J,↓A0C,↓w7,↓w9,↓x9,↓A0M,↓A0E,↓w5,↓y0,↓A1f,↓A0W]
    | bl b=> simp only [↓C4,↓D1,↓E8,↓D5,↓E7,↓E6,↓J9,↓J8,↓K3,↓W9,↓H8,↓d3,↓Y7,↓A0Z,↓c8,↓t9,↓K9,↓X1,↓Y8,↓F6,if_true,if_false,Bool.not_true,Bool.false_eq_true,decide_true,↓B4S,↓z9,↓A0K,↓A0G,↓w4,↓y9,↓A0H,↓A0O,↓A0N,↓z8,↓A0L,↓A0A,↓A0I,↓A0F,↓v9,↓x7,↓y6,↓A0D,↓A0B,↓w8,↓y8,↓y7,↓A0J,↓A0C,↓w7,↓w9,↓x9,↓A0M,↓A0E,↓w5,↓y0,↓A1f,↓A0W]
    | int i=> simp only [↓C4,↓D1,↓E8,↓D5,↓E7,↓E6,↓J9,↓J8,↓K3,↓W9,↓H8,↓d3,↓Y7,↓A0Z,↓c8,↓t9,↓K9,↓X1,↓Y8,↓F6,↓A7R,↓B35,if_true,if_false,Bool.not_true,Bool.not_false,Bool.false_eq_true,decide_true,↓z9,↓A0K,↓A0G,↓w4,↓y9,↓A0H,↓A0O,↓A0N,↓z8,↓A0L,↓A0A,↓A0I,↓A0F,↓v9,↓x7,↓y6,↓A0D,↓A0B,↓w8,↓y8,↓y7,↓A0J,↓A0C,↓w7,↓w9,↓x9,↓A0M,↓A0E,↓w5,↓y0,↓A1f,↓A0W]
    | str x=> simp only [↓C4,↓D1,↓E8,↓D5,↓E7,↓E6,↓J9,↓J8,↓K3,↓W9,↓H8,↓d3,↓Y7,↓A0Z,↓c8,↓t9,↓K9,↓X1,↓Y8,↓F6,↓A4W,↓A9V,↓A3M,↓A4j,↓B34,if_true,if_false,Bool.not_true,Bool.not_false,Bool.false_eq_true,decide_true,Int.toNat_natCast,G9,↓z9,↓A0K,↓A0G,↓w4,↓y9,↓A0H,↓A0O,↓A0N,↓z8,↓A0L,↓A0A,↓A0I,↓A0F,↓v9,↓x7,↓y6,↓A0D,↓A0B,↓w8,↓y8,↓y7,↓A0J,↓A0C,↓w7,↓w9,↓x9,↓A0M,↓A0E,↓w5,↓y0,↓A1f,↓A0W]
    | tup xs=>
      simp only [W.sm,Bool.and_eq_true,decide_eq_true_eq] at h
      have hl:=h.1
      simp only [↓C4,↓D1,↓E8,↓D5,↓E7,↓E6,↓J9,↓J8,↓K3,↓W9,↓H8,↓d3,↓Y7,↓A0Z,↓c8,↓t9,↓K9,↓X1,↓Y8,↓F6,↓A4W,↓Y5,↓A3M,↓C1Q,if_true,if_false,Bool.not_true,Bool.not_false,Bool.false_eq_true,decide_true,Int.toNat_natCast,↓z9,↓A0K,↓A0G,↓w4,↓y9,↓A0H,↓A0O,↓A0N,↓z8,↓A0L,↓A0A,↓A0I,↓A0F,↓v9,↓x7,↓y6,↓A0D,↓A0B,↓w8,↓y8,↓y7,↓A0J,↓A0C,↓w7,↓w9,↓x9,↓A0M,↓A0E,↓w5,↓y0,↓A0W]
      rw [G2 (by omega)]
      refine (seq xs h.1 (W.sms_mem h.2) (.tup xs) (fun i k _=> R6) (fun z=> cb A2l [z] ret)).trans ?_
      rw [A9c]
      simp
    | lst xs=>
      simp only [W.sm,Bool.and_eq_true,decide_eq_true_eq] at h
      have hl:=h.1
      simp only [↓C4,↓D1,↓E8,↓D5,↓E7,↓E6,↓J9,↓J8,↓K3,↓W9,↓H8,↓d3,↓Y7,↓A0Z,↓c8,↓t9,↓K9,↓X1,↓Y8,↓F6,↓A4W,↓A6j,↓A3M,↓C1a,if_true,if_false,Bool.not_true,Bool.not_false,Bool.false_eq_true,decide_true,Int.toNat_natCast,↓z9,↓A0K,↓A0G,↓w4,↓y9,↓A0H,↓A0O,↓A0N,↓z8,↓A0L,↓A0A,↓A0I,↓A0F,↓v9,↓x7,↓y6,↓A0D,↓A0B,↓w8,↓y8,↓y7,↓A0J,↓A0C,↓w7,↓w9,↓x9,↓A0M,↓A0E,↓w5,↓y0,↓A0W]
      rw [G2 (by omega)]
      refine (seq xs h.1 (W.sms_mem h.2) (.lst xs) (fun i k _=> A3U) (fun z=> cb A2l [z] ret)).trans ?_
      rw [A9c]
      simp
    | dct _ _=> simp [W.sm] at h
    | ref _=> simp [W.sm] at h
    | ty _=> simp [W.sm] at h
    | emp=> simp [W.sm] at h
end Ab
namespace Ab
open PySem PySem.Spec PyProof.Rows L2 RZ
def A3u (x_sizes:W):MC:=
  (M2 (A1A (G6 (A07 (fun i j=> decide (i≤j)) (fun i j=> decide (i≤j)) (eC (.int 1)) (I9 G4 (F7 (eV (.val x_sizes)) H9)) (eC (.int 6))))) (u4 "BadSizes" "bad sizes" ["cask"] (A2 (A1 (A3Y (eC (.int 1)))) B4)) (A7Y (A7I (A1 (eV (.val x_sizes)))) () (fun w6 (s1:Unit) kn3 kb4=> un2 w6 fun x_cask x_size=> (M2 (A1A (G6 (A07 (fun i j=> decide (i≤j)) (fun i j=> decide (i≤j)) (eC (.int 1)) (eV (.val x_size)) (eC (.int 40))))) (u4 "BadSizes" "bad sizes" ["cask"] (A2 (A1 (eV (.val x_cask))) B4)) (kn3 ()))) fun (s1:Unit)=> (ret (.val .non))))
def A1v:List W→MC
  | [x_sizes]=> A3u x_sizes
  | _=> bad
def A4N (x_text:W):MC:=
  ((A09 (A07 (fun i j=> decide (i≤j)) (fun i j=> decide (i≤j)) (eC (.int 1)) (I9 G4 (F7 (eV (.val x_text)) H9)) (eC (.int 8))) (I9 A2l (F7 (eLc (A9H (eV (.val x_text))) fun x_sign kk=> lcb tYes (A1 (B5 (oInS false) (eV (.val x_sign)) (eC (.str ("abcdefghijklmnopqrstuvwxyz":Str))))) kk) H9))) ret)
def A2D:List W→MC
  | [x_text]=> A4N x_text
  | _=> bad
def A2C (x_step:W):MC:=
  ((A09 (B5 oGt (I9 G4 (F7 (eV (.val x_step)) H9)) (eC (.int 0))) (B5 (F0 false) (B5 oIx (eV (.val x_step)) (eC (.int 0))) (eC (.str ("call":Str))))) ret)
def N1:List W→MC
  | [x_step]=> A2C x_step
  | _=> bad
def A12 (x_step:W):MC:=
  (M2 (G6 (B5 (F0 true) (I9 G4 (F7 (eV (.val x_step)) H9)) (eC (.int 3)))) ((A3Y (eC (.int 1))) ret) ((eIf (G6 (A07 (fun i j=> decide (i≤j)) (fun i j=> decide (i≤j)) (eC (.int 0)) (B5 oIx (eV (.val x_step)) (eC (.int 2))) (eC (.int 9)))) (eC .non) (eC (.int 2))) ret))
def A0k:List W→MC
  | [x_step]=> A12 x_step
  | _=> bad
def A3m (x_self x_sizes:W):MC:=
  ((R1 A1v (A2 (A1 (eV (.val x_sizes))) B4)) fun _=> (A4v "Book" "casks" (A1 (eV (.val x_sizes))) (eV (.val x_self)) ((A4v "Book" "written" (A5H A6p) (eV (.val x_self)) ((A4v "Book" "laid" (A5H A6p) (eV (.val x_self)) ((ret (.val .non)))))))))
def A1u:List W→MC
  | [x_self,x_sizes]=> A3m x_self x_sizes
  | _=> bad
def A3o (x_self x_name:W):MC:=
  (M2 (G6 (A7Z true (A1 (eV (.val x_name))) (Y9 "Book" "written" (eV (.val x_self))))) (u4 "NoRound" "no round" ["name"] (A2 (A1 (eV (.val x_name))) B4)) ((A3T (Y9 "Book" "written" (eV (.val x_self))) (A1 (eV (.val x_name)))) ret))
def P6:List W→MC
  | [x_self,x_name]=> A3o x_self x_name
  | _=> bad
def A1s (x_self x_name:W):MC:=
  ((I9 Q7 (F7 (E9 "Book" "there" P6 (eV (.val x_self)) (A2 (A1 (eV (.val x_name))) B4)) H9)) ret)
def Q3:List W→MC
  | [x_self,x_name]=> A1s x_self x_name
  | _=> bad
def A10 (x_self x_name:W):MC:=
  ((E9 "Book" "there" P6 (eV (.val x_self)) (A2 (A1 (eV (.val x_name))) B4)) fun _=> ((I9 Q7 (F7 (A3T (Y9 "Book" "laid" (eV (.val x_self))) (A1 (eV (.val x_name)))) H9)) ret))
def R3:List W→MC
  | [x_self,x_name]=> A10 x_self x_name
  | _=> bad
def A33 (x_self:W):MC:=
  ((I9 A0u (F7 (Y9 "Book" "written" (eV (.val x_self))) H9)) ret)
def p9:List W→MC
  | [x_self]=> A33 x_self
  | _=> bad
def A3t (x_self:W):MC:=
  ((I9 u6 (F7 (Y9 "Book" "written" (eV (.val x_self))) H9)) ret)
def o8:List W→MC
  | [x_self]=> A3t x_self
  | _=> bad
def A3k (x_self x_name:W):MC:=
  (M2 (A1A (G6 (R1 A2D (A2 (A1 (eV (.val x_name))) B4)))) (u4 "BadName" "bad name" [] B4) (M2 (G6 (A7Z false (A1 (eV (.val x_name))) (Y9 "Book" "written" (eV (.val x_self))))) (u4 "Taken" "taken" ["name"] (A2 (A1 (eV (.val x_name))) B4)) (M2 (G6 (B5 oGe (I9 u6 (F7 (Y9 "Book" "written" (eV (.val x_self))) H9)) (eC (.int 12)))) (u4 "TooMany" "too many" ["most"] (A2 (A1 (eC (.int 12))) B4)) (ret (.val .non)))))
def A1O:List W→MC
  | [x_self,x_name]=> A3k x_self x_name
  | _=> bad
def A3q (x_self x_steps:W):MC:=
  ((L1 B4) fun x_found=> (A7A (A7B (eV (.val x_steps))) x_found (fun x_step (s1:SV) kn3 kb4=> (M2 (G6 (R1 N1 (A2 (A1 (eV (.val x_step))) B4))) (B0R s1 (B5 oMulX (A3T (Y9 "Book" "laid" (eV (.val x_self))) (A1 (B5 oIx (eV (.val x_step)) (eC (.int 1))))) (B5 oIx (eV (.val x_step)) (eC (.int 2)))) fun x_found=> (kn3 x_found)) (lmC k9 s1 (A2 (A1 (eV (.val x_step))) B4) fun x_found _=> (kn3 x_found)))) fun (s1:SV)=> ((eV s1) ret)))
def A1P:List W→MC
  | [x_self,x_steps]=> A3q x_self x_steps
  | _=> bad
def A3j (x_self x_at x_step:W):MC:=
  ((A1 (eIf (G6 (R1 N1 (A2 (A1 (eV (.val x_step))) B4))) (R1 A0k (A2 (A1 (eV (.val x_step))) B4)) (R1 q9 (A2 (A1 (Y9 "Book" "casks" (eV (.val x_self)))) (A2 (A1 (eV (.val x_step))) B4))))) fun x_place=> (M2 (G6 (B5 (O3 true) (eV (.val x_place)) (eC .non))) (u4 "BadRow" "bad row" ["step","place"] (A2 (A1 (eV (.val x_at))) (A2 (A1 (eV (.val x_place))) B4))) (M2 (G6 (R1 N1 (A2 (A1 (eV (.val x_step))) B4))) ((E9 "Book" "there" P6 (eV (.val x_self)) (A2 (A1 (B5 oIx (eV (.val x_step)) (eC (.int 1)))) B4)) fun _=> (ret (.val .non))) (ret (.val .non)))))
def A1N:List W→MC
  | [x_self,x_at,x_step]=> A3j x_self x_at x_step
  | _=> bad
def A30 (x_self x_steps:W):MC:=
  ((I9 o0 (F7 (B0X (A7B (eV (.val x_steps))) fun x_step kk=> lcb tYes (A1 (eIf (G6 (A3D N1 (A2 (A1 (eV (.val x_step))) B4))) (B5 oMulT (B5 oIx (eV (.val x_step)) (eC (.int 2))) (I9 G4 (F7 (A3T (Y9 "Book" "laid" (eV (.val x_self))) (A1 (B5 oIx (eV (.val x_step)) (eC (.int 1))))) H9))) (eC (.int 1)))) kk) H9)) ret)
def A1R:List W→MC
  | [x_self,x_steps]=> A30 x_self x_steps
  | _=> bad
def A0j (x_self x_name:W):MC:=
  ((E9 "Book" "there" P6 (eV (.val x_self)) (A2 (A1 (eV (.val x_name))) B4)) fun _=> ((L1 B4) fun x_found=> (A9g "Book" "written" (.val x_self) x_found (fun x_other x_steps (s1:SV) kn3=> (M2 (G6 (I9 B0H (F7 (eLc (A6w (A1 (eV (.val x_steps)))) fun x_step kk=> lcb tYes (A1 (A09 (A3D N1 (A2 (A1 (eV (.val x_step))) B4)) (B5 (F0 false) (B5 oIx (eV (.val x_step)) (eC (.int 1))) (eV (.val x_name))))) kk) H9))) (lmC k9 s1 (A2 (A1 (eV (.val x_other))) B4) fun x_found _=> (kn3 x_found)) (kn3 s1))) (fun (s1:SV)=> x_self.nodct=true∧x_name.nodct=true∧s1.nodct=true) fun (s1:SV)=> ((eV s1) ret))))
def Z7:List W→MC
  | [x_self,x_name]=> A0j x_self x_name
  | _=> bad
def A3l (x_self x_name x_steps:W):MC:=
  ((E9 "Book" "look_new" A1O (eV (.val x_self)) (A2 (A1 (eV (.val x_name))) B4)) fun _=> (A7A (B0M (eV (.val x_steps))) () (fun w6 (s1:Unit) kn3 kb4=> un2 w6 fun x_at x_step=> ((E9 "Book" "look_step" A1N (eV (.val x_self)) (A2 (A1 (eV (.val x_at))) (A2 (A1 (eV (.val x_step))) B4))) fun _=> (kn3 ()))) fun (s1:Unit)=> (M2 (G6 (B5 oGt (E9 "Book" "length" A1R (eV (.val x_self)) (A2 (A1 (eV (.val x_steps))) B4)) (eC (.int 200)))) (u4 "TooLong" "too long" ["most"] (A2 (A1 (eC (.int 200))) B4)) (A7S (A1 (I9 Q7 (F7 (eV (.val x_steps)) H9))) (Y9 "Book" "written" (eV (.val x_self))) (A1 (eV (.val x_name))) ((A7S (A1 (E9 "Book" "laid_out" A1P (eV (.val x_self)) (A2 (A1 (eV (.val x_steps))) B4))) (Y9 "Book" "laid" (eV (.val x_self))) (A1 (eV (.val x_name))) ((ret (.val .non)))))))))
def G8:List W→MC
  | [x_self,x_name,x_steps]=> A3l x_self x_name x_steps
  | _=> bad
def A6c:Str:=("abcdefghijklmnopqrstuvwxyz":Str)
def A1a (x:Str):Bool:=decide ((1:Int)≤x.length) && (decide ((x.length:Int)≤8) && x.cps.toList.all fun c=> A0V ⟨#[c]⟩ A6c)
theorem B76 {x:Str} (l:x.length≤1000):A2D [.str x]=ret (.val (.bl (A1a x))):=by
  show A4N _=_
  unfold A4N
  have l2:x.length≤16777216:=by omega
  have l3:x.cps.toList.length≤sizeLine:=by
    have e:x.cps.toList.length=x.length:=by simp [Str.length]
    rw [e,G9];omega
  simp only [↓C0L,↓B9y,↓C4,↓D1,↓E8,↓D5,↓J9,↓J8,↓K3,↓W9,↓Y7,↓j4,↓X1,↓Y8,↓W8,↓F6,↓T5,↓A9V,if_true,if_false,Bool.false_eq_true,decide_eq_true_eq,G9,l2,T5]
  unfold A1a
  by_cases a:(1:Int)≤x.length
  · by_cases b:(x.length:Int)≤8
    · simp only [a,b,if_true,decide_true,Bool.true_and]
      show V4 _ _ (x.cps.toList.map fun c=> W.str ⟨#[c]⟩) []=_
      rw [A9D (fun c:Nat=> W.str ⟨#[c]⟩) (fun c=> .bl (A0V ⟨#[c]⟩ A6c)) x.cps.toList (fun c _ kk=> by rw [C3J];rfl) l3]
      rw [show (x.cps.toList.map fun c=> W.bl (A0V ⟨#[c]⟩ A6c))=(x.cps.toList.map fun c=> A0V ⟨#[c]⟩ A6c).map W.bl by rw [List.map_map];rfl,A9c,List.all_map]
      rfl
    · simp only [a,b,if_true,if_false,decide_true,decide_false,Bool.true_and,Bool.false_and,Bool.false_eq_true]
  · simp only [a,if_false,decide_false,Bool.false_and,Bool.false_eq_true]
inductive St where
  | call (n:Str) (t:Nat) | deed (d:Dd)
def St.w:St→W
  | .call n t=> .tup [.str "call",.str n,.int (t:Int)]
  | .deed d=> d.w
def St.isC:St→Bool
  | .call _ _=> true
  | .deed _=> false
def St.ok (ss:List Int):St→Prop
  | .call _ t=> t≤9
  | .deed d=> d.ok ss
theorem C1H (d:Dd):d.word≠("call":Str):=by cases d <;> (show Str.ofString _≠Str.ofString _;rw [Ne,A0t];decide)
theorem St.nb (s:St):s.w.nb 1=true:=by
  cases s with
  | call n t=> rfl
  | deed d=> exact C3n d
theorem A4H {c:Str} {r:List W} (hr:r.length≤1000):N1 [.tup (.str c::r)]=ret (.val (.bl (decide (c=("call":Str))))):=by
  show A2C _=_
  unfold A2C
  simp only [↓C4,↓D1,↓E8,↓J9,↓J8,↓K3,↓Y7,↓F6,↓B0P,↓R6,↓f9,↓Y5,↓A4j,decide_eq_true_eq,List.length_cons]
  rw [if_pos (show (0:Int) < ((r.length+1:Nat):Int) by omega)]
theorem B7t:N1 [.tup []]=ret (.val (.bl false)):=by
  show A2C _=_
  unfold A2C
  simp only [↓C4,↓D1,↓E8,↓J9,↓J8,↓K3,↓Y7,↓F6,↓B0P,↓R6,↓Y5,decide_eq_true_eq,List.length_nil]
  rfl
theorem Dd.w_len (d:Dd) (ss:List Int) (hs:S9 ss) (h:d.ok ss):d.rest.length≤1000:=by
  have l6:=hs.2.1
  cases d with
  | over n cs=>
    have z:=h.2.2.2.1
    simp only [Dd.rest,List.length_cons,List.length_map]
    omega
  | down n cs=>
    have z:=h.2.2.2.1
    simp only [Dd.rest,List.length_cons,List.length_map]
    omega
  | _=> simp [Dd.rest]
theorem A5z {ss:List Int} (hs:S9 ss) {s:St} (h:s.ok ss):N1 [s.w]=ret (.val (.bl s.isC)):=by
  cases s with
  | call n t=> exact A4H (r:=[.str n,.int t]) (by simp)
  | deed d=>
    show N1 [d.w]=_
    rw [Dd.w_eq,A4H (d.w_len ss hs h),decide_eq_false (C1H d)]
    rfl
theorem B1L {n:Str} {t:Int}:A0k [.tup [.str "call",.str n,.int t]]=ret (.val (if 0≤t∧t≤9 then .non else .int 2)):=by
  show A12 _=_
  unfold A12
  simp only [↓C4,↓D1,↓E8,↓J9,↓J8,↓K3,↓H8,↓v5,↓A4z,↓j4,↓K9,↓W8,↓F6,↓R6,↓A3V,↓Y5,↓A3M,if_false,Bool.false_eq_true,decide_eq_true_eq,List.length_cons,List.length_nil,Nat.zero_add,Nat.reduceAdd]
  rw [if_neg (by decide)]
  by_cases a:0≤t
  · by_cases b:t≤9
    · simp only [a,b,if_true,decide_true,and_self]
    · simp only [a,b,if_true,if_false,decide_false,and_false,Bool.false_eq_true]
  · simp only [a,if_false,false_and,Bool.false_eq_true]
theorem B6w {ws:List W} (h:ws.length≠3):A0k [.tup ws]=ret (.val (.int (-1))):=by
  show A12 _=_
  unfold A12
  simp only [↓C4,↓D1,↓E8,↓J9,↓J8,↓K3,↓H8,↓v5,↓A4z,↓j4,↓K9,↓W8,↓F6,↓R6,↓Y5,↓A3M,if_false,Bool.false_eq_true,decide_eq_true_eq]
  rw [if_pos (by rw [decide_eq_false (by omega)];rfl)]
structure Ent where
  name:Str
  steps:List St
  deeds:List Dd
def Ent.wr (e:Ent):Str×W:=(e.name,.lst (e.steps.map St.w))
def Ent.la (e:Ent):Str×W:=(e.name,.lst (e.deeds.map Dd.w))
structure BookAt (h:AH) (b:Addr) (s:W) (pw pl:Addr) (es:List Ent):Prop where
  ob:h b=some (.ins "Book" [("casks",s),("written",.ref pw),("laid",.ref pl)])
  wr:h pw=some (.cont (.map (smap (es.map Ent.wr))))
  la:h pl=some (.cont (.map (smap (es.map Ent.la))))
  ne:pw≠pl
theorem BookAt.nbw {h:AH} {b:Addr} {s:W} {pw pl:Addr} {es:List Ent} (B:BookAt h b s pw pl es):b≠pw:=fun z=> by
  have a:=B.ob
  rw [z,B.wr] at a
  cases a
theorem BookAt.nbl {h:AH} {b:Addr} {s:W} {pw pl:Addr} {es:List Ent} (B:BookAt h b s pw pl es):b≠pl:=fun z=> by
  have a:=B.ob
  rw [z,B.la] at a
  cases a
def O1 (es:List Ent) (x:Str):Option Ent:=es.find? fun e=> e.name==x
theorem A4b {es:List Ent} {x:Str}:(es.map Ent.wr).lookup x=(O1 es x).map fun e=> W.lst (e.steps.map St.w):=by
  unfold O1
  induction es with
  | nil=> rfl
  | cons e es ih=>
    rw [List.map_cons,show Ent.wr e=(e.name,W.lst (e.steps.map St.w)) from rfl,List.lookup_cons,List.find?_cons]
    cases q:x==e.name with
    | true=>
      have q2:(e.name==x)=true:=BEq.comm.trans q
      rw [q2];rfl
    | false=>
      have q2:(e.name==x)=false:=BEq.comm.trans q
      rw [q2];exact ih
theorem A4c {es:List Ent} {x:Str}:(es.map Ent.la).lookup x=(O1 es x).map fun e=> W.lst (e.deeds.map Dd.w):=by
  unfold O1
  induction es with
  | nil=> rfl
  | cons e es ih=>
    rw [List.map_cons,show Ent.la e=(e.name,W.lst (e.deeds.map Dd.w)) from rfl,List.lookup_cons,List.find?_cons]
    cases q:x==e.name with
    | true=>
      have q2:(e.name==x)=true:=BEq.comm.trans q
      rw [q2];rfl
    | false=>
      have q2:(e.name==x)=false:=BEq.comm.trans q
      rw [q2];exact ih
section
variable {Q:RR→AH→Prop} {E:AExc→AH→Prop} {h:AH} {b pw pl:Addr} {s:W} {es:List Ent} {k:SV→MC}
theorem B2a (B:BookAt h b s pw pl es):A1C "Book" "casks" (.val (.ref b)) k h Q E=k (.val s) h Q E:=A3C B.ob rfl
theorem A1S (B:BookAt h b s pw pl es):A1C "Book" "written" (.val (.ref b)) k h Q E=k (.val (.ref pw)) h Q E:=A3C B.ob rfl
theorem B3B (B:BookAt h b s pw pl es):A1C "Book" "laid" (.val (.ref b)) k h Q E=k (.val (.ref pl)) h Q E:=A3C B.ob rfl
theorem Q4 {nm:Str} {k:Addr→MC} (B:BookAt h b s pw pl es) (hn:([("casks",s),("written",W.ref pw),("laid",W.ref pl)]:List (Str×W)).lookup nm=none):R8 "Book" nm (.val (.ref b)) k h Q E=k b h Q E:=B4I B.ob hn
theorem B87 (B:BookAt h b s pw pl es):p9 [.ref b] h Q E=Q (.own (.seq (es.map fun e=> W.str e.name))) h:=by
  show A33 _ h Q E=_
  unfold A33
  simp only [↓d4,↓C4,↓J9,↓J8,↓K3]
  rw [A1S B,B91 B.wr,List.map_map]
  rfl
theorem C1c (B:BookAt h b s pw pl es):o8 [.ref b] h Q E=Q (.val (.int es.length)) h:=by
  show A3t _ h Q E=_
  unfold A3t
  simp only [↓d4,↓C4,↓J9,↓J8,↓K3]
  rw [A1S B,B3Q B.wr,List.length_map]
  rfl
def l8 (x:Str):AExc:=⟨"NoRound",initF (W.str "no round") ["name"] [.str x]⟩
theorem A1W {x:Str} (B:BookAt h b s pw pl es):P6 [.ref b,.str x] h Q E=match O1 es x with
    | some e=> Q (.val (.lst (e.steps.map St.w))) h
    | none=> E (l8 x) h:=by
  show A3o _ _ h Q E=_
  unfold A3o
  simp only [↓d4,↓B5K,↓A3E,↓C4,↓D5,↓E7,↓E6,↓H8,↓K9,↓C6,↓A1V]
  rw [A1S B,B4D B.wr,A4b]
  cases q:O1 es x with
  | none=>
    simp only [↓F6,↓A4S,if_true,Bool.not_false,Option.map_none,Option.isSome_none]
    rfl
  | some e=>
    simp only [↓F6,if_true,if_false,Bool.not_true,Bool.false_eq_true,Option.map_some,Option.isSome_some]
    rw [A1S B,A6L B.wr (by rw [A4b,q];rfl)]
    rfl
theorem B2p {x:Str} {e:Ent} (B:BookAt h b s pw pl es) (q:O1 es x=some e):Q3 [.ref b,.str x] h Q E=Q (.own (.seq (e.steps.map St.w))) h:=by
  show A1s _ _ h Q E=_
  unfold A1s
  simp only [↓U9,↓C4,↓D5,↓E7,↓E6,↓J9,↓J8,↓K3,↓C6]
  rw [Q4 B rfl]
  show P6 _ h _ _=_
  rw [A1W B,q]
  show cb Q7 [.val (.lst _)] ret h Q E=_
  simp only [↓B4X,↓A9R,↓A9I]
theorem B86 {x:Str} (B:BookAt h b s pw pl es) (q:O1 es x=none):Q3 [.ref b,.str x] h Q E=E (l8 x) h:=by
  show A1s _ _ h Q E=_
  unfold A1s
  simp only [↓U9,↓C4,↓D5,↓E7,↓E6,↓J9,↓J8,↓K3,↓C6]
  rw [Q4 B rfl]
  show P6 _ h _ _=_
  rw [A1W B,q]
theorem B3i {x:Str} {e:Ent} (B:BookAt h b s pw pl es) (q:O1 es x=some e):R3 [.ref b,.str x] h Q E=Q (.own (.seq (e.deeds.map Dd.w))) h:=by
  show A10 _ _ h Q E=_
  unfold A10
  simp only [↓d4,↓U9,↓A3E,↓C4,↓D5,↓E7,↓E6,↓J9,↓J8,↓K3,↓C6]
  rw [Q4 B rfl]
  show P6 _ h _ _=_
  rw [A1W B,q]
  show A1C _ _ _ _ h Q E=_
  rw [B3B B,A6L B.la (by rw [A4c,q];rfl)]
  simp only [↓B4X,↓A9R,↓A9I]
theorem C0H {x:Str} (B:BookAt h b s pw pl es) (q:O1 es x=none):R3 [.ref b,.str x] h Q E=E (l8 x) h:=by
  show A10 _ _ h Q E=_
  unfold A10
  simp only [↓d4,↓U9,↓A3E,↓C4,↓D5,↓E7,↓E6,↓J9,↓J8,↓K3,↓C6]
  rw [Q4 B rfl]
  show P6 _ h _ _=_
  rw [A1W B,q]
def A8x:AExc:=⟨"BadName",initF (W.str "bad name") [] []⟩
def A62 (x:Str):AExc:=⟨"Taken",initF (W.str "taken") ["name"] [.str x]⟩
def A8U:AExc:=⟨"TooMany",initF (W.str "too many") ["most"] [.int 12]⟩
def Y1 (es:List Ent) (x:Str):Option AExc:=if A1a x=false then some A8x else if (O1 es x).isSome=true then some (A62 x) else if 12≤es.length then some A8U else none
theorem B71 {x:Str} (lx:x.length≤1000) (B:BookAt h b s pw pl es):A1O [.ref b,.str x] h Q E=match Y1 es x with
    | some e=> E e h
    | none=> Q (.val .non) h:=by
  show A3k _ _ h Q E=_
  unfold A3k
  simp only [↓d4,↓B5K,↓C4,↓D1,↓E8,↓D5,↓E7,↓E6,↓J9,↓J8,↓K3,↓H8,↓m9,↓T8,↓K9,↓C6,↓F6,↓S8,↓A1V,B76 lx]
  unfold Y1
  cases a:A1a x with
  | false=>
    simp only [↓A4S,if_true,Bool.not_false]
    rfl
  | true=>
    simp only [if_false,Bool.not_true,Bool.false_eq_true]
    rw [A1S B,B4D B.wr,A4b]
    cases q:O1 es x with
    | some e=>
      simp only [↓F6,↓A4S,if_true,if_false,Bool.not_true,Bool.false_eq_true,Option.map_some,Option.isSome_some]
      rfl
    | none=>
      simp only [↓F6,if_false,Bool.not_false,Bool.false_eq_true,Option.map_none,Option.isSome_none]
      rw [A1S B,B3Q B.wr,List.length_map]
      simp only [↓F6,↓B0d,decide_eq_true_eq]
      by_cases l:12≤es.length
      · rw [if_pos (show (12:Int)≤(es.length:Int) by omega),if_pos l]
        rfl
      · rw [if_neg (show ¬(12:Int)≤(es.length:Int) by omega),if_neg l]
        rfl
inductive Sw where
  | good (s:St) | odd (w:W) (p:Int)
def Sw.w:Sw→W
  | .good s=> s.w
  | .odd w _=> w
def Sw.ok (ss:List Int):Sw→Prop
  | .good s=> s.ok ss
  | .odd w p=> ∃c,N1 [w]=ret (.val (.bl c))∧(c=true→A0k [w]=ret (.val (.int p)))∧(c=false→q9 [.tup (ss.map .int),w]=ret (.val (.int p)))
def B4E (i:Int) (p:Int):AExc:=⟨"BadRow",initF (W.str "bad row") ["step","place"] [.int i,.int p]⟩
def A0r (es:List Ent) (i:Int):Sw→Option AExc
  | .good (.call n _)=> if (O1 es n).isSome=true then none else some (l8 n)
  | .good (.deed _)=> none
  | .odd _ p=> some (B4E i p)
theorem B7J {ss:List Int} {x:Sw} {i:Int} (hs:S9 ss) (hx:x.ok ss) (B:BookAt h b (.tup (ss.map .int)) pw pl es):A1N [.ref b,.int i,x.w] h Q E=match A0r es i x with
    | some e=> E e h
    | none=> Q (.val .non) h:=by
  show A3j _ _ _ h Q E=_
  unfold A3j
  cases x with
  | good g=>
    have ic:=A5z hs (s:=g) hx
    cases g with
    | call n t=>
      have ht:t≤9:=hx
      have cf:=B1L (n:=n) (t:=t)
      rw [if_pos ⟨by omega,by omega⟩] at cf
      have ic:N1 [.tup [.str "call",.str n,.int (t:Int)]]=ret (.val (.bl true)):=ic
      simp only [Sw.w,St.w,↓d4,↓U9,↓C4,↓D1,↓E8,↓D5,↓E7,↓E6,↓H8,↓v5,↓T8,↓K9,↓C6,↓F6,↓S8,↓R6,↓A0S,↓A8f,↓A1V,if_true,if_false,Bool.false_eq_true,ic,cf]
      rw [Q4 B rfl]
      show P6 _ h _ _=_
      rw [A1W B]
      cases q:O1 es n <;> simp only [A0r,q,Option.isSome_some,Option.isSome_none,if_true,if_false,Bool.false_eq_true] <;> rfl
    | deed d=>
      have fo:=B7V hs (d:=d) hx
      have ic:N1 [d.w]=ret (.val (.bl false)):=ic
      simp only [Sw.w,St.w,↓d4,↓U9,↓C4,↓D1,↓E8,↓D5,↓E7,↓E6,↓H8,↓v5,↓T8,↓K9,↓C6,↓F6,↓S8,↓A1V,if_false,Bool.false_eq_true,ic]
      rw [B2a B]
      simp only [↓C6,↓C2u,↓F6,↓A9R,↓S8,↓A8f,if_false,Bool.false_eq_true,fo,ic]
      rfl
  | odd w p=>
    obtain ⟨c,ic,h1,h2⟩:=hx
    cases c with
    | true=>
      simp only [Sw.w,↓d4,↓U9,↓C4,↓D1,↓E8,↓D5,↓E7,↓E6,↓H8,↓v5,↓T8,↓K9,↓C6,↓F6,↓A4S,↓S8,↓A8d,↓A1V,if_true,ic,h1 rfl]
      rfl
    | false=>
      simp only [Sw.w,↓d4,↓U9,↓C4,↓D1,↓E8,↓D5,↓E7,↓E6,↓H8,↓v5,↓T8,↓K9,↓C6,↓F6,↓S8,↓A1V,if_false,Bool.false_eq_true,ic]
      rw [B2a B]
      simp only [↓C6,↓F6,↓A4S,↓S8,↓A8d,if_true,h2 rfl]
      rfl
def A0Q (es:List Ent) (n:Str):List Dd:=match O1 es n with
  | some e=> e.deeds
  | none=> []
def A0d (es:List Ent):St→Nat
  | .call n t=> t*(A0Q es n).length
  | .deed _=> 1
def o6 (es:List Ent):St→List Dd
  | .call n t=> (List.replicate t (A0Q es n)).flatten
  | .deed d=> [d]
theorem C0j (es:List Ent) (s:St):(o6 es s).length=A0d es s:=by
  cases s with
  | call n t=> simp [o6,A0d]
  | deed d=> rfl
def A2i (es:List Ent):Prop:=∀e∈es,e.deeds.length≤200∧e.steps.length≤1000
theorem B8p {es:List Ent} {x:Str} {e:Ent} (h:O1 es x=some e):e∈es:=List.mem_of_find?_eq_some h
theorem A8l {es:List Ent} (h:A2i es) (n:Str):(A0Q es n).length≤200:=by
  unfold A0Q
  cases q:O1 es n with
  | none=> simp
  | some e=> exact (h e (B8p q)).1
def St.there (es:List Ent):St→Prop
  | .call n _=> (O1 es n).isSome=true
  | .deed _=> True
def Src (h:AH) (x:W) (ws:List W):Prop:=x= .lst ws∨x= .tup ws∨∃a,x= .ref a∧h a=some (.cont (.seq ws))
theorem A9G {x:W} {ws:List W} (s:Src h x ws):∃ok:AH→Prop,ok h∧∀(k:(AH→Prop)→List W→MC) (Q:RR→AH→Prop) (E:AExc→AH→Prop),v4 (.val x) k h Q E=k ok ws h Q E:=by
  rcases s with rfl | rfl | ⟨a,rfl,e⟩
  · exact ⟨fun _=> True,trivial,fun k Q E=> rfl⟩
  · exact ⟨fun _=> True,trivial,fun k Q E=> rfl⟩
  · exact ⟨fun g=> g a=some (.cont (.seq ws)),e,fun k Q E=> C1U e⟩
theorem C0r {x:W} {ws:List W} {k:SV→MC} (s:Src h x ws):cb Q7 [.val x] k h Q E=k (.own (.seq ws)) h Q E:=by
  rcases s with rfl | rfl | ⟨a,rfl,e⟩
  · simp only [↓A9I]
  · simp only [↓C2t]
  · unfold cb
    rw [List.map_cons,List.map_nil,A4Z e]
    show Q7 [.cv (.seq ws)] _=_
    rw [A6i]
    rfl
theorem B2k {α:Type} (f:α→Nat):∀l:List α,(l.map fun a=> ((f a:Nat):Int)).sum=((l.map f).sum:Nat)
  | []=> rfl
  | a::l=> by
    rw [List.map_cons,List.sum_cons,List.map_cons,List.sum_cons,B2k f l]
    omega
theorem B80 {ss:List Int} {x:W} {g:List St} (hs:S9 ss) (ho:A2i es) (hg:∀s∈g,s.ok ss∧s.there es) (lg:g.length≤1000) (sr:Src h x (g.map St.w)) (B:BookAt h b (.tup (ss.map .int)) pw pl es):
    A1R [.ref b,x] h Q E=Q (.val (.int ((g.map (A0d es)).sum:Nat))) h:=by
  show A30 _ _ h Q E=_
  unfold A30
  obtain ⟨ok,o,e⟩:=A9G sr
  simp only [↓d4,↓A3E,↓B3s,↓C3G,↓C4,↓D1,↓E8,↓D5,↓E7,↓E6,↓J9,↓J8,↓K3,↓W9,↓H8,↓v5,↓c8,↓X1,↓C6,if_true]
  rw [e,A82 St.w (fun s=> some (.int (A0d es s:Nat))) o g [] (fun s hm kk=> ?_) (by simp [G9];omega),List.nil_append]
  · rw [List.filterMap_eq_map']
    show cb o0 [.own (.seq (g.map fun s=> W.int ((A0d es s:Nat):Int)))] ret h Q E=_
    rw [show (g.map fun s=> W.int ((A0d es s:Nat):Int))=(g.map fun s=> ((A0d es s:Nat):Int)).map W.int by rw [List.map_map];rfl,C2l,B2k]
    rfl
  · obtain ⟨h1,h2⟩:=hg s hm
    have ic:=A5z hs h1
    cases s with
    | deed d=>
      have ic:N1 [d.w]=ret (.val (.bl false)):=ic
      simp only [St.w,↓F6,↓A4Q,if_false,Bool.false_eq_true,ic]
      rfl
    | call n t=>
      have ic:N1 [.tup [.str "call",.str n,.int (t:Int)]]=ret (.val (.bl true)):=ic
      simp only [St.w,↓C6,↓F6,↓A4Q,↓R6,↓A0S,↓A3V,if_true,ic]
      obtain ⟨e2,q⟩:=Option.isSome_iff_exists.mp h2
      have ht:t≤9:=h1
      have hd:=A8l ho n
      have de:A0Q es n=e2.deeds:=by unfold A0Q;rw [q]
      rw [de] at hd
      rw [B3B B,A6L B.la (by rw [A4c,q];rfl)]
      simp only [↓C6,↓A7N,↓A6j,List.length_map]
      rw [G2 (A1d (by omega) (by omega) (by omega) (by omega)),show A0d es (.call n t)=t*e2.deeds.length by rw [←de];rfl,Int.natCast_mul]
theorem B7d {ss:List Int} {x:W} {g:List St} (hs:S9 ss) (ho:A2i es) (hg:∀s∈g,s.ok ss∧s.there es) (lg:g.length≤1000) (sr:Src h x (g.map St.w)) (B1:h b=some (.ins "Book" [("casks",s),("written",.ref pw),("laid",.ref pl)])) (B2:h pl=some (.cont (.map (smap (es.map Ent.la))))):
    A1P [.ref b,x] h Q E=Q (.own (.seq ((g.flatMap (o6 es)).map Dd.w))) h:=by
  show A3q _ _ h Q E=_
  unfold A3q
  obtain ⟨ok,o,e⟩:=A9G sr
  simp only [↓B3s,↓B3p,↓C4,↓D5,↓E7,↓E6,↓V7,↓H8,↓T8,↓K9,↓C6,↓T5,List.length_nil,G9,Nat.reduceLeDiff]
  rw [e]
  have cb:∀s∈g,A0d es s≤1800:=fun s hm=> by
    obtain ⟨h1,h2⟩:=hg s hm
    cases s with
    | deed d=> show 1≤1800;omega
    | call n t=>
      have ht:t≤9:=h1
      have hd:=A8l ho n
      show t*(A0Q es n).length≤1800
      exact Nat.le_trans (Nat.mul_le_mul ht hd) (by decide)
  show n7 ok _ _ _ ((fun ds:List Dd=> SV.own (.seq (ds.map Dd.w))) []) h Q E=_
  rw [B2I St.w (fun ds:List Dd=> SV.own (.seq (ds.map Dd.w))) (fun ds s=> ds++o6 es s) o (fun i ds=> i≤1000→ds.length≤1800*i) g [] 0 (by simp) (fun j s hj ds kn kb hi=> ?_)]
  · rw [show g.foldl (fun ds s=> ds++o6 es s) []=g.flatMap (o6 es) from ?_]
    · rfl
    · have z:∀(l:List St) (a:List Dd),l.foldl (fun ds s=> ds++o6 es s) a=a++l.flatMap (o6 es):=fun l=> by
        induction l with
        | nil=> intro a;simp
        | cons s l ih=> intro a;rw [List.foldl_cons,ih,List.flatMap_cons,List.append_assoc]
      simpa using z g []
  · have hm:=List.mem_of_getElem? hj
    have jl:j < g.length:=(List.getElem?_eq_some_iff.mp hj).1
    obtain ⟨h1,h2⟩:=hg s hm
    have c:=cb s hm
    have lb:=hi (by omega)
    have ll:=C0j es s
    refine ⟨fun _=> by rw [List.length_append];omega,?_⟩
    have ic:=A5z hs h1
    cases s with
    | deed d=>
      have ic:N1 [d.w]=ret (.val (.bl false)):=ic
      simp only [St.w,↓d4,↓A3E,↓C4,↓D1,↓E8,↓D5,↓E7,↓E6,↓C6,↓F6,↓S8,↓B3g,↓A6l,↓A5y,if_false,Bool.false_eq_true,List.length_map,G9,ic]
      rw [G2 (by omega)]
      simp [o6]
    | call n t=>
      have ic:N1 [.tup [.str "call",.str n,.int (t:Int)]]=ret (.val (.bl true)):=ic
      simp only [St.w,↓d4,↓A3E,↓C4,↓D1,↓E8,↓D5,↓E7,↓E6,↓C6,↓F6,↓S8,↓R6,↓A0S,↓A3V,↓B3g,↓A6l,↓A5y,if_true,List.length_map,G9,ic]
      obtain ⟨e2,q⟩:=Option.isSome_iff_exists.mp h2
      have ht:t≤9:=h1
      have hd:=A8l ho n
      have de:A0Q es n=e2.deeds:=by unfold A0Q;rw [q]
      have le:o6 es (.call n t)=(List.replicate t e2.deeds).flatten:=by show (List.replicate t (A0Q es n)).flatten=_;rw [de]
      rw [A3C B1 rfl,A6L B2 (by rw [A4c,q];rfl),B3u,A1c,C2B,A1c,Int.toNat_natCast]
      rw [show (List.replicate t (e2.deeds.map Dd.w)).flatten=(o6 es (.call n t)).map Dd.w by rw [le,List.map_flatten,List.map_replicate],←List.map_append]
      have l1:(e2.deeds.map Dd.w).length*t≤1800:=by
        rw [List.length_map,←de,Nat.mul_comm]
        exact c
      refine propext ⟨fun z=> z.2.2,fun z=> ⟨⟨by omega,by omega,by rw [G9];omega⟩,?_,z⟩⟩
      rw [List.length_map,List.length_map,G9]
      omega
def A03 (x:Str):St→Bool
  | .call n _=> n==x
  | .deed _=> false
def A59 (es:List Ent) (x:Str):List Str:=(es.filter fun e=> e.steps.any (A03 x)).map Ent.name
theorem B2W {body:W→W→SV→(SV→MC)→MC} {fin:SV→Prop} (c:Ent→Bool):∀(es:List Ent) (acc:List Str),(∀e∈es,∀(acc:List Str) kn,acc.length≤1000→body (.str e.name) (.lst (e.steps.map St.w)) (.own (.seq (acc.map W.str))) kn (fun _=> none) Q E=kn (.own (.seq ((if c e=true then acc++[e.name] else acc).map W.str))) (fun _=> none) Q E)→
    acc.length+es.length≤1000→fin (.own (.seq ((acc++(es.filter c).map Ent.name).map W.str)))→A3A body fin (es.map Ent.wr) (.own (.seq (acc.map W.str))) (fun _=> none) Q E
  | [],acc,_,_,q=> by
    show fin (.own (.seq (acc.map W.str)))
    simpa using q
  | e::es,acc,hb,hl,q=> by
    rw [List.length_cons] at hl
    show body (.str e.name) (.lst (e.steps.map St.w)) (.own (.seq (acc.map W.str))) (fun s=> fun _ Q E=> A3A body fin (es.map Ent.wr) s (fun _=> none) Q E) (fun _=> none) Q E
    rw [hb e (by simp) acc _ (by omega)]
    refine B2W c es _ (fun e he=> hb e (by simp [he])) ?_ ?_
    · split
      · rw [List.length_append,List.length_cons,List.length_nil];omega
      · omega
    · rw [List.filter_cons] at q
      split
      · rename_i z
        rw [if_pos z] at q
        simpa using q
      · rename_i z
        rw [if_neg z] at q
        exact q
theorem A8S {xs:List W} (h:∀x∈xs,x.nodct=true):W.nodcts xs=true:=by
  induction xs with
  | nil=> rfl
  | cons x xs ih=>
    show (x.nodct && W.nodcts xs)=true
    rw [h x (by simp),ih fun y hy=> h y (by simp [hy])]
    rfl
theorem B9h (d:Dd):d.w.nodct=true:=by
  rw [Dd.w_eq]
  show W.nodcts (_::d.rest)=true
  refine A8S fun x hx=> ?_
  cases d <;> simp only [Dd.rest,List.mem_cons,List.not_mem_nil,or_false,List.mem_map] at hx
  case swap=> rcases hx with rfl | rfl | rfl <;> rfl
  case tap=> rcases hx with rfl | rfl | rfl <;> rfl
  case drain=> rcases hx with rfl | rfl | rfl <;> rfl
  case over=> rcases hx with rfl | rfl | ⟨a,_,rfl⟩ <;> rfl
  case down=> rcases hx with rfl | rfl | ⟨a,_,rfl⟩ <;> rfl
theorem B9B (s:St):s.w.nodct=true:=by
  cases s with
  | call n t=> rfl
  | deed d=> exact B9h d
theorem B78 {ss:List Int} {x:Str} {e:Ent} (hs:S9 ss) (hg:∀e∈es,e.steps.length≤1000∧∀s∈e.steps,s.ok ss) (le:es.length≤1000) (B:BookAt h b (.tup (ss.map .int)) pw pl es) (q:O1 es x=some e)
    (z:Q (.own (.seq ((A59 es x).map W.str))) h):Z7 [.ref b,.str x] h Q E:=by
  show A0j _ _ h Q E
  unfold A0j
  conv=> fun;fun;fun;simp only [↓U9,↓C4,↓D1,↓E8,↓D5,↓E7,↓E6,↓V7,↓J9,↓J8,↓K3,↓W9,↓H8,↓Y7,↓c8,↓A6E,↓K9,↓X1,↓Y8,↓C6,↓T5,if_true,List.length_nil,G9,Nat.reduceLeDiff]
  rw [Q4 B rfl]
  show P6 _ h _ _
  rw [A1W B,q]
  refine ⟨_,pw,es.map Ent.wr,B.ob,rfl,B.wr,fun p hp=> ?_,?_⟩
  · obtain ⟨e,_,rfl⟩:=List.mem_map.mp hp
    show W.nodcts (e.steps.map St.w)=true
    exact A8S fun y hy=> by obtain ⟨s,_,rfl⟩:=List.mem_map.mp hy;exact B9B s
  · refine B2W (fun e=> e.steps.any (A03 x)) es [] (fun e he acc kn la=> ?_) (by simpa using le) ⟨⟨rfl,rfl,?_⟩,z⟩
    · simp only [↓C4,↓D5,↓E7,↓E6,↓C6,↓A8W,↓A6l,↓A5y,List.length_map,G9]
      obtain ⟨l1,h1⟩:=hg e he
      rw [A9D St.w (fun s=> .bl (A03 x s)) e.steps (fun s hm kk=> ?_) (by rw [G9];omega)]
      · rw [show (e.steps.map fun s=> W.bl (A03 x s))=(e.steps.map (A03 x)).map W.bl by rw [List.map_map];rfl,C1k,List.any_map,F6]
        rw [show (e.steps.any (id∘A03 x))=e.steps.any (A03 x) from rfl]
        cases e.steps.any (A03 x) with
        | false=> rfl
        | true=>
          rw [if_pos rfl,if_pos rfl,G2 (by omega),List.map_append]
          rfl
      · have ic:=A5z hs (h1 s hm)
        cases s with
        | deed d=>
          have ic:N1 [d.w]=ret (.val (.bl false)):=ic
          simp only [St.w,↓F6,↓A4Q,if_false,Bool.false_eq_true,ic]
          rfl
        | call n t=>
          have ic:N1 [.tup [.str "call",.str n,.int (t:Int)]]=ret (.val (.bl true)):=ic
          simp only [St.w,↓C6,↓F6,↓A4Q,↓R6,↓A0S,↓A4j,if_true,ic]
          rw [show decide (n=x)=A03 x (.call n t) by
            show _=(n==x)
            by_cases z:n=x
            · subst z;simp
            · rw [beq_false_of_ne z]
              exact decide_eq_false z]
    · exact A8S fun y hy=> by obtain ⟨s,_,rfl⟩:=List.mem_map.mp hy;rfl
def A21 (es:List Ent) (xs:List Sw):Option AExc:=xs.zipIdx.findSome? fun p=> A0r es (p.2:Int) p.1
def i9:List Sw→List St
  | []=> []
  | .good s::r=> s::i9 r
  | .odd _ _::r=> i9 r
def tooLong:AExc:=⟨"TooLong",initF (W.str "too long") ["most"] [.int 200]⟩
def A2L (es:List Ent) (xs:List Sw):Nat:=((i9 xs).map (A0d es)).sum
def X8 (es:List Ent) (x:Str) (xs:List Sw):Option AExc:=match Y1 es x with
  | some e=> some e
  | none=> match A21 es xs with
    | some e=> some e
    | none=> if 200 < A2L es xs then some tooLong else none
def A2Z (es:List Ent) (x:Str) (xs:List Sw):Ent:=⟨x,i9 xs,(i9 xs).flatMap (o6 es)⟩
theorem B23 {es:List Ent}:∀{xs:List Sw} {i:Nat},(xs.zipIdx i).findSome? (fun p=> A0r es (p.2:Int) p.1)=none→xs.map Sw.w=(i9 xs).map St.w∧∀s∈i9 xs,Sw.good s∈xs∧s.there es
  | [],_,_=> ⟨rfl,fun s h=> nomatch h⟩
  | .good s::r,i,h=> by
    rw [List.zipIdx_cons,List.findSome?_cons] at h
    cases q:A0r es (i:Int) (.good s) with
    | some e=> rw [q] at h;cases h
    | none=>
      rw [q] at h
      obtain ⟨a,b⟩:=B23 (xs:=r) h
      refine ⟨by show s.w::_=s.w::_;rw [a],fun s' hm=> ?_⟩
      rcases List.mem_cons.mp hm with rfl | hm
      · refine ⟨by simp,?_⟩
        cases s' with
        | deed d=> trivial
        | call n t=>
          have q:(if (O1 es n).isSome=true then none else some (l8 n))=none:=q
          split at q
          · assumption
          · cases q
      · exact ⟨List.mem_cons_of_mem _ (b s' hm).1,(b s' hm).2⟩
  | .odd w p::r,i,h=> by
    rw [List.zipIdx_cons,List.findSome?_cons] at h
    cases h
theorem B2r {ss:List Int} {x:Str} {w:W} {xs:List Sw} (lx:x.length≤1000) (hs:S9 ss) (ho:A2i es) (hx:∀y∈xs,y.ok ss) (lg:xs.length≤1000) (sr:Src h w (xs.map Sw.w)) (na:∀a,w= .ref a→a≠pw∧a≠pl) (B:BookAt h b (.tup (ss.map .int)) pw pl es):
    G8 [.ref b,.str x,w] h Q E=match X8 es x xs with
      | some e=> E e h
      | none=> Q (.val .non) (D6 (D6 h pw (.cont (.map (smap ((es++[A2Z es x xs]).map Ent.wr))))) pl (.cont (.map (smap ((es++[A2Z es x xs]).map Ent.la))))):=by
  show A3l _ _ _ h Q E=_
  unfold A3l
  simp only [↓d4,↓U9,↓C00,↓C1m,↓B3p,↓C4,↓D1,↓E8,↓D5,↓E7,↓E6,↓J9,↓J8,↓K3,↓H8,↓K9,↓C6,↓A1V]
  rw [Q4 B rfl]
  show A1O _ h _ _=_
  rw [B71 lx B]
  unfold X8
  cases q1:Y1 es x with
  | some e=> rfl
  | none=>
    obtain ⟨ok,o,e⟩:=A9G sr
    show v4 _ _ h Q E=_
    rw [e,A9U,B2J (fun p:Sw×Nat=> W.tup [.int (p.2:Int),p.1.w]) (fun p=> A0r es (p.2:Int) p.1) o xs.zipIdx (fun p hp kn kb=> ?_)]
    · unfold A21
      cases q2:xs.zipIdx.findSome? (fun p=> A0r es (p.2:Int) p.1) with
      | some e=> rfl
      | none=>
        obtain ⟨gw,gt⟩:=B23 q2
        have gl:(i9 xs).length≤1000:=by
          have z:=congrArg List.length gw
          simp only [List.length_map] at z
          omega
        have gh:∀s∈i9 xs,s.ok ss∧s.there es:=fun s hm=> ⟨hx _ (gt s hm).1,(gt s hm).2⟩
        rw [gw] at sr
        have nf:O1 es x=none:=by
          unfold Y1 at q1
          split at q1
          · cases q1
          · split at q1
            · cases q1
            · rename_i z
              cases q:O1 es x with
              | none=> rfl
              | some e=> rw [q] at z;exact absurd rfl z
        have e12:es.length < 12:=by
          unfold Y1 at q1
          split at q1
          · cases q1
          · split at q1
            · cases q1
            · split at q1
              · cases q1
              · omega
        show R8 _ _ _ _ h Q E=match (if 200 < A2L es xs then some tooLong else none) with
          | some e=> E e h
          | none=> _
        rw [Q4 B rfl]
        show A1R _ h _ _=_
        rw [B80 hs ho gh gl sr B]
        show C9 oGt (.val (.int ((A2L es xs:Nat):Int))) _ _ h Q E=_
        rw [B0P]
        by_cases t:200 < A2L es xs
        · rw [decide_eq_true (show (200:Int) < (A2L es xs:Nat) by omega),if_pos t]
          rfl
        · rw [decide_eq_false (show ¬(200:Int) < (A2L es xs:Nat) by omega),if_neg t]
          show cb Q7 [.val w] _ h Q E=_
          rw [C0r sr,A1S B,B2i B.wr (by rw [List.length_map,G9];omega)]
          rw [B2b (by rw [A4b,nf];rfl)]
          have hb:(D6 h pw (.cont (.map (smap (es.map Ent.wr++[(x,SV.fz (.own (.seq ((i9 xs).map St.w))))]))))) b=some (.ins "Book" [("casks",.tup (ss.map .int)),("written",.ref pw),("laid",.ref pl)]):=by
            rw [I6 B.nbw]
            exact B.ob
          have hl:(D6 h pw (.cont (.map (smap (es.map Ent.wr++[(x,SV.fz (.own (.seq ((i9 xs).map St.w))))]))))) pl=some (.cont (.map (smap (es.map Ent.la)))):=by
            rw [I6 (fun z=> B.ne z.symm)]
            exact B.la
          have sr1:Src (D6 h pw (.cont (.map (smap (es.map Ent.wr++[(x,SV.fz (.own (.seq ((i9 xs).map St.w))))]))))) w ((i9 xs).map St.w):=by
            rcases sr with r | r | ⟨a,r,z⟩
            · exact .inl r
            · exact .inr (.inl r)
            · exact .inr (.inr ⟨a,r,by rw [I6 (na a r).1];exact z⟩)
          rw [B4I hb rfl]
          show A1P _ _ _ _=_
          rw [B7d hs ho gh gl sr1 hb hl]
          show A1C _ _ _ _ _ Q E=_
          rw [A3C hb rfl,B2i hl (by rw [List.length_map,G9];omega),B2b (by rw [A4c,nf];rfl)]
          rw [List.map_append,List.map_append]
          rfl
    · have hm:p.1∈xs:=by
        obtain ⟨a,b⟩:=p
        exact List.mem_of_getElem? (B1z hp)
      simp only [↓A84]
      rw [Q4 B rfl]
      show A1N _ h _ _=_
      rw [B7J hs (hx _ hm) B]
      cases A0r es (p.2:Int) p.1 <;> rfl
theorem B6r {ss:List Int} (hs:S9 ss):A1v [.tup (ss.map .int)]=ret (.val .non):=by
  show A3u _=_
  unfold A3u
  obtain ⟨l1,l2,s3⟩:=hs
  have e1:decide ((1:Int)≤ss.length)=true:=decide_eq_true (by omega)
  have e2:decide ((ss.length:Int)≤6)=true:=decide_eq_true (by omega)
  simp only [K9,m9,H8,j4,D1,C4,K3,J8,J9,Y5,List.length_map,W8,F6,e1,e2,if_true,Bool.not_true,Bool.false_eq_true,if_false,B4l,B3R,D5,C6,B8h,B75,A9U]
  refine B9D _ fun w hw kn=> ?_
  obtain ⟨⟨s,i⟩,hq,rfl⟩:=List.mem_map.mp hw
  obtain ⟨g1,g2⟩:=s3 s (List.mem_of_getElem? (B1z hq))
  simp only [A84,K9,m9,H8,j4,D1,C4,W8,F6,decide_eq_true g1,decide_eq_true g2,if_true,Bool.not_true,Bool.false_eq_true,if_false]
theorem B8W {ss:List Int} {a:Addr} (hs:S9 ss) (ha:h a=some (.ins "Book" []))
    (z:∀pw pl h',h pw=none→h pl=none→(∀q,q≠a→q≠pw→q≠pl→h' q=h q)→BookAt h' a (.tup (ss.map .int)) pw pl []→Q (.val .non) h'):A1u [.ref a,.tup (ss.map .int)] h Q E:=by
  show A3m _ _ h Q E
  unfold A3m
  conv=> fun;fun;fun;simp only [↓C0V,↓C0X,↓C11,↓C4,↓D5,↓E7,↓E6,↓T8,↓C6,↓S8,B6r hs]
  rw [A86 ha (Nat.le_of_ble_eq_true rfl)]
  have ha1:(D6 h a (.ins "Book" (o5 "casks" (.tup (ss.map .int)) []))) a=some (.ins "Book" [("casks",.tup (ss.map .int))]):=R4
  intro pw npw
  have p1:pw≠a:=fun e=> by rw [e,ha1] at npw;cases npw
  rw [I6 p1] at npw
  have ha2:=(I6 (h:=D6 h a (.ins "Book" (o5 "casks" (.tup (ss.map .int)) []))) (o:= .cont (.map (smap []))) (Ne.symm p1)).trans ha1
  rw [A86 ha2 (Nat.le_of_ble_eq_true rfl)]
  generalize hh2:D6 (D6 h a (.ins "Book" (o5 "casks" (.tup (ss.map .int)) []))) pw (.cont (.map (smap [])))=h2 at ha2 ⊢
  have hp2:h2 pw=some (.cont (.map (smap []))):=by rw [←hh2];exact R4
  intro pl npl
  have p2:pl≠a:=fun e=> by rw [e,R4] at npl;cases npl
  rw [I6 p2] at npl
  have p3:pl≠pw:=fun e=> by rw [e,hp2] at npl;cases npl
  have npl0:h pl=none:=by rw [←hh2,I6 p3,I6 p2] at npl;exact npl
  have ha3:(D6 (D6 h2 a (.ins "Book" (o5 "written" (.ref pw) [("casks",.tup (ss.map .int))]))) pl (.cont (.map (smap [])))) a=some (.ins "Book" [("casks",.tup (ss.map .int)),("written",.ref pw)]):=by
    rw [I6 (Ne.symm p2),R4]
    rfl
  rw [A86 ha3 (Nat.le_of_ble_eq_true rfl)]
  refine z pw pl _ npw npl0 (fun q q1 q2 q3=> ?_) ⟨?_,?_,?_,Ne.symm p3⟩
  · rw [I6 q1,I6 q3,I6 q1,←hh2,I6 q2,I6 q1]
  · rw [R4]
    rfl
  · rw [I6 p1,I6 (Ne.symm p3),I6 p1]
    exact hp2
  · rw [I6 p2,R4]
    rfl
end
end Ab
namespace Ab
open PySem PySem.Spec PyProof.Rows L2 RZ
def ofL (l:List Nat):Str:=⟨l.toArray⟩
theorem A6W {l:List Nat}:(ofL l).length=l.length:=by simp [ofL,Str.length]
theorem C0N {l:List Nat}:(ofL l).cps.toList=l:=by simp [ofL]
section
variable {k:SV→MC} {l:List Nat}
theorem C34 {x y:Str}:C9 oAdd (.val (.str x)) (.val (.str y)) k=F5 (x.length+y.length≤sizeLine) (k (.val (.str (x++y)))):=rfl
theorem C4d {j c:Nat} (h:l[j]? =some c):C9 oIx (.val (.str (ofL l))) (.val (.int (j:Int))) k=F5 (l.length≤sizeLine) (k (.val (.str (ofL [c])))):=by
  have e:L2.atI (ofL l).cps.toList (j:Int)=some c:=by
    rw [C0N]
    exact atI_nat h
  funext h Q E
  refine propext ⟨fun ⟨z1,c',z2,z3⟩=> ?_,fun ⟨z1,z2⟩=> ⟨by rw [A6W];exact z1,c,e,z2⟩⟩
  rw [e] at z2
  cases z2
  exact ⟨by rw [A6W] at z1;exact z1,z3⟩
end
end Ab
namespace Ab
open PySem PySem.Spec PyProof.Rows L2 RZ
section
variable {Q:RR→AH→Prop} {E:AExc→AH→Prop} {h:AH} {p q:Addr} {xs ys:List W} {n:Nat}
theorem Bag.off {o:AO} (b:Bag n h p) (ne:p≠q):Bag n (D6 h q o) p:=by
  obtain ⟨ns,i,x,y,c,a1,a⟩:=b
  exact ⟨ns,i,x,y,c,by unfold D6;rw [if_neg ne];exact a1,a⟩
theorem Bag.ne (b:Bag n h p) (f:h q=none):p≠q:=fun e=> by
  obtain ⟨ns,i,x,y,c,a1,a⟩:=b
  rw [←e,a1] at f
  cases f
end
end Ab
namespace Ab
open PySem PySem.Spec PyProof.Rows L2 RZ
section
variable {Q:RR→AH→Prop} {E:AExc→AH→Prop} {h:AH} {p q:Addr} {xs us:List W} {n:Nat}
end
end Ab
namespace Ab
open PySem PySem.Spec PyProof.Rows L2 RZ
section
variable {Q:RR→AH→Prop} {E:AExc→AH→Prop} {h:AH} {p q:Addr} {xs us:List W} {n:Nat}
end
end Ab
namespace Ab
open PySem PySem.Spec PyProof.Rows L2 RZ
def cnt (n:Nat) (st:List Int):List Int:=(List.range n).map fun (c:Nat)=> (st.count (c:Int):Int)
structure StOk (ss st:List Int):Prop where
  len:st.length≤60
  at_:∀p∈st,-1≤p∧p < ss.length
  cap:∀c,c < ss.length→(st.count (c:Int):Int)≤ss.getD c 0
def C0n (st:List Int) (c:Int):List Nat:=(st.zipIdx.filter fun p=> decide (p.1=c)).map (·.2)
end Ab
namespace Ab
open PySem PySem.Spec PyProof.Rows L2 RZ
end Ab
namespace Ab
open PySem PySem.Spec PyProof.Rows L2 RZ
def Grow (h h':AH):Prop:=∀q o,h q=some o→h' q=some o
theorem Grow.refl {h:AH}:Grow h h:=fun _ _ e=> e
theorem Grow.trans {h h1 h2:AH} (a:Grow h h1) (b:Grow h1 h2):Grow h h2:=fun q o e=> b q o (a q o e)
theorem Grow.upd {h:AH} {p:Addr} {o:AO} (f:h p=none):Grow h (D6 h p o):=fun q o' e=> by
  have ne:q≠p:=fun z=> by rw [z,f] at e;cases e
  exact (I6 ne).trans e
theorem Bag.grow {n:Nat} {h h':AH} {p:Addr} (b:Bag n h p) (g:Grow h h'):Bag n h' p:=let ⟨ns,i,x,y,c,a1,a⟩:=b;⟨ns,i,x,y,c,g _ _ a1,a⟩
def Te (m:MC) (r:RR):Prop:=∀(h:AH) (Q:RR→AH→Prop) (E:AExc→AH→Prop),(∀h',Grow h h'→Q r h')→m h Q E
theorem Te.call {m:MC} {r:RR} {K:SV→MC} {h:AH} {Q:RR→AH→Prop} {E:AExc→AH→Prop} (t:Te m r) (q:∀h',Grow h h'→K r.sv h' Q E):call m K h Q E:=t h _ _ q
theorem Te.of {m:MC} {x:SV} {r:RR} (e:m=ret x) (er:∀h Q E,Q r h→ret x h Q E):Te m r:=fun h Q E q=> by rw [e];exact er h Q E (q h .refl)
end Ab
namespace Ab
open PySem PySem.Spec PyProof.Rows L2 RZ
def C4X (h:AH):List (Addr×List W)→AH
  | []=> h
  | p::r=> D6 (C4X h r) p.1 (.cont (.seq p.2))
structure NewL (h:AH) (l:List (Addr×List W)):Prop where
  nd:(l.map (·.1)).Nodup
  fr:∀p∈l,h p.1=none
def Dd.fits (ss st:List Int):Dd→Prop
  | .tap n c=> st.length+min n (ss.getD c 0 - (C0n st (c:Int)).length)≤60
  | _=> True
instance {ss st:List Int} {d:Dd}:Decidable (d.fits ss st):=by
  cases d <;> unfold Dd.fits <;> infer_instance
end Ab
namespace Ab
open PySem PySem.Spec PyProof.Rows L2 RZ
end Ab
namespace Ab
open PySem PySem.Spec PyProof.Rows L2 RZ
structure Pn where
  step:W
  row:W
  times:Int
  st:List Int
  bk:Addr
def Pn.w (e:Pn):W:= .tup [e.step,e.row,.int e.times,.tup (e.st.map .int),.ref e.bk]
def C3Z (ss st:List Int) (b pp pl:Addr):List (Str×W):=[("casks",.tup (ss.map .int)),("now",.tup (st.map .int)),("book",.ref b),("past",.ref pp),("later",.ref pl)]
structure LoftAt (h:AH) (o:Addr) (ss st:List Int) (b pp pl:Addr) (past later:List Pn):Prop where
  ob:h o=some (.ins "Loft" (C3Z ss st b pp pl))
  pa:h pp=some (.cont (.seq (past.map Pn.w)))
  la:h pl=some (.cont (.seq (later.map Pn.w)))
  ne:pp≠pl
section
variable {Q:RR→AH→Prop} {E:AExc→AH→Prop} {h:AH} {o b pp pl:Addr} {ss st:List Int} {past later:List Pn} {k:SV→MC}
theorem LoftAt.same {h':AH} (L:LoftAt h o ss st b pp pl past later) (e1:h' o=h o) (e2:h' pp=h pp) (e3:h' pl=h pl):LoftAt h' o ss st b pp pl past later:=⟨e1.trans L.ob,e2.trans L.pa,e3.trans L.la,L.ne⟩
end
end Ab
namespace Ab
open PySem PySem.Spec PyProof.Rows L2 RZ
end Ab
namespace Ab
open PySem PySem.Spec PyProof.Rows L2 RZ
section
variable {Q:RR→AH→Prop} {E:AExc→AH→Prop} {h:AH} {o b pp pl:Addr} {ss st:List Int} {past later:List Pn} {k:SV→MC}
end
section
variable {Q:RR→AH→Prop} {E:AExc→AH→Prop} {h:AH} {b pw pl:Addr} {ss:List Int} {es:List Ent}
end
section
variable {Q:RR→AH→Prop} {E:AExc→AH→Prop} {h:AH} {ss st:List Int}
end
section
variable {Q:RR→AH→Prop} {E:AExc→AH→Prop} {h:AH} {ss st:List Int} {o b pw pk pp pl:Addr} {past later:List Pn} {es:List Ent}
theorem Grow.bk {h':AH} {s:W} (g:Grow h h') (B:BookAt h b s pw pk es):BookAt h' b s pw pk es:=⟨g _ _ B.ob,g _ _ B.wr,g _ _ B.la,B.ne⟩
theorem Grow.lo {h':AH} (g:Grow h h') (L:LoftAt h o ss st b pp pl past later):LoftAt h' o ss st b pp pl past later:=⟨g _ _ L.ob,g _ _ L.pa,g _ _ L.la,L.ne⟩
end
end Ab
namespace Ab
open PySem PySem.Spec PyProof.Rows L2 RZ
end Ab
namespace Ab
open PySem PySem.Spec PyProof.Rows L2 RZ
end Ab
namespace Ab
open PySem PySem.Spec PyProof.Rows L2 RZ
theorem C1w {as bs:List Int} {c:Nat} (h:LeL as bs):bs.getD c 0 - as.getD c 0≤bs.sum - as.sum:=by
  by_cases hc:c < as.length
  · have z:LeL (as.set c (bs.getD c 0)) bs:=by
      refine ⟨by rw [List.length_set];exact h.1,fun i=> ?_⟩
      rw [A8h]
      split
      · rename_i e;rw [e.1];exact Int.le_refl _
      · exact h.2 i
    have s:=A9O z
    rw [B3d hc] at s
    omega
  · have:=h.1
    rw [A6F (by omega),A6F (by omega)]
    have:=A9O h
    omega
theorem B3Z {as bs:List Int} (hl:as.length=bs.length) (h:∀i,i < as.length→as.getD i 0=bs.getD i 0):as=bs:=by
  refine List.ext_getElem hl fun i h1 h2=> ?_
  have z:=h i h1
  simpa [List.getD_eq_getElem?_getD,h1,h2] using z
theorem C29 {as bs:List Int} (h:LeL as bs) (s:bs.sum≤as.sum):as=bs:=B3Z h.1 fun i _=> by
  have a:=h.2 i
  have b:=C1w (c:=i) h
  omega
end Ab
namespace Ab
open PySem PySem.Spec PyProof.Rows L2 RZ
structure Cp (n m:Nat) (A B:List Int):Prop where
  eq:A.take m=B.take m
  la:m≤A.length
  lb:m≤B.length
  le:LeL (cnt n A) (cnt n B)
  gone:(A.length:Int) - (cnt n A).sum≤(B.length:Int) - (cnt n B).sum
end Ab
namespace Ab
open PySem PySem.Spec PyProof.Rows L2 RZ
end Ab
namespace Ab
open PySem PySem.Spec PyProof.Rows L2 RZ
end Ab
namespace Ab
open PySem PySem.Spec PyProof.Rows L2 RZ
end Ab
namespace Ab
open PySem PySem.Spec PyProof.Rows L2 RZ
section
variable {α:Type} {f:α→α} {x:α}
def it (f:α→α):Nat→α→α
  | 0,x=> x
  | n+1,x=> f (it f n x)
end
section
variable {σ:Type}
end
end Ab
namespace Ab
open PySem PySem.Spec PyProof.Rows L2 RZ
def A0z:List (List Int)→List Int
  | []=> []
  | r::rs=> rs.foldl (List.zipWith min) r
theorem A6U:∀(rs:List (List Int)) (r:List Int),(∀q∈rs,q.length=r.length)→LeL (rs.foldl (List.zipWith min) r) r∧∀q∈rs,LeL (rs.foldl (List.zipWith min) r) q
  | [],r,_=> ⟨.refl,fun _ h=> by cases h⟩
  | q::rs,r,h=> by
    have hq:=h q (by simp)
    have hl:(List.zipWith min r q).length=r.length:=by rw [List.length_zipWith,hq,Nat.min_self]
    obtain ⟨a,b⟩:=A6U rs (List.zipWith min r q) fun x hx=> by rw [hl];exact h x (by simp [hx])
    rw [List.foldl_cons]
    refine ⟨a.trans (B3j hq.symm),fun x hx=> ?_⟩
    rcases List.mem_cons.mp hx with rfl | hx
    · exact a.trans (A9Y hq.symm)
    · exact b x hx
theorem B3n {x:List Int}:∀(rs:List (List Int)) (r:List Int),LeL x r→(∀q∈rs,LeL x q)→LeL x (rs.foldl (List.zipWith min) r)
  | [],_,h,_=> h
  | q::rs,r,h,hs=> B3n rs _ (C2W h (hs q (by simp))) fun y hy=> hs y (by simp [hy])
theorem B3Y {i:Nat}:∀(rs:List (List Int)) (r:List Int),(∀q∈rs,q.length=r.length)→i < r.length→∃q∈r::rs,(rs.foldl (List.zipWith min) r).getD i 0=q.getD i 0
  | [],r,_,_=> ⟨r,by simp,rfl⟩
  | q::rs,r,h,hi=> by
    have hq:=h q (by simp)
    have hl:(List.zipWith min r q).length=r.length:=by rw [List.length_zipWith,hq,Nat.min_self]
    obtain ⟨x,hx,e⟩:=B3Y (i:=i) rs (List.zipWith min r q) (fun x hx=> by rw [hl];exact h x (by simp [hx])) (by omega)
    rw [List.foldl_cons]
    rcases List.mem_cons.mp hx with rfl | hx
    · rw [A4V hi (by omega)] at e
      rcases Int.le_total (r.getD i 0) (q.getD i 0) with z | z
      · exact ⟨r,by simp,by rw [e];omega⟩
      · exact ⟨q,by simp,by rw [e];omega⟩
    · exact ⟨x,by simp [hx],e⟩
def Rows (L:Nat) (T:List (List Int)):Prop:=T≠[]∧∀r∈T,r.length=L
theorem Rows.cons {L:Nat} {T:List (List Int)} (h:Rows L T):∃r rs,T=r::rs∧r.length=L∧∀q∈rs,q.length=r.length:=by
  cases T with
  | nil=> exact absurd rfl h.1
  | cons r rs=>
    have hr:=h.2 r (by simp)
    exact ⟨r,rs,rfl,hr,fun q hq=> by rw [hr];exact h.2 q (by simp [hq])⟩
section
variable {L:Nat} {T:List (List Int)} {x:List Int} {i:Nat}
theorem B2T (h:Rows L T):∀r∈T,LeL (A0z T) r:=by
  obtain ⟨r,rs,rfl,hr,hs⟩:=h.cons
  intro q hq
  rcases List.mem_cons.mp hq with rfl | hq
  · exact (A6U rs _ hs).1
  · exact (A6U rs _ hs).2 q hq
theorem B8Z (h:Rows L T) (hx:∀r∈T,LeL x r):LeL x (A0z T):=by
  obtain ⟨r,rs,rfl,hr,hs⟩:=h.cons
  exact B3n rs r (hx r (by simp)) fun q hq=> hx q (by simp [hq])
theorem B8f (h:Rows L T) (hi:i < L):∃q∈T,(A0z T).getD i 0=q.getD i 0:=by
  obtain ⟨r,rs,rfl,hr,hs⟩:=h.cons
  exact B3Y rs r hs (by omega)
theorem B8C (h:Rows L T):(A0z T).length=L:=by
  obtain ⟨r,rs,rfl,hr,hs⟩:=h.cons
  rw [←hr]
  exact (A6U rs r hs).1.1
end
theorem B2M {ss:List Int} {T:List (List Int)} (h:T≠[]) (hc:∀r∈T,Ct ss r):Ct ss (A0z T):=by
  have hR:Rows ss.length T:=⟨h,fun r hr=> (hc r hr).1⟩
  refine ⟨B8C hR,fun i hi=> ?_⟩
  obtain ⟨q,hq,e⟩:=B8f hR hi
  rw [e]
  exact (hc q hq).2 i hi
structure MG (ss:List Int) (f:List Int→List Int):Prop where
  ct:∀x,Ct ss x→Ct ss (f x)
  mono:∀x y,LeL x y→LeL (f x) (f y)
  gap:∀x y,Ct ss x→Ct ss y→LeL x y→(f y).sum - (f x).sum≤y.sum - x.sum
theorem MG.it {ss:List Int} {f:List Int→List Int} (m:MG ss f):∀n,MG ss (it f n)
  | 0=> ⟨fun _ h=> h,fun _ _ h=> h,fun _ _ _ _ _=> Int.le_refl _⟩
  | n+1=> ⟨fun x h=> m.ct _ ((m.it n).ct x h),fun x y h=> m.mono _ _ ((m.it n).mono x y h),fun x y hx hy h=> Int.le_trans (m.gap _ _ ((m.it n).ct x hx) ((m.it n).ct y hy) ((m.it n).mono x y h)) ((m.it n).gap x y hx hy h)⟩
theorem C0l {ss:List Int} {F:List Int→List Int} {T:List (List Int)} (m:MG ss F) (ne:T≠[]) (hc:∀t∈T,Ct ss t) (hF:∀t∈T,F t=t):F (A0z T)=A0z T:=by
  have hR:Rows ss.length T:=⟨ne,fun r hr=> (hc r hr).1⟩
  have c:=B2M ne hc
  have le:LeL (F (A0z T)) (A0z T):=B8Z hR fun t ht=> by
    have z:=m.mono _ _ (B2T hR t ht)
    rwa [hF t ht] at z
  obtain ⟨t,ht⟩:=List.exists_mem_of_ne_nil _ ne
  have g:=m.gap _ _ c (hc t ht) (B2T hR t ht)
  rw [hF t ht] at g
  exact C29 le (by omega)
end Ab
namespace Ab
open PySem PySem.Spec PyProof.Rows L2 RZ
end Ab
namespace Ab
open PySem PySem.Spec PyProof.Rows L2 RZ
section
variable {ss x y:List Int} {f:List Int→List Int} {N:Nat}
theorem B8k (m:MG ss f) (hx:Ct ss x) (hy:Ct ss y) (ex:it f N x=x) (ey:it f N y=y):it f N (List.zipWith min x y)=List.zipWith min x y:=
  C0l (T:=[x,y]) (m.it N) (by simp) (fun t ht=> by simp only [List.mem_cons,List.not_mem_nil,or_false] at ht;rcases ht with rfl | rfl <;> assumption) (fun t ht=> by simp only [List.mem_cons,List.not_mem_nil,or_false] at ht;rcases ht with rfl | rfl <;> assumption)
theorem A88 {α:Type} {f:α→α} {x:α}:∀n,it f n (f x)=f (it f n x)
  | 0=> rfl
  | n+1=> by show f (it f n (f x))=_;rw [A88 n];rfl
theorem B9m {α:Type} {f:α→α} {x:α} {N:Nat} (e:it f N x=x):it f N (f x)=f x:=by rw [A88,e]
end
end Ab
namespace Ab
open PySem PySem.Spec PyProof.Rows L2 RZ
section
variable {ss x y z:List Int} {f:List Int→List Int} {N:Nat}
def Pe (ss:List Int) (f:List Int→List Int) (N:Nat) (x:List Int):Prop:=Ct ss x∧it f N x=x
theorem Pe.step (m:MG ss f) (p:Pe ss f N x):Pe ss f N (f x):=⟨m.ct _ p.1,B9m p.2⟩
theorem Pe.it (m:MG ss f) (p:Pe ss f N x):∀k,Pe ss f N (Ab.it f k x)
  | 0=> p
  | k+1=> (p.it m k).step m
def Irr (ss:List Int) (f:List Int→List Int) (N:Nat) (x:List Int):Prop:=Pe ss f N x∧∃u,Pe ss f N u∧LeL u x∧u≠x∧∀y,Pe ss f N y→LeL y x→y≠x→LeL y u
theorem C05 (m:MG ss f) (p:Pe ss f N x) (q:Pe ss f N y):Pe ss f N (List.zipWith min x y):=
  ⟨B2M (T:=[x,y]) (by simp) fun r hr=> by simp only [List.mem_cons,List.not_mem_nil,or_false] at hr;rcases hr with rfl | rfl;exact p.1;exact q.1,B8k m p.1 q.1 p.2 q.2⟩
theorem Irr.step (m:MG ss f) (hN:0 < N) (i:Irr ss f N x):Irr ss f N (f x):=by
  obtain ⟨p,u,pu,ux,ne,all⟩:=i
  obtain ⟨k,rfl⟩:∃k,N=k+1:=⟨N - 1,by omega⟩
  have back:∀{v},Pe ss f (k+1) v→it f k (f v)=v:=fun {v} pv=> by rw [A88];exact pv.2
  refine ⟨p.step m,f u,pu.step m,m.mono _ _ ux,fun e=> ne (by rw [←back pu,e,back p]),fun y py yx yne=> ?_⟩
  have b:=(m.it k).mono _ _ yx
  rw [back p] at b
  have c:=all (it f k y) (py.it m k) b fun e=> yne (by rw [←e];exact py.2.symm)
  have d:=m.mono _ _ c
  rwa [show f (it f k y)=y from py.2] at d
theorem Irr.it (m:MG ss f) (hN:0 < N) (i:Irr ss f N x):∀k,Irr ss f N (Ab.it f k x)
  | 0=> i
  | k+1=> (i.it m hN k).step m hN
theorem Irr.own (m:MG ss f) (i:Irr ss f N x):∃c,c < ss.length∧∀y,Pe ss f N y→x.getD c 0≤y.getD c 0→LeL x y:=by
  obtain ⟨p,u,pu,ux,ne,all⟩:=i
  have:∃c,c < ss.length∧u.getD c 0 < x.getD c 0:=by
    refine Classical.byContradiction fun h=> ne (B3Z ux.1 fun c hc=> ?_)
    refine Int.le_antisymm (ux.2 c) (Classical.byContradiction fun g=> h ⟨c,by rw [←pu.1.1];exact hc,by omega⟩)
  obtain ⟨c,hc,lt⟩:=this
  refine ⟨c,hc,fun y py le=> ?_⟩
  have hl:x.length=y.length:=p.1.1.trans py.1.1.symm
  have q:=C05 m p py
  by_cases e:List.zipWith min x y=x
  · rw [←e]
    exact A9Y hl
  · exfalso
    have z:=(all _ q (B3j hl) e).2 c
    rw [A4V (by rw [p.1.1];exact hc) (by rw [py.1.1];exact hc)] at z
    omega
end
section
variable {ss x y z:List Int} {f:List Int→List Int} {N L K:Nat}
end
end Ab
namespace Ab
open PySem PySem.Spec PyProof.Rows L2 RZ
end Ab
namespace Ab
open PySem PySem.Spec PyProof.Rows L2 RZ
end Ab
namespace Ab
open PySem PySem.Spec PyProof.Rows L2 RZ
section
variable {ss st:List Int} {ds:List Dd}
end
section
variable {ss st:List Int} {ds:List Dd} {x:W} {n a:Nat}
end
end Ab
namespace Ab
open PySem PySem.Spec PyProof.Rows L2 RZ
section
variable {Q:RR→AH→Prop} {E:AExc→AH→Prop} {h:AH}
end
end Ab
namespace Ab
open PySem PySem.Spec PyProof.Rows L2 RZ
def A36 (x_self x_name:W):MC:=
  ((A1 (E9 "Book" "callers" Z7 (eV (.val x_self)) (A2 (A1 (eV (.val x_name))) B4))) fun x_found=> (M2 (G6 (B5 (F0 true) (eV (.val x_found)) (L1 B4))) (u4 "InUse" "in use" ["name"] (A2 (A1 (B5 oIx (eV (.val x_found)) (eC (.int 0)))) B4)) (A67 (Y9 "Book" "written" (eV (.val x_self))) (A1 (eV (.val x_name))) ((A67 (Y9 "Book" "laid" (eV (.val x_self))) (A1 (eV (.val x_name))) ((ret (.val .non))))))))
def V6:List W→MC
  | [x_self,x_name]=> A36 x_self x_name
  | _=> bad
def Off (S:List Addr) (h h':AH):Prop:=∀x u,h x=some u→x∉S→h' x=some u
theorem Off.refl {S:List Addr} {h:AH}:Off S h h:=fun _ _ e _=> e
theorem Off.trans {S T:List Addr} {h h1 h2:AH} (a:Off S h h1) (b:Off T h1 h2) (sub:∀x∈T,x∈S∨h x=none):Off S h h2:=fun x u e n=> b x u (a x u e n) fun m=> by
  rcases sub x m with z | z
  · exact n z
  · rw [z] at e;cases e
theorem Grow.off {S:List Addr} {h h':AH} (g:Grow h h'):Off S h h':=fun x u e _=> g x u e
theorem Off.bk {S:List Addr} {h h':AH} {b pw pk:Addr} {s:W} {es:List Ent} (f:Off S h h') (B:BookAt h b s pw pk es) (n1:b∉S) (n2:pw∉S) (n3:pk∉S):BookAt h' b s pw pk es:=⟨f _ _ B.ob n1,f _ _ B.wr n2,f _ _ B.la n3,B.ne⟩
theorem Off.grow {S:List Addr} {h h1 h2:AH} (g:Grow h h1) (f:Off S h1 h2):Off S h h2:=fun x u e n=> f x u (g x u e) n
def A64 (es:List Ent) (x:Str):List Ent:=es.filter fun e=> decide (e.name≠x)
theorem B2F {es:List Ent} {x:Str} {f:Ent→Str×W} (hf:∀e,(f e).1=e.name):n5 (es.map f) x=(A64 es x).map f:=by
  unfold n5 A64
  rw [List.filter_map]
  congr 1
  refine List.filter_congr fun e _=> ?_
  show decide ((f e).1≠x)=_
  rw [hf]
section
variable {Q:RR→AH→Prop} {E:AExc→AH→Prop} {h:AH} {ss st:List Int} {o b pw pk pp pl:Addr} {past later:List Pn} {es:List Ent}
def A60 (x:Str):AExc:=⟨"InUse",initF (W.str "in use") ["name"] [.str x]⟩
def A2J (es:List Ent) (x:Str):Option AExc:=match O1 es x with
  | none=> some (l8 x)
  | some _=> match A59 es x with
    | []=> none
    | c::_=> some (A60 c)
theorem B9I {x:Str} (hs:S9 ss) (hg:∀e∈es,e.steps.length≤1000∧∀s∈e.steps,s.ok ss) (le:es.length≤1000) (B:BookAt h b (.tup (ss.map .int)) pw pk es)
    (z:match A2J es x with
      | some e=> E e h
      | none=> Q (.val .non) (D6 (D6 h pw (.cont (.map (smap ((A64 es x).map Ent.wr))))) pk (.cont (.map (smap ((A64 es x).map Ent.la)))))):V6 [.ref b,.str x] h Q E:=by
  show A36 _ _ h Q E
  unfold A36
  conv=> fun;fun;fun;simp only [↓d4,↓U9,↓C0D,↓C4,↓D1,↓E8,↓D5,↓E7,↓E6,↓V7,↓H8,↓K9,↓C6,↓T5,↓A1V,List.length_nil,G9,Nat.reduceLeDiff]
  rw [Q4 B rfl]
  unfold A2J at z
  cases q:O1 es x with
  | none=>
    rw [q] at z
    show Z7 _ h _ _
    show A0j _ _ h _ _
    unfold A0j
    conv=> fun;fun;fun;simp only [↓U9,↓C4,↓D1,↓E8,↓D5,↓E7,↓E6,↓V7,↓J9,↓J8,↓K3,↓W9,↓H8,↓Y7,↓c8,↓A6E,↓K9,↓X1,↓Y8,↓C6,↓T5,if_true,List.length_nil,G9,Nat.reduceLeDiff]
    rw [Q4 B rfl]
    show P6 _ h _ _
    rw [A1W B,q]
    exact z
  | some e=>
    rw [q] at z
    refine B78 hs hg le B q ?_
    conv=> fun;fun;fun;simp only [↓C6,↓Q5,↓C1g,↓A3U]
    have pn:(W.lst ((A59 es x).map W.str)).plain:=A9C 0 (by omega) fun y hy=> by
      obtain ⟨e,_,rfl⟩:=List.mem_map.mp hy
      rfl
    have p0:(Cont.seq []).fz.plain:=(A9C 0 (by omega) (fun x (hx:x∈([]:List W))=> by cases hx):(W.lst []).plain)
    rw [B5m (sp pn) (so p0)]
    cases q2:A59 es x with
    | nil=>
      rw [q2] at z
      rw [show decide ((SV.val (W.lst (List.map W.str []))).fz=(SV.own (Cont.seq [])).fz)=true from decide_eq_true rfl]
      simp only [Bool.not_true,Bool.false_eq_true,if_false]
      rw [A1S B,B3o B.wr (by rw [A4b,q];rfl)]
      have hb:(D6 h pw (.cont (.map (smap (n5 (es.map Ent.wr) x))))) b=some (.ins "Book" [("casks",.tup (ss.map .int)),("written",.ref pw),("laid",.ref pk)]):=by rw [I6 B.nbw];exact B.ob
      rw [A3C hb rfl,B3o (by rw [I6 (Ne.symm B.ne)];exact B.la) (by rw [A4c,q];rfl),B2F (fun _=> rfl),B2F (fun _=> rfl)]
      exact z
    | cons c r=>
      rw [q2] at z
      rw [decide_eq_false (fun e=> by cases e)]
      simp only [Bool.not_false,if_true,List.map_cons]
      rw [f9]
      exact z
theorem Src.off {h h':AH} {S:List Addr} {x:W} {ws:List W} (f:Off S h h') (s:Src h x ws) (n:∀a,x= .ref a→a∉S):Src h' x ws:=by
  rcases s with rfl | rfl | ⟨a,rfl,e⟩
  · exact .inl rfl
  · exact .inr (.inl rfl)
  · exact .inr (.inr ⟨a,rfl,f _ _ e (n a rfl)⟩)
end
end Ab
namespace Ab
open PySem PySem.Spec PyProof.Rows L2 RZ
structure Wi where
  word:Str
  xs:List Int
def Wi.w (g:Wi):W:= .tup (.str g.word::g.xs.map .int)
def Dd.g:Dd→Wi
  | .swap i j=> ⟨"swap",[(i:Int),(j:Int)]⟩
  | .tap n c=> ⟨"tap",[n,(c:Int)]⟩
  | .drain n c=> ⟨"drain",[n,(c:Int)]⟩
  | .over n cs=> ⟨"over",n::cs.map Int.ofNat⟩
  | .down n cs=> ⟨"down",n::cs.map Int.ofNat⟩
def Wd5 (w:Str):Prop:=w="over"∨w="down"∨w="swap"∨w="tap"∨w="drain"
instance (w:Str):Decidable (Wd5 w):=by unfold Wd5;exact inferInstance
def A49 (n:Nat) (g:Wi):Bool:=if g.word="over"∨g.word="down" then decide (4≤((g.xs.length+1:Nat):Int)∧((g.xs.length+1:Nat):Int)≤2+(n:Int)) else decide (((g.xs.length+1:Nat):Int)=3)
def A6n (ss:List Int) (g:Wi):Option Int:=
  if Wd5 g.word then
    if A49 ss.length g=true then
      if g.word="swap" then
        match i4 ss.length [] g.xs 1 with
        | some b=> some b
        | none=> if ss.getD (g.xs.getD 0 0).toNat 0=ss.getD (g.xs.getD 1 0).toNat 0 then none else some 2
      else if 0≤g.xs.getD 0 0∧g.xs.getD 0 0 < A0Y then i4 ss.length [] (g.xs.drop 1) 2
      else some 1
    else some (-1)
  else some 0
theorem B1a {casks:Int} {c:Int} {r seen:List Int} {k:Int} (h:i4 casks seen (c::r) k=none):(0≤c∧c < casks)∧i4 casks (seen++[c]) r (k+1)=none:=by
  have h:(if ¬(0≤c∧c < casks)∨c∈seen then some k else i4 casks (seen++[c]) r (k+1))=none:=h
  split at h
  · cases h
  · rename_i z
    exact ⟨Decidable.byContradiction fun y=> z (.inl y),h⟩
theorem B8D {ss:List Int} {g:Wi} (hs:S9 ss) (hl:g.xs.length≤100):q9 [.tup (ss.map .int),g.w]=ret (.val (A2j (A6n ss g))):=by
  show A0l _ _=_
  unfold A0l
  obtain ⟨l1,l2,s3⟩:=hs
  obtain ⟨w,xs⟩:=g
  have len:¬(W.int ((xs.length+1:Nat):Int))= .int 0:=fun e=> by
    injection e with e
    omega
  have head:∀{m1 m2:MC},M2 (tOr (G6 (B5 (F0 false) (I9 G4 (F7 (eV (.val (.tup (.str w::xs.map .int)))) H9)) (eC (.int 0)))) (G6 (B5 (V9 true) (B5 oIx (eV (.val (.tup (.str w::xs.map .int)))) (eC (.int 0))) (B5 oAdd (eC (.tup [.str ("over":Str),.str ("down":Str)])) (eC (.tup [.str ("swap":Str),.str ("tap":Str),.str ("drain":Str)])))))) m1 m2=if Wd5 w then m2 else m1:=by
    intro m1 m2
    rw [K9,d3,H8,E8,K3,J8,C4,J9,Y5,D1,A1B (sp c9) (sp c9),List.length_cons,List.length_map]
    rw [C6,C6,decide_eq_false len,if_neg Bool.false_ne_true,H8,E8,E8,C4,D1,R6,f9,B3S (x:=[]) (y:=[])]
    by_cases h:Wd5 w
    · rw [if_pos h,decide_eq_true (p:=w="over"∨w="down"∨w="swap"∨w="tap"∨w="drain") h];rfl
    · rw [if_neg h,decide_eq_false (p:=w="over"∨w="down"∨w="swap"∨w="tap"∨w="drain") h];rfl
  rw [Wi.w,head]
  unfold A6n
  by_cases hw:Wd5 w
  · rw [if_pos hw,if_pos hw]
    simp only [↓C4,↓D1,↓E8,↓D5,↓E7,↓E6,↓J9,↓J8,↓K3,↓H8,↓m9,↓v5,↓A4z,↓j4,↓T8,↓K9,↓A2N,↓C6,↓Q5,↓W8,↓F6,↓A24,↓S8,↓R6,↓A3U,↓f9,↓Y5,↓A4j,if_true,Bool.not_false,decide_eq_true_eq,List.length_map,List.length_cons,A2u,List.length_cons,List.length_map]
    have cnt:(if w="over"∨w="down" then decide (4≤((xs.length+1:Nat):Int)∧((xs.length+1:Nat):Int)≤2+(ss.length:Int)) else decide (((xs.length+1:Nat):Int)=3))=A49 ss.length ⟨w,xs⟩:=rfl
    rw [cnt]
    by_cases hc:A49 ss.length ⟨w,xs⟩=true
    · rw [hc,if_pos rfl]
      simp only [if_false,Bool.not_true,Bool.false_eq_true]
      by_cases sw:w="swap"
      · subst sw
        have l2:xs.length=2:=by
          have hc:(if ("swap":Str)="over"∨("swap":Str)="down" then decide (4≤((xs.length+1:Nat):Int)∧((xs.length+1:Nat):Int)≤2+(ss.length:Int)) else decide (((xs.length+1:Nat):Int)=3))=true:=hc
          rw [if_neg (show ¬(("swap":Str)="over"∨("swap":Str)="down") by decide)] at hc
          have:=of_decide_eq_true hc
          omega
        match xs,l2 with
        | [a,b],_=>
          have bf:=A77 (cs:=[a,b]) (st:=1) (casks:=(ss.length:Int)) (by simp)
          simp only [List.map_cons,List.map_nil] at bf
          simp only [↓A0t,↓C6,↓Q5,↓W8,↓A23,↓S8,↓R6,↓f9,↓A0S,if_true,bf,List.map_cons,List.map_nil]
          cases e:i4 ss.length [] [a,b] 1 with
          | some i=> simp only [A2j,↓F6,↓A8d,if_true]
          | none=>
            obtain ⟨⟨a0,a1⟩,e⟩:=B1a e
            obtain ⟨⟨b0,b1⟩,_⟩:=B1a e
            obtain ⟨a,rfl⟩:∃n:Nat,a=n:=⟨a.toNat,by omega⟩
            obtain ⟨b,rfl⟩:∃n:Nat,b=n:=⟨b.toNat,by omega⟩
            have h1:a < ss.length:=by omega
            have h2:b < ss.length:=by omega
            simp only [A2j,↓F6,↓A7R,↓A8f,if_false,Bool.false_eq_true,decide_eq_true_eq,↓B2d h1,↓B2d h2]
            show _=ret (.val (A2j (if ss.getD (Int.toNat (a:Int)) 0=ss.getD (Int.toNat (b:Int)) 0 then none else some 2)))
            rw [Int.toNat_natCast,Int.toNat_natCast]
            by_cases g:ss.getD a 0=ss.getD b 0
            · rw [if_pos g]
              simp only [g,decide_true,if_true]
              rfl
            · rw [if_neg g]
              simp only [g,decide_false]
              rfl
      · have ne:∃a r,xs=a::r:=by
          cases xs with
          | cons a r=> exact ⟨a,r,rfl⟩
          | nil=>
            have hc:(if w="over"∨w="down" then decide (4≤((0+1:Nat):Int)∧((0+1:Nat):Int)≤2+(ss.length:Int)) else decide (((0+1:Nat):Int)=3))=true:=hc
            split at hc
            · have:=of_decide_eq_true hc
              omega
            · have:=of_decide_eq_true hc
              omega
        obtain ⟨a,r,rfl⟩:=ne
        have bf:=A77 (cs:=r) (st:=2) (casks:=(ss.length:Int)) (by have hl:(a::r).length≤100:=hl;rw [List.length_cons] at hl;omega)
        rw [if_neg sw,if_neg sw]
        simp only [List.map_cons,↓Q5,↓W8,↓A23,↓S8,bf]
        show _=ret (.val (A2j (if 0≤a∧a < A0Y then i4 ss.length [] r 2 else some 1)))
        by_cases g1:0≤a
        · rw [if_pos g1]
          by_cases g2:a < A0Y
          · rw [show decide (a < 1000000000000000000000000000000)=true from decide_eq_true g2,if_neg (by decide),if_pos (⟨g1,g2⟩:0≤a∧a < A0Y)]
          · rw [show decide (a < 1000000000000000000000000000000)=false from decide_eq_false g2,if_pos (by decide),if_neg fun z:0≤a∧a < A0Y=> g2 z.2]
            rfl
        · rw [if_neg g1,if_neg fun z:0≤a∧a < A0Y=> g1 z.1]
          rfl
    · rw [Bool.eq_false_iff.mpr hc,if_pos (by decide),if_neg (by decide)]
      rfl
  · rw [if_neg hw,if_neg hw]
    rfl
end Ab
namespace Ab
open PySem PySem.Spec PyProof.Rows L2 RZ
def A3y (fl:Addr) (ML:List W→MC) (x_ask:W):MC:=
  ((A1 (eC .non)) fun x_told=> ((A1 (eC (.str ("":Str)))) fun x_word_here=> (join (fun (s1:W×W)=> ((H7 (A2 (A1 (eV (.val s1.1))) (A2 (A1 (eV (.val s1.2))) B4))) ret)) fun kj3=> (B0A (fun kk6=> ((A1 (R1 ML B4)) fun x_told=> (kk6 x_told))) (fun s5=> (kj3 (s5,x_word_here))) (fun s5=> (kj3 (x_told,s5))) (m8 ["BadName","BadRow","BadSizes","InUse","NoRound","NothingLeft","Taken","TooLong","TooMany"] [("HideError",(E4 "word")),("Missing",(E4 "word")),("NothingLeft",(E4 "word"))])))))
def A1z (ML:List W→MC) (fl:Addr):List W→MC
  | [x_ask]=> F5 (x_ask= .ref fl) (A3y fl ML x_ask)
  | _=> bad
def A3s (fl:Addr) (ML:List W→MC) (x_ask:W):MC:=
  ((A1 (H7 (A2 (A1 (eC (.str ("":Str)))) (A2 (A1 (eC .non)) B4)))) fun x_found=> (B0T (fun kk2=> ((R1 ML B4) fun _=> (kk2 x_found))) (fun s1=> ((eV (.val s1)) ret)) (m8 ["BadName","BadRow","BadSizes","InUse","NoRound","NothingLeft","Taken","TooLong","TooMany"] [("BadRow",(O4 (F3 (E4 "word") (F3 (O4 (F3 (E4 "step") (F3 (E4 "place") O5))) O5)))),("InUse",(O4 (F3 (E4 "word") (F3 (E4 "name") O5)))),("NoRound",(O4 (F3 (E4 "word") (F3 (E4 "name") O5)))),("Taken",(O4 (F3 (E4 "word") (F3 (E4 "name") O5)))),("TooLong",(O4 (F3 (E4 "word") (F3 (E4 "most") O5)))),("TooMany",(O4 (F3 (E4 "word") (F3 (E4 "most") O5))))])))
def A1Q (ML:List W→MC) (fl:Addr):List W→MC
  | [x_ask]=> F5 (x_ask= .ref fl) (A3s fl ML x_ask)
  | _=> bad
def A2s (x_mbook x_far:W):CF:=fun kk=>
  ((A1 (B5 oAdd (B5 oMulT (L1 (A2 (A1 (H7 (A2 (A1 (eC (.str ("call":Str)))) (A2 (A1 (eC (.str ("ab":Str)))) (A2 (A1 (eC (.int 9))) B4))))) B4)) (eC (.int 2))) (L1 (A2 (A1 (H7 (A2 (A1 (eC (.str ("call":Str)))) (A2 (A1 (eC (.str ("a":Str)))) (A2 (A1 (eC (.int 2))) B4))))) B4)))) fun x_long_row=> (kk [M8 (E9 "Book" "write" G8 (eV (.val x_mbook)) (A2 (A1 (eC (.str ("a":Str)))) (A2 (A1 (L1 (A2 (A1 (H7 B4)) B4))) B4))),M8 (E9 "Book" "write" G8 (eV (.val x_mbook)) (A2 (A1 (eC (.str ("abcdefgh":Str)))) (A2 (A1 (L1 (A2 (A1 (H7 (A2 (A1 (eC (.str ("drain":Str)))) (A2 (A1 (eC (.int 1))) (A2 (A1 (eC (.int 0))) B4))))) (A2 (A1 (H7 (A2 (A1 (eC (.str ("call":Str)))) (A2 (A1 (eV (.val x_far))) (A2 (A1 (eC (.int 1))) B4))))) B4)))) B4))),M8 (E9 "Book" "write" G8 (eV (.val x_mbook)) (A2 (A1 (eC (.str ("b":Str)))) (A2 (A1 (L1 (A2 (A1 (H7 (A2 (A1 (eC (.str ("call":Str)))) (A2 (A1 (eV (.val x_far))) (A2 (A1 (eC (.int 10))) B4))))) (A2 (A1 (H7 (A2 (A1 (eC (.str ("call":Str)))) (A2 (A1 (eV (.val x_far))) (A2 (A1 (eC (.int 1))) B4))))) B4)))) B4))),M8 (E9 "Book" "write" G8 (eV (.val x_mbook)) (A2 (A1 (eC (.str ("b":Str)))) (A2 (A1 (B5 oAdd (L1 (A2 (A1 (H7 (A2 (A1 (eC (.str ("drain":Str)))) (A2 (A1 (eC (.int 1))) (A2 (A1 (eC (.int 0))) B4))))) (A2 (A1 (H7 (A2 (A1 (eC (.str ("drain":Str)))) (A2 (A1 (eC (.int 1))) (A2 (A1 (eC (.int 9))) B4))))) B4))) (B5 oMulX (eV (.val x_long_row)) (eC (.int 9))))) B4))),M8 (E9 "Book" "write" G8 (eV (.val x_mbook)) (A2 (A1 (eC (.str ("b":Str)))) (A2 (A1 (L1 (A2 (A1 (H7 (A2 (A1 (eC (.str ("call":Str)))) (A2 (A1 (eC (.str ("a":Str)))) B4)))) B4))) B4))),M8 (E9 "Book" "write" G8 (eV (.val x_mbook)) (A2 (A1 (eC (.str ("b":Str)))) (A2 (A1 (B5 oAdd (eV (.val x_long_row)) (L1 (A2 (A1 (H7 (A2 (A1 (eC (.str ("drain":Str)))) (A2 (A1 (eC (.int 1))) (A2 (A1 (eC (.int 0))) B4))))) B4)))) B4))),M8 (E9 "Book" "drop" V6 (eV (.val x_mbook)) (A2 (A1 (eC (.str ("a":Str)))) B4)),M8 (E9 "Book" "drop" V6 (eV (.val x_mbook)) (A2 (A1 (eV (.val x_far))) B4)),M8 (E9 "Book" "steps" Q3 (eV (.val x_mbook)) (A2 (A1 (eV (.val x_far))) B4)),M8 (E9 "Book" "flat" R3 (eV (.val x_mbook)) (A2 (A1 (eV (.val x_far))) B4)),M8 (E9 "Book" "callers" Z7 (eV (.val x_mbook)) (A2 (A1 (eV (.val x_far))) B4))]))
def A1y:AkM
  | [x_mbook,x_far]=> A2s x_mbook x_far
  | _=> C3i
def A4g (x_script:W):MC:=
  ((R1 A18 (A2 (A1 (eV (.val x_script))) B4)) fun x_bag=> (A5G x_bag fun x_bag=> ((A1 (R1 A1t (A2 (A1 (eV (.val x_bag))) B4))) fun x_msizes=> ((A1 (B5 oMulX (eC (.str ("z":Str))) (B5 oAdd (eC (.int 1)) (R1 U4 (A2 (A1 (eV (.val x_bag))) (A2 (A1 (eC (.int 7))) B4)))))) fun x_far=> ((A1 (A98 "Book" A1u (A2 (A1 (eV (.val x_msizes))) B4))) fun x_mbook=> ((E9 "Book" "write" G8 (eV (.val x_mbook)) (A2 (A1 (eC (.str ("a":Str)))) (A2 (A1 (B5 oMulT (L1 (A2 (A1 (H7 (A2 (A1 (eC (.str ("drain":Str)))) (A2 (A1 (eC (.int 1))) (A2 (A1 (eC (.int 0))) B4))))) B4)) (eC (.int 10)))) B4))) fun _=> ((E9 "Book" "write" G8 (eV (.val x_mbook)) (A2 (A1 (eC (.str ("ab":Str)))) (A2 (A1 (L1 (A2 (A1 (H7 (A2 (A1 (eC (.str ("call":Str)))) (A2 (A1 (eC (.str ("a":Str)))) (A2 (A1 (eC (.int 1))) B4))))) B4))) B4))) fun _=> ((A1 (L1 (A2 (A1 (E9 "Book" "names" p9 (eV (.val x_mbook)) B4)) (A2 (A1 (E9 "Book" "steps" Q3 (eV (.val x_mbook)) (A2 (A1 (eC (.str ("a":Str)))) B4))) (A2 (A1 (E9 "Book" "steps" Q3 (eV (.val x_mbook)) (A2 (A1 (eC (.str ("ab":Str)))) B4))) (A2 (A1 (E9 "Book" "flat" R3 (eV (.val x_mbook)) (A2 (A1 (eC (.str ("ab":Str)))) B4))) B4)))))) fun x_kept=> ((A1 (L1 (A2 (A1 (H7 (A2 (A1 (eC (.str ("taken":Str)))) (A2 (A1 (eC (.str ("a":Str)))) B4)))) (A2 (A1 (H7 (A2 (A1 (eC (.str ("no round":Str)))) (A2 (A1 (eV (.val x_far))) B4)))) (A2 (A1 (H7 (A2 (A1 (eC (.str ("bad row":Str)))) (A2 (A1 (H7 (A2 (A1 (eC (.int 0))) (A2 (A1 (eC (.int 2))) B4)))) B4)))) (A2 (A1 (H7 (A2 (A1 (eC (.str ("bad row":Str)))) (A2 (A1 (H7 (A2 (A1 (eC (.int 1))) (A2 (A1 (eC (.int 2))) B4)))) B4)))) (A2 (A1 (H7 (A2 (A1 (eC (.str ("bad row":Str)))) (A2 (A1 (H7 (A2 (A1 (eC (.int 0))) (A2 (A1 (A3Y (eC (.int 1)))) B4)))) B4)))) B4))))))) fun x_due=> ((A1 (B5 oAdd (B5 oAdd (eV (.val x_due)) (L1 (A2 (A1 (H7 (A2 (A1 (eC (.str ("too long":Str)))) (A2 (A1 (eC (.int 200))) B4)))) (A2 (A1 (H7 (A2 (A1 (eC (.str ("in use":Str)))) (A2 (A1 (eC (.str ("ab":Str)))) B4)))) B4)))) (B5 oMulT (L1 (A2 (A1 (H7 (A2 (A1 (eC (.str ("no round":Str)))) (A2 (A1 (eV (.val x_far))) B4)))) B4)) (eC (.int 4))))) fun x_due=> (M2 (A1A (G6 (R1 (m__law_same 8) (A2 (A1 (B0C (eAk A1y (A2 (A1 (eV (.val x_mbook))) (A2 (A1 (eV (.val x_far))) B4))) fun ml_=> (A1 (A7h A1Q ml_)))) (A2 (A1 (eV (.val x_due))) B4))))) ((eC (.bl false)) ret) (M2 (G6 (B5 (F0 true) (L1 (A2 (A1 (E9 "Book" "names" p9 (eV (.val x_mbook)) B4)) (A2 (A1 (E9 "Book" "steps" Q3 (eV (.val x_mbook)) (A2 (A1 (eC (.str ("a":Str)))) B4))) (A2 (A1 (E9 "Book" "steps" Q3 (eV (.val x_mbook)) (A2 (A1 (eC (.str ("ab":Str)))) B4))) (A2 (A1 (E9 "Book" "flat" R3 (eV (.val x_mbook)) (A2 (A1 (eC (.str ("ab":Str)))) B4))) B4))))) (eV (.val x_kept)))) ((eC (.bl false)) ret) ((E9 "Book" "write" G8 (eV (.val x_mbook)) (A2 (A1 (eC (.str ("abc":Str)))) (A2 (A1 (L1 (A2 (A1 (H7 (A2 (A1 (eC (.str ("call":Str)))) (A2 (A1 (eC (.str ("ab":Str)))) (A2 (A1 (eC (.int 9))) B4))))) (A2 (A1 (H7 (A2 (A1 (eC (.str ("call":Str)))) (A2 (A1 (eC (.str ("ab":Str)))) (A2 (A1 (eC (.int 9))) B4))))) (A2 (A1 (H7 (A2 (A1 (eC (.str ("call":Str)))) (A2 (A1 (eC (.str ("a":Str)))) (A2 (A1 (eC (.int 2))) B4))))) B4))))) B4))) fun _=> (M2 (tOr (G6 (B5 (F0 true) (I9 G4 (F7 (E9 "Book" "flat" R3 (eV (.val x_mbook)) (A2 (A1 (eC (.str ("abc":Str)))) B4)) H9)) (eC (.int 200)))) (G6 (B5 (F0 true) (A4X (A1Q (M8 (E9 "Book" "drop" V6 (eV (.val x_mbook)) (A2 (A1 (eC (.str ("a":Str)))) B4)))) (A06 B4)) (H7 (A2 (A1 (eC (.str ("in use":Str)))) (A2 (A1 (eC (.str ("ab":Str)))) B4)))))) ((eC (.bl false)) ret) (A9b (fun (s1:Unit)=> (G6 (B5 oLt (A7g "Book" o8 A1j (eV (.val x_mbook))) (eC (.int 12))))) (fun (s1:Unit) kn3 kb4=> ((E9 "Book" "write" G8 (eV (.val x_mbook)) (A2 (A1 (B5 oAdd (eC (.str ("q":Str))) (B5 oIx (eC (.str ("abcdefghijkl":Str))) (A7g "Book" o8 A1j (eV (.val x_mbook)))))) (A2 (A1 (L1 B4)) B4))) fun _=> (kn3 ()))) (fun (s1:Unit)=> ((eLc (A6w (A1 (L1 (A2 (A1 (eC (.str ("":Str)))) (A2 (A1 (eC (.str ("A":Str)))) (A2 (A1 (eC (.str ("a b":Str)))) (A2 (A1 (eC (.str ("abcdefghi":Str)))) B4))))))) fun x_odd kk=> lcb tYes (A1 (B5 oIx (A8X (A1z (M8 (E9 "Book" "write" G8 (eV (.val x_mbook)) (A2 (A1 (eV (.val x_odd))) (A2 (A1 (L1 (A2 (A1 (H7 B4)) B4))) B4))))) (A06 B4)) (eC (.int 1)))) kk) fun x_words=> (lmC k9 x_words (A2 (A1 (B5 oIx (A4X (A1z (M8 (E9 "Book" "write" G8 (eV (.val x_mbook)) (A2 (A1 (eC (.str ("a":Str)))) (A2 (A1 (L1 (A2 (A1 (H7 B4)) B4))) B4))))) (A06 B4)) (eC (.int 1)))) B4) fun x_words _=> (M2 (tOr (G6 (B5 (F0 true) (eV x_words) (B5 oAdd (B5 oMulT (L1 (A2 (A1 (eC (.str ("bad name":Str)))) B4)) (eC (.int 4))) (L1 (A2 (A1 (eC (.str ("taken":Str)))) B4))))) (G6 (B5 (F0 true) (A4X (A1Q (M8 (E9 "Book" "write" G8 (eV (.val x_mbook)) (A2 (A1 (eC (.str ("b":Str)))) (A2 (A1 (L1 (A2 (A1 (H7 B4)) B4))) B4))))) (A06 B4)) (H7 (A2 (A1 (eC (.str ("too many":Str)))) (A2 (A1 (eC (.int 12))) B4)))))) ((eC (.bl false)) ret) ((R1 (m__law_same 8) (A2 (A1 (L1 (A2 (A1 (eC (.int 12))) (A2 (A1 (eC (.int 200))) (A2 (A1 (eC (.int 9))) B4))))) (A2 (A1 (L1 (A2 (A1 (eC (.int 12))) (A2 (A1 (eC (.int 200))) (A2 (A1 (eC (.int 9))) B4))))) B4))) ret))))) ())))))))))))))))
def m_law:List W→MC
  | [x_script]=> A4g x_script
  | _=> bad
end Ab
namespace Ab
open PySem PySem.Spec PyProof.Rows L2 RZ
abbrev Q8:List Str:=["BadName","BadRow","BadSizes","InUse","NoRound","NothingLeft","Taken","TooLong","TooMany"]
abbrev C4T:List (Str×XT):=[("BadRow",(O4 (F3 (E4 "word") (F3 (O4 (F3 (E4 "step") (F3 (E4 "place") O5))) O5)))),("InUse",(O4 (F3 (E4 "word") (F3 (E4 "name") O5)))),("NoRound",(O4 (F3 (E4 "word") (F3 (E4 "name") O5)))),("Taken",(O4 (F3 (E4 "word") (F3 (E4 "name") O5)))),("TooLong",(O4 (F3 (E4 "word") (F3 (E4 "most") O5)))),("TooMany",(O4 (F3 (E4 "word") (F3 (E4 "most") O5))))]
def A0s (e:AExc) (w:W):Prop:=∀(k:W→MC) h Q E,k w h Q E→m8 Q8 C4T k e h Q E
theorem A2b {ks:List Str} {c:Str} {sv:XT} {r:List (Str×XT)} {k:W→MC} {x:AExc} {w:W} {h:AH} {Q:RR→AH→Prop} {E:AExc→AH→Prop} (m:x.n∈ks) (s:K4 x.n c=true) (v:∀K:W→Prop,K w→sv x K) (z:k w h Q E):m8 ks ((c,sv)::r) k x h Q E:=
  ⟨m,by rw [if_pos s];exact v _ z⟩
theorem c7 {ks:List Str} {c:Str} {sv:XT} {r:List (Str×XT)} {k:W→MC} {x:AExc} {h:AH} {Q:RR→AH→Prop} {E:AExc→AH→Prop} (m:x.n∈ks) (s:K4 x.n c=false) (z:m8 ks r k x h Q E):m8 ks ((c,sv)::r) k x h Q E:=
  ⟨m,by rw [s,if_neg Bool.false_ne_true];exact z⟩
theorem A5F {x:AExc} {f g:Str} {a b:W} (h1:x.fs.lookup f=some a) (h2:x.fs.lookup g=some b):∀K:W→Prop,K (.tup [a,b])→O4 (F3 (E4 f) (F3 (E4 g) O5)) x K:=fun K z=> ⟨a,h1,b,h2,Nat.le_of_ble_eq_true rfl,z⟩
theorem A9E {i p:Int}:A0s (B4E i p) (.tup [.str "bad row",.tup [.int i,.int p]]):=fun k h Q E z=>
  A2b (show ("BadRow":Str)∈Q8 by decide) (show K4 ("BadRow":Str) ("BadRow":Str)=true by decide) (fun K y=> ⟨_,rfl,_,rfl,_,rfl,Nat.le_of_ble_eq_true rfl,Nat.le_of_ble_eq_true rfl,y⟩) z
theorem B4W {n:Str}:A0s (A60 n) (.tup [.str "in use",.str n]):=fun k h Q E z=>
  c7 (show ("InUse":Str)∈Q8 by decide) (show K4 ("InUse":Str) ("BadRow":Str)=false by decide) (A2b (show ("InUse":Str)∈Q8 by decide) (show K4 ("InUse":Str) ("InUse":Str)=true by decide) (A5F rfl rfl) z)
theorem A4a {n:Str}:A0s (l8 n) (.tup [.str "no round",.str n]):=fun k h Q E z=>
  c7 (show ("NoRound":Str)∈Q8 by decide) (show K4 ("NoRound":Str) ("BadRow":Str)=false by decide) (c7 (show ("NoRound":Str)∈Q8 by decide) (show K4 ("NoRound":Str) ("InUse":Str)=false by decide) (A2b (show ("NoRound":Str)∈Q8 by decide) (show K4 ("NoRound":Str) ("NoRound":Str)=true by decide) (A5F rfl rfl) z))
theorem B94 {n:Str}:A0s (A62 n) (.tup [.str "taken",.str n]):=fun k h Q E z=>
  c7 (show ("Taken":Str)∈Q8 by decide) (show K4 ("Taken":Str) ("BadRow":Str)=false by decide) (c7 (show ("Taken":Str)∈Q8 by decide) (show K4 ("Taken":Str) ("InUse":Str)=false by decide) (c7 (show ("Taken":Str)∈Q8 by decide) (show K4 ("Taken":Str) ("NoRound":Str)=false by decide) (A2b (show ("Taken":Str)∈Q8 by decide) (show K4 ("Taken":Str) ("Taken":Str)=true by decide) (A5F rfl rfl) z)))
theorem C1K:A0s tooLong (.tup [.str "too long",.int 200]):=fun k h Q E z=>
  c7 (show ("TooLong":Str)∈Q8 by decide) (show K4 ("TooLong":Str) ("BadRow":Str)=false by decide) (c7 (show ("TooLong":Str)∈Q8 by decide) (show K4 ("TooLong":Str) ("InUse":Str)=false by decide) (c7 (show ("TooLong":Str)∈Q8 by decide) (show K4 ("TooLong":Str) ("NoRound":Str)=false by decide) (c7 (show ("TooLong":Str)∈Q8 by decide) (show K4 ("TooLong":Str) ("Taken":Str)=false by decide) (A2b (show ("TooLong":Str)∈Q8 by decide) (show K4 ("TooLong":Str) ("TooLong":Str)=true by decide) (A5F rfl rfl) z))))
theorem C1T:A0s A8U (.tup [.str "too many",.int 12]):=fun k h Q E z=>
  c7 (show ("TooMany":Str)∈Q8 by decide) (show K4 ("TooMany":Str) ("BadRow":Str)=false by decide) (c7 (show ("TooMany":Str)∈Q8 by decide) (show K4 ("TooMany":Str) ("InUse":Str)=false by decide) (c7 (show ("TooMany":Str)∈Q8 by decide) (show K4 ("TooMany":Str) ("NoRound":Str)=false by decide) (c7 (show ("TooMany":Str)∈Q8 by decide) (show K4 ("TooMany":Str) ("Taken":Str)=false by decide) (c7 (show ("TooMany":Str)∈Q8 by decide) (show K4 ("TooMany":Str) ("TooLong":Str)=false by decide) (A2b (show ("TooMany":Str)∈Q8 by decide) (show K4 ("TooMany":Str) ("TooMany":Str)=true by decide) (A5F rfl rfl) z)))))
section
variable {Q:RR→AH→Prop} {E:AExc→AH→Prop} {h:AH} {e:AExc} {w:W}
def Rs (ML:List W→MC) (h:AH) (e:AExc):Prop:=∀Q E,E e h→ML [] h Q E
theorem B2Q {ML:List W→MC} {f:Addr} (hf:A0s e w) (hb:Rs ML h e) (z:Q (.val w) h):A1Q ML f [.ref f] h Q E:=by
  show (F5 _ (A3s f ML (.ref f))) h Q E
  refine ⟨rfl,?_⟩
  unfold A3s
  conv=> fun;fun;fun;simp only [↓C4,↓D1,↓D5,↓E7,↓E6,↓j3,↓T8,↓C6,↓T5,List.length_cons,List.length_nil,G9,Nat.zero_add,Nat.reduceAdd,Nat.reduceLeDiff]
  unfold B0T
  show call (ML []) _ h _ _
  exact hb _ _ (hf _ h _ _ z)
theorem t5 {ML:N3} {K:W→MC} (hf:A0s e w) (hb:Rs ML h e) (z:K w h Q E):A1 (A7h A1Q ML) K h Q E:=fun f=> B2Q hf hb z
theorem B14 {ML:List W→MC} {K:SV→MC} (hf:A0s e w) (hb:Rs ML h e) (z:K (.val w) h Q E):(A06 B4 fun f ws=> call (A1Q ML f ws) K) h Q E:=fun f=> B2Q (w:=w) hf hb z
structure Sd26 (x:AExc) (w:Str):Prop where
  word:x.fs.lookup ("word":Str)=some (W.str w)
  mem:x.n∈Q8
  cls:K4 x.n ("HideError":Str)=true
theorem B2v {ML:List W→MC} {w:Str} {f:Addr} (s:Sd26 e w) (hb:Rs ML h e) (z:Q (.val (.tup [.non,.str w])) h):A1z ML f [.ref f] h Q E:=by
  show (F5 _ (A3y f ML (.ref f))) h Q E
  refine ⟨rfl,?_⟩
  unfold A3y
  conv=> fun;fun;fun;simp only [↓C4,↓D1,↓D5,↓E7,↓E6,↓j3,↓T8,↓C6,↓T5,List.length_cons,List.length_nil,G9,Nat.zero_add,Nat.reduceAdd,Nat.reduceLeDiff,join]
  unfold B0A
  show call (ML []) _ h _ _
  refine hb _ _ (A2b s.mem s.cls (fun K y=> ⟨_,s.word,y⟩) ?_)
  conv=> fun;fun;fun;simp only []
  exact z
theorem B8u {ML:List W→MC} {w:Str} {K:SV→MC} (s:Sd26 e w) (hb:Rs ML h e) (z:K (.val (.str w)) h Q E):(A06 B4 fun f ws=> call (A1z ML f ws) fun x=> C9 oIx x (.val (.int 1)) K) h Q E:=fun f=> B2v (f:=f) s hb (by
  show C9 oIx (.val (.tup [.non,.str w])) (.val (.int 1)) K h Q E
  simp only [↓R6,↓A0S]
  exact z)
theorem B8O {ML:List W→MC} {w:Str} {K:SV→MC} (s:Sd26 e w) (hb:Rs ML h e) (z:K (.val (.str w)) h Q E):(A06 B4 fun f ws=> call0 (A1z ML f ws) fun x=> C9 oIx x (.val (.int 1)) K) h Q E:=fun f=> B2v (f:=f) s hb (by
  show C9 oIx (.val (.tup [.non,.str w])) (.val (.int 1)) K h Q E
  simp only [↓R6,↓A0S]
  exact z)
theorem C0v:Sd26 A8x "bad name":=⟨rfl,show ("BadName":Str)∈Q8 by decide,show K4 ("BadName":Str) ("HideError":Str)=true by decide⟩
theorem B9g {n:Str}:Sd26 (A62 n) "taken":=⟨rfl,show ("Taken":Str)∈Q8 by decide,show K4 ("Taken":Str) ("HideError":Str)=true by decide⟩
variable {ss:List Int} {b pw pl:Addr} {es:List Ent}
theorem A0p {x:Str} {ws:W} {xs:List Sw} {ma:C5} (ha:∀k:List W→MC,ma k=k [.str x,ws]) (we:X8 es x xs=some e) (lx:x.length≤1000) (hs:S9 ss) (ho:A2i es) (hx:∀y∈xs,y.ok ss) (lg:xs.length≤1000) (sr:ws= .lst (xs.map Sw.w)) (B:BookAt h b (.tup (ss.map .int)) pw pl es):
    Rs (M8 (E9 "Book" "write" G8 (eV (.val (.ref b))) ma)) h e:=fun Q E z=> by
  show (E9 "Book" "write" G8 (eV (.val (.ref b))) ma ret) h Q E
  conv=> fun;fun;fun;simp only [↓U9,↓C4,ha]
  rw [Q4 B rfl]
  show G8 [.ref b,.str x,ws] h _ _
  rw [B2r lx hs ho hx lg (.inl sr) (fun a e=> by rw [sr] at e;cases e) B,we]
  exact z
theorem A8q {x:Str} {ma:C5} (ha:∀k:List W→MC,ma k=k [.str x]) (we:A2J es x=some e) (hs:S9 ss) (hg:∀e∈es,e.steps.length≤1000∧∀s∈e.steps,s.ok ss) (le:es.length≤1000) (B:BookAt h b (.tup (ss.map .int)) pw pl es):
    Rs (M8 (E9 "Book" "drop" V6 (eV (.val (.ref b))) ma)) h e:=fun Q E z=> by
  show (E9 "Book" "drop" V6 (eV (.val (.ref b))) ma ret) h Q E
  conv=> fun;fun;fun;simp only [↓U9,↓C4,ha]
  rw [Q4 B rfl]
  show V6 [.ref b,.str x] h _ _
  refine B9I hs hg le B ?_
  rw [we]
  exact z
theorem B9L {x:Str} {ma:C5} (ha:∀k:List W→MC,ma k=k [.str x]) (we:O1 es x=none) (B:BookAt h b (.tup (ss.map .int)) pw pl es):Rs (M8 (E9 "Book" "steps" Q3 (eV (.val (.ref b))) ma)) h (l8 x):=fun Q E z=> by
  show (E9 "Book" "steps" Q3 (eV (.val (.ref b))) ma ret) h Q E
  conv=> fun;fun;fun;simp only [↓U9,↓C4,ha]
  rw [Q4 B rfl]
  show Q3 [.ref b,.str x] h _ _
  rw [B86 B we]
  exact z
theorem C1R {x:Str} {ma:C5} (ha:∀k:List W→MC,ma k=k [.str x]) (we:O1 es x=none) (B:BookAt h b (.tup (ss.map .int)) pw pl es):Rs (M8 (E9 "Book" "flat" R3 (eV (.val (.ref b))) ma)) h (l8 x):=fun Q E z=> by
  show (E9 "Book" "flat" R3 (eV (.val (.ref b))) ma ret) h Q E
  conv=> fun;fun;fun;simp only [↓U9,↓C4,ha]
  rw [Q4 B rfl]
  show R3 [.ref b,.str x] h _ _
  rw [C0H B we]
  exact z
theorem B8K {x:Str} {ma:C5} (ha:∀k:List W→MC,ma k=k [.str x]) (we:O1 es x=none) (B:BookAt h b (.tup (ss.map .int)) pw pl es):Rs (M8 (E9 "Book" "callers" Z7 (eV (.val (.ref b))) ma)) h (l8 x):=fun Q E z=> by
  show (E9 "Book" "callers" Z7 (eV (.val (.ref b))) ma ret) h Q E
  conv=> fun;fun;fun;simp only [↓U9,↓C4,ha]
  rw [Q4 B rfl]
  show A0j (.ref b) (.str x) h _ _
  unfold A0j
  conv=> fun;fun;fun;simp only [↓U9,↓C4,↓D1,↓E8,↓D5,↓E7,↓E6,↓V7,↓J9,↓J8,↓K3,↓W9,↓H8,↓Y7,↓c8,↓A6E,↓K9,↓X1,↓Y8,↓C6,↓T5,if_true,List.length_nil,G9,Nat.reduceLeDiff]
  rw [Q4 B rfl]
  show P6 [.ref b,.str x] h _ _
  rw [A1W B,we]
  exact z
end
def dD:Dd:= .drain 1 0
def eA:Ent:=⟨"a",List.replicate 10 (.deed dD),List.replicate 10 dD⟩
def eB:Ent:=⟨"ab",[.call "a" 1],List.replicate 10 dD⟩
def eC3:Ent:=⟨"abc",[.call "ab" 9,.call "ab" 9,.call "a" 2],List.replicate 200 dD⟩
def qL (i:Nat):Str:=ofL [113,97+i]
def qE (i:Nat):Ent:=⟨qL (i+3),[],[]⟩
def d8 (n:Nat):List Ent:=[eA,eB,eC3]++(List.range n).map qE
theorem w_1:X8 [] "a" (List.replicate 10 (.good (.deed dD)))=none:=Option.isNone_iff_eq_none.mp (by decide+kernel)
theorem n_1:A2Z [] "a" (List.replicate 10 (.good (.deed dD)))=eA:=rfl
theorem w_2:X8 [eA] "ab" [.good (.call "a" 1)]=none:=Option.isNone_iff_eq_none.mp (by decide+kernel)
theorem n_2:A2Z [eA] "ab" [.good (.call "a" 1)]=eB:=rfl
theorem w_3:X8 [eA,eB] "abc" [.good (.call "ab" 9),.good (.call "ab" 9),.good (.call "a" 2)]=none:=Option.isNone_iff_eq_none.mp (by decide+kernel)
theorem n_3:A2Z [eA,eB] "abc" [.good (.call "ab" 9),.good (.call "ab" 9),.good (.call "a" 2)]=eC3:=rfl
theorem w_q:∀n,n < 9→(X8 (d8 n) (qL (n+3)) []).isNone=true:=by decide+kernel
theorem n_q (n:Nat):A2Z (d8 n) (qL (n+3)) []=qE n:=rfl
theorem d_a:A2J [eA,eB] "a"=some (A60 "ab"):=rfl
theorem C4f:A2J [eA,eB,eC3] "a"=some (A60 "ab"):=rfl
theorem C3E {es:List Ent} {x:Str} {xs:List Sw} (h:A1a x=false):X8 es x xs=some A8x:=by
  unfold X8 Y1
  rw [h]
  rfl
theorem C2X {h:AH} {b pw pl:Addr} {s:W} {es es':List Ent} (B:BookAt h b s pw pl es):BookAt (D6 (D6 h pw (.cont (.map (smap (es'.map Ent.wr))))) pl (.cont (.map (smap (es'.map Ent.la))))) b s pw pl es':=
  ⟨by rw [I6 B.nbl,I6 B.nbw];exact B.ob,by rw [I6 B.ne,R4],R4,B.ne⟩
theorem A3S {ss:List Int} (hs:S9 ss) {es:List Ent} (h:es=[eA]∨es=[eA,eB]∨es=[eA,eB,eC3]∨(∃n,n≤9∧es=d8 n)∨es=[]):A2i es∧(∀e∈es,e.steps.length≤1000∧∀s∈e.steps,s.ok ss)∧es.length≤12:=by
  have dk:dD.ok ss:=⟨by decide,by decide,by have:=hs.1;omega⟩
  have a1:eA.deeds.length≤200∧eA.steps.length≤1000:=⟨by decide,by decide⟩
  have b1:eB.deeds.length≤200∧eB.steps.length≤1000:=⟨by decide,by decide⟩
  have c1:eC3.deeds.length≤200∧eC3.steps.length≤1000:=⟨by decide,by decide⟩
  have q1:∀i,(qE i).deeds.length≤200∧(qE i).steps.length≤1000:=fun i=> ⟨Nat.zero_le _,Nat.zero_le _⟩
  have a2:∀s∈eA.steps,s.ok ss:=fun s hm=> by rw [List.eq_of_mem_replicate hm];exact dk
  have b2:∀s∈eB.steps,s.ok ss:=fun s hm=> by
    rw [show eB.steps=[.call "a" 1] from rfl,List.mem_singleton] at hm
    subst hm
    show 1≤9
    omega
  have c2:∀s∈eC3.steps,s.ok ss:=fun s hm=> by
    rw [show eC3.steps=[.call "ab" 9,.call "ab" 9,.call "a" 2] from rfl] at hm
    simp only [List.mem_cons,List.not_mem_nil,or_false] at hm
    rcases hm with rfl | rfl | rfl
    · show 9≤9
      omega
    · show 9≤9
      omega
    · show 2≤9
      omega
  have q2:∀i,∀s∈(qE i).steps,s.ok ss:=fun i s hm=> by cases hm
  rcases h with rfl | rfl | rfl | ⟨n,hn,rfl⟩ | rfl
  · exact ⟨fun e he=> by rw [List.mem_singleton] at he;subst he;exact a1,fun e he=> by rw [List.mem_singleton] at he;subst he;exact ⟨a1.2,a2⟩,by decide⟩
  · refine ⟨fun e he=> ?_,fun e he=> ?_,by decide⟩ <;> simp only [List.mem_cons,List.not_mem_nil,or_false] at he <;> rcases he with rfl | rfl
    · exact a1
    · exact b1
    · exact ⟨a1.2,a2⟩
    · exact ⟨b1.2,b2⟩
  · refine ⟨fun e he=> ?_,fun e he=> ?_,by decide⟩ <;> simp only [List.mem_cons,List.not_mem_nil,or_false] at he <;> rcases he with rfl | rfl | rfl
    · exact a1
    · exact b1
    · exact c1
    · exact ⟨a1.2,a2⟩
    · exact ⟨b1.2,b2⟩
    · exact ⟨c1.2,c2⟩
  · refine ⟨fun e he=> ?_,fun e he=> ?_,by unfold d8;simp;omega⟩ <;> unfold d8 at he <;> simp only [List.mem_append,List.mem_cons,List.not_mem_nil,or_false,List.mem_map] at he <;> rcases he with (rfl | rfl | rfl) | ⟨i,_,rfl⟩
    · exact a1
    · exact b1
    · exact c1
    · exact q1 i
    · exact ⟨a1.2,a2⟩
    · exact ⟨b1.2,b2⟩
    · exact ⟨c1.2,c2⟩
    · exact ⟨(q1 i).2,q2 i⟩
  · exact ⟨fun e he=> absurd he (List.not_mem_nil),fun e he=> absurd he (List.not_mem_nil),by decide⟩
def A63 (x:Str):Prop:=x.length≤1000∧O1 [eA,eB] x=none
def longS:List St:=[.call "ab" 9,.call "ab" 9,.call "a" 2]
section
variable {ss:List Int} {far:Str}
theorem C0o (hs:S9 ss):q9 [.tup (ss.map .int),.tup [.str "drain",.int 1,.int 9]]=ret (.val (.int 2)):=by
  have l6:=hs.2.1
  have g:=B8D (g:=⟨"drain",[1,9]⟩) hs (by decide)
  have e:A6n ss ⟨"drain",[1,9]⟩=some 2:=by
    unfold A6n
    rw [if_pos (show Wd5 ("drain":Str) by decide),if_pos (show A49 ss.length ⟨"drain",[1,9]⟩=true by unfold A49;rw [if_neg (by decide)];rfl),if_neg (show ¬("drain":Str)=("swap":Str) by decide),if_pos (by decide)]
    show (if ¬((0:Int)≤9∧(9:Int) < (ss.length:Int))∨_ then some (2:Int) else _)=some 2
    rw [if_pos (.inl (by omega))]
  rw [e] at g
  exact g
theorem B96 (hs:S9 ss):q9 [.tup (ss.map .int),.tup []]=ret (.val (.int 0)):=by
  show A0l _ _=_
  unfold A0l
  simp only [↓C4,↓D1,↓E8,↓D5,↓E7,↓E6,↓J9,↓J8,↓K3,↓H8,↓d3,↓m9,↓v5,↓A4z,↓j4,↓T8,↓K9,↓A2N,↓C6,↓W8,↓F6,↓T5,↓B4U,↓R6,↓Y5,↓A7R,if_true,Bool.not_false,decide_eq_true_eq,List.length_map,List.length_cons,List.length_nil,G9,Nat.zero_add,Nat.reduceAdd,Nat.reduceLeDiff]
  rw [if_pos (by decide)]
theorem A6z (hs:S9 ss):(Sw.odd (.tup []) 0).ok ss:=⟨false,B7t,fun z=> (by cases z),fun _=> B96 hs⟩
theorem C22 (hs:S9 ss):(Sw.odd (.tup [.str "drain",.int 1,.int 9]) 2).ok ss:=⟨false,A4H (by decide),fun z=> (by cases z),fun _=> C0o hs⟩
theorem C2H:(Sw.odd (.tup [.str "call",.str far,.int 10]) 2).ok ss:=⟨true,A4H (Nat.le_of_ble_eq_true rfl),fun _=> B1L,fun z=> (by cases z)⟩
theorem C31:(Sw.odd (.tup [.str "call",.str "a"]) (-1)).ok ss:=⟨true,A4H (by decide),fun _=> B6w (by decide),fun z=> (by cases z)⟩
variable {Q:RR→AH→Prop} {E:AExc→AH→Prop} {h:AH} {b pw pl:Addr}
def B5b:List W:=(longS.map St.w)
theorem A6t {es:List Ent} {x:Str} {xs:List Sw} {e:AExc} (hx:Y1 es x=none) (hf:A21 es xs=some e):X8 es x xs=some e:=by
  unfold X8
  rw [hx,hf]
theorem A9l {es:List Ent} {x:Str} {xs:List Sw} {e:AExc} (hx:Y1 es x=some e):X8 es x xs=some e:=by
  unfold X8
  rw [hx]
theorem C0a {es:List Ent} {x:Str} {xs:List Sw} (hx:Y1 es x=none) (hf:A21 es xs=none) (ht:200 < A2L es xs):X8 es x xs=some tooLong:=by
  unfold X8
  rw [hx,hf]
  show (if _ then _ else _)=_
  rw [if_pos ht]
theorem B2z {es:List Ent} {x:Str} (h:A1a x=true) (f:(O1 es x).isSome=true):Y1 es x=some (A62 x):=by
  unfold Y1
  rw [h,if_neg (by decide),if_pos f]
theorem C1W {es:List Ent} {x:Str} (h:A1a x=true) (f:(O1 es x).isSome=false) (l:12≤es.length):Y1 es x=some A8U:=by
  unfold Y1
  rw [h,if_neg (by decide),f,if_neg (by decide),if_pos l]
theorem C0M (hf:A63 far):A21 [eA,eB] [.good (.deed dD),.good (.call far 1)]=some (l8 far):=by
  unfold A21
  simp only [List.zipIdx_cons,List.zipIdx_nil,List.findSome?_cons,A0r,hf.2,Option.isSome_none,Bool.false_eq_true,if_false]
theorem B9C (hf:A63 far):A2J [eA,eB] far=some (l8 far):=by
  unfold A2J
  rw [hf.2]
theorem A4i {x:Str} (h:(Y1 [eA,eB] x).isNone=true):Y1 [eA,eB] x=none:=Option.isNone_iff_eq_none.mp h
theorem C0m (hs:S9 ss) (hf:A63 far) (B:BookAt h b (.tup (ss.map .int)) pw pl [eA,eB]) {k:List W→MC}
    (z:k [.tup [.str "taken",.str "a"],.tup [.str "no round",.str far],.tup [.str "bad row",.tup [.int 0,.int 2]],.tup [.str "bad row",.tup [.int 1,.int 2]],.tup [.str "bad row",.tup [.int 0,.int (-1)]],.tup [.str "too long",.int 200],.tup [.str "in use",.str "ab"],
      .tup [.str "no round",.str far],.tup [.str "no round",.str far],.tup [.str "no round",.str far],.tup [.str "no round",.str far]] h Q E):
    A3R (A1y [.ref b,.str far]) (fun ms=> lcF (fun ml_=> A1 (A7h A1Q ml_)) k ms []) h Q E:=by
  obtain ⟨ho,hg,le⟩:=A3S hs (es:=[eA,eB]) (.inr (.inl rfl))
  have dk:dD.ok ss:=⟨by decide,by decide,by have:=hs.1;omega⟩
  have gd:(Sw.good (.deed dD)).ok ss:=dk
  have gc:∀n t,t≤9→(Sw.good (.call n t)).ok ss:=fun n t h=> h
  have ak:∀kk:List N3→MC,A2s (.ref b) (.str far) kk=kk [M8 (E9 "Book" "write" G8 (eV (.val (.ref b))) (A2 (A1 (eC (.str ("a":Str)))) (A2 (A1 (L1 (A2 (A1 (H7 B4)) B4))) B4))),M8 (E9 "Book" "write" G8 (eV (.val (.ref b))) (A2 (A1 (eC (.str ("abcdefgh":Str)))) (A2 (A1 (L1 (A2 (A1 (H7 (A2 (A1 (eC (.str ("drain":Str)))) (A2 (A1 (eC (.int 1))) (A2 (A1 (eC (.int 0))) B4))))) (A2 (A1 (H7 (A2 (A1 (eC (.str ("call":Str)))) (A2 (A1 (eV (.val (.str far)))) (A2 (A1 (eC (.int 1))) B4))))) B4)))) B4))),M8 (E9 "Book" "write" G8 (eV (.val (.ref b))) (A2 (A1 (eC (.str ("b":Str)))) (A2 (A1 (L1 (A2 (A1 (H7 (A2 (A1 (eC (.str ("call":Str)))) (A2 (A1 (eV (.val (.str far)))) (A2 (A1 (eC (.int 10))) B4))))) (A2 (A1 (H7 (A2 (A1 (eC (.str ("call":Str)))) (A2 (A1 (eV (.val (.str far)))) (A2 (A1 (eC (.int 1))) B4))))) B4)))) B4))),M8 (E9 "Book" "write" G8 (eV (.val (.ref b))) (A2 (A1 (eC (.str ("b":Str)))) (A2 (A1 (B5 oAdd (L1 (A2 (A1 (H7 (A2 (A1 (eC (.str ("drain":Str)))) (A2 (A1 (eC (.int 1))) (A2 (A1 (eC (.int 0))) B4))))) (A2 (A1 (H7 (A2 (A1 (eC (.str ("drain":Str)))) (A2 (A1 (eC (.int 1))) (A2 (A1 (eC (.int 9))) B4))))) B4))) (B5 oMulX (eV (.val (.lst B5b))) (eC (.int 9))))) B4))),M8 (E9 "Book" "write" G8 (eV (.val (.ref b))) (A2 (A1 (eC (.str ("b":Str)))) (A2 (A1 (L1 (A2 (A1 (H7 (A2 (A1 (eC (.str ("call":Str)))) (A2 (A1 (eC (.str ("a":Str)))) B4)))) B4))) B4))),M8 (E9 "Book" "write" G8 (eV (.val (.ref b))) (A2 (A1 (eC (.str ("b":Str)))) (A2 (A1 (B5 oAdd (eV (.val (.lst B5b))) (L1 (A2 (A1 (H7 (A2 (A1 (eC (.str ("drain":Str)))) (A2 (A1 (eC (.int 1))) (A2 (A1 (eC (.int 0))) B4))))) B4)))) B4))),M8 (E9 "Book" "drop" V6 (eV (.val (.ref b))) (A2 (A1 (eC (.str ("a":Str)))) B4)),M8 (E9 "Book" "drop" V6 (eV (.val (.ref b))) (A2 (A1 (eV (.val (.str far)))) B4)),M8 (E9 "Book" "steps" Q3 (eV (.val (.ref b))) (A2 (A1 (eV (.val (.str far)))) B4)),M8 (E9 "Book" "flat" R3 (eV (.val (.ref b))) (A2 (A1 (eV (.val (.str far)))) B4)),M8 (E9 "Book" "callers" Z7 (eV (.val (.ref b))) (A2 (A1 (eV (.val (.str far)))) B4))]:=fun kk=> by
    unfold A2s
    simp only [↓D1,↓E8,↓D5,↓E7,↓E6,↓j3,↓V7,↓C6,↓Q5,↓T5,↓B40,↓A81,List.length_cons,List.length_nil,G9,Nat.zero_add,Nat.reduceAdd,Nat.reduceLeDiff]
    rw [G2 (by decide),G2 (by decide)]
    rfl
  show A3R (A2s (.ref b) (.str far)) _ h Q E
  rw [C2i ak]
  simp only [B9z,C1X]
  refine t5 B94 (A0p (x:="a") (xs:=[.odd (.tup []) 0]) (fun k=> by simp only [↓D1,↓D5,↓E7,↓E6,↓j3,↓V7,↓C6,↓Q5,↓T5,List.length_cons,List.length_nil,G9,Nat.zero_add,Nat.reduceLeDiff] <;> rfl) (A9l (B2z (by decide+kernel) (by decide+kernel))) (by decide) hs ho (fun y hy=> by rw [List.mem_singleton] at hy;subst hy;exact A6z hs) (by decide) rfl B) ⟨by decide,?_⟩
  refine t5 A4a (A0p (x:="abcdefgh") (xs:=[.good (.deed dD),.good (.call far 1)]) (fun k=> by simp only [↓C4,↓D1,↓D5,↓E7,↓E6,↓j3,↓V7,↓C6,↓Q5,↓T5,List.length_cons,List.length_nil,G9,Nat.zero_add,Nat.reduceAdd,Nat.reduceLeDiff] <;> rfl) (A6t (A4i (by decide+kernel)) (C0M hf)) (by decide) hs ho (fun y hy=> by
    simp only [List.mem_cons,List.not_mem_nil,or_false] at hy
    rcases hy with rfl | rfl
    · exact gd
    · exact gc _ _ (by omega)) (by simp) rfl B) ⟨by simp [G9],?_⟩
  refine t5 (A9E (i:=0) (p:=2)) (A0p (x:="b") (xs:=[.odd (.tup [.str "call",.str far,.int 10]) 2,.good (.call far 1)]) (fun k=> by simp only [↓C4,↓D1,↓D5,↓E7,↓E6,↓j3,↓V7,↓C6,↓Q5,↓T5,List.length_cons,List.length_nil,G9,Nat.zero_add,Nat.reduceAdd,Nat.reduceLeDiff] <;> rfl) (A6t (A4i (by decide+kernel)) rfl) (by decide) hs ho (fun y hy=> by
    simp only [List.mem_cons,List.not_mem_nil,or_false] at hy
    rcases hy with rfl | rfl
    · exact C2H
    · exact gc _ _ (by omega)) (by simp) rfl B) ⟨by simp [G9],?_⟩
  refine t5 (A9E (i:=1) (p:=2)) (A0p (x:="b") (xs:=[.good (.deed dD),.odd (.tup [.str "drain",.int 1,.int 9]) 2]++((List.replicate 9 longS).flatten.map .good)) (fun k=> by
    simp only [↓C4,↓D1,↓E8,↓D5,↓E7,↓E6,↓j3,↓V7,↓C6,↓Q5,↓T5,↓A81,List.length_cons,List.length_nil,G9,Nat.zero_add,Nat.reduceAdd,Nat.reduceLeDiff,↓B3u]
    rw [G2 (by decide),G2 (by decide)]
    rfl) (A6t (A4i (by decide+kernel)) rfl) (by decide) hs ho (fun y hy=> by
    rcases List.mem_append.mp hy with hy | hy
    · simp only [List.mem_cons,List.not_mem_nil,or_false] at hy
      rcases hy with rfl | rfl
      · exact gd
      · exact C22 hs
    · obtain ⟨s,hq,rfl⟩:=List.mem_map.mp hy
      rw [show (List.replicate 9 longS).flatten=(List.replicate 9 longS).flatten from rfl,List.mem_flatten] at hq
      obtain ⟨l,hl,hm⟩:=hq
      rw [List.eq_of_mem_replicate hl,longS] at hm
      simp only [List.mem_cons,List.not_mem_nil,or_false] at hm
      rcases hm with rfl | rfl | rfl
      · exact gc _ _ (by omega)
      · exact gc _ _ (by omega)
      · exact gc _ _ (by omega)) (by decide) rfl B) ⟨by simp [G9],?_⟩
  refine t5 (A9E (i:=0) (p:= -1)) (A0p (x:="b") (xs:=[.odd (.tup [.str "call",.str "a"]) (-1)]) (fun k=> by simp only [↓D1,↓D5,↓E7,↓E6,↓j3,↓V7,↓C6,↓Q5,↓T5,List.length_cons,List.length_nil,G9,Nat.zero_add,Nat.reduceAdd,Nat.reduceLeDiff] <;> rfl) (A6t (A4i (by decide+kernel)) rfl) (by decide) hs ho (fun y hy=> by rw [List.mem_singleton] at hy;subst hy;exact C31) (by decide) rfl B) ⟨by simp [G9],?_⟩
  refine t5 C1K (A0p (x:="b") (xs:=(longS.map .good)++[.good (.deed dD)]) (fun k=> by
    simp only [↓C4,↓D1,↓E8,↓D5,↓E7,↓E6,↓j3,↓V7,↓C6,↓Q5,↓T5,↓B32,List.length_cons,List.length_nil,G9,Nat.zero_add,Nat.reduceAdd,Nat.reduceLeDiff]
    rw [G2 (by decide)]
    rfl) (C0a (A4i (by decide+kernel)) rfl (by decide)) (by decide) hs ho (fun y hy=> by
    rcases List.mem_append.mp hy with hy | hy
    · obtain ⟨s,hm,rfl⟩:=List.mem_map.mp hy
      rw [longS] at hm
      simp only [List.mem_cons,List.not_mem_nil,or_false] at hm
      rcases hm with rfl | rfl | rfl
      · exact gc _ _ (by omega)
      · exact gc _ _ (by omega)
      · exact gc _ _ (by omega)
    · rw [List.mem_singleton] at hy
      subst hy
      exact gd) (by decide) rfl B) ⟨by simp [G9],?_⟩
  refine t5 B4W (A8q (x:="a") (fun k=> by simp only [↓D1,↓D5,↓E7,↓E6,↓C6]) d_a hs hg (by decide) B) ⟨by simp [G9],?_⟩
  refine t5 A4a (A8q (x:=far) (fun k=> by simp only [↓C4,↓D5,↓E7,↓E6,↓C6]) (B9C hf) hs hg (by decide) B) ⟨by simp [G9],?_⟩
  refine t5 A4a (B9L (x:=far) (fun k=> by simp only [↓C4,↓D5,↓E7,↓E6,↓C6]) hf.2 B) ⟨by simp [G9],?_⟩
  refine t5 A4a (C1R (x:=far) (fun k=> by simp only [↓C4,↓D5,↓E7,↓E6,↓C6]) hf.2 B) ⟨by simp [G9],?_⟩
  refine t5 A4a (B8K (x:=far) (fun k=> by simp only [↓C4,↓D5,↓E7,↓E6,↓C6]) hf.2 B) ⟨by simp [G9],?_⟩
  exact z
end
theorem C1l:∀k:Nat,k < 7→A63 (i5 ("z":Str) (1+(k:Int))):=fun k hk=> by
  have e:∀k:Nat,k < 7→(decide ((i5 ("z":Str) (1+((k:Nat):Int))).length≤1000) && (O1 [eA,eB] (i5 ("z":Str) (1+((k:Nat):Int)))).isNone)=true:=by decide+kernel
  have z:=e k hk
  rw [Bool.and_eq_true] at z
  exact ⟨of_decide_eq_true z.1,Option.isNone_iff_eq_none.mp z.2⟩
section
variable {Q:RR→AH→Prop} {E:AExc→AH→Prop} {h:AH} {ss:List Int} {b pw pl:Addr} {es:List Ent}
theorem A68 {x:Str} {xs:List Sw} {e:Ent} {ws:W} (sr:ws= .lst (xs.map Sw.w)) (we:X8 es x xs=none) (hn:A2Z es x xs=e) (lx:x.length≤1000) (hs:S9 ss) (ho:A2i es) (hx:∀y∈xs,y.ok ss) (lg:xs.length≤1000) (B:BookAt h b (.tup (ss.map .int)) pw pl es)
    (z:∀h',BookAt h' b (.tup (ss.map .int)) pw pl (es++[e])→Q (.val .non) h'):G8 [.ref b,.str x,ws] h Q E:=by
  rw [B2r lx hs ho hx lg (.inl sr) (fun a e=> by rw [sr] at e;cases e) B,we,hn]
  exact z _ (C2X B)
end
theorem C0T {y z:SV} {k:Bool→MC} (hy:y.pl) (hz:z.pl) (e:y.fz=z.fz):(C9 (F0 true) y z fun r=> T7 r k)=k false:=by
  rw [B5m hy hz,decide_eq_true e]
  rfl
theorem A4t {y z:SV} {k:Bool→MC} {h:AH} {Q:RR→AH→Prop} {E:AExc→AH→Prop} (hy:y.pl) (hz:z.pl) (e:y.fz=z.fz) (g:k false h Q E):(C9 (F0 true) y z fun r=> T7 r k) h Q E:=by
  rw [C0T hy hz e]
  exact g
theorem B3D {h:AH} {Q:RR→AH→Prop} {E:AExc→AH→Prop} {b pw pl:Addr} {s:W} {es:List Ent} {k:SV→MC} (B:BookAt h b s pw pl es) (l:es.length≤12) (z:k (.val (.int es.length)) h Q E):A3a "Book" o8 A1j (.val (.ref b)) k h Q E:=by
  refine ⟨_,B.ob,?_⟩
  rw [C1c B]
  exact ⟨_,rfl,by omega,by omega,z⟩
theorem A9s (n:Nat):(d8 n).length=n+3:=by
  unfold d8
  simp
theorem C4D (n:Nat):d8 n++[qE n]=d8 (n+1):=by
  unfold d8
  rw [List.append_assoc,List.range_succ,List.map_append]
  rfl
theorem C28 {n:Nat} (h:n < 9):([97,98,99,100,101,102,103,104,105,106,107,108]:List Nat)[n+3]? =some (97+(n+3)):=by
  have e:∀n,n < 9→([97,98,99,100,101,102,103,104,105,106,107,108]:List Nat)[n+3]? =some (97+(n+3)):=by decide
  exact e n h
theorem C10 {ns:List Int} (hn:ns.length≤63) (h:AH) (Q:RR→AH→Prop) (E:AExc→AH→Prop) (q:∀h',Q (.val (.bl true)) h'):m_law [.lst (ns.map .int)] h Q E:=by
  show A4g _ h Q E
  unfold A4g
  generalize hBS:m__law_same 8=BS
  conv=> fun;fun;fun;simp only [↓U9,↓C2P,↓C24,↓C4b,↓C3q,↓B8L,↓C4,↓D1,↓E8,↓D5,↓E7,↓E6,↓j3,↓V7,↓J9,↓J8,↓K3,↓W9,↓H8,↓d3,↓m9,↓A4z,↓T8,↓A6E,↓K9,↓X1,↓Y8,↓C6,↓Q5,↓W8,↓A8W,↓T5,↓S8,↓B40,↓B32,↓A81,↓A6l,↓A5y,↓B8d,if_true,List.length_cons,List.length_nil,G9,Nat.zero_add,Nat.reduceAdd,Nat.reduceLeDiff,↓C0d hn]
  intro p hp
  refine any_sizes_dr.call C1A (by omega) fun r h1 hr b1 t1=> ?_
  obtain ⟨ss,rfl,sz⟩:=hr
  have l1:=sz.1
  have l6:=sz.2.1
  conv=> fun;fun;fun;simp only [↓C6,↓A3I]
  refine (A6X (s:=7) (by omega) (by omega)).call b1 (by omega) fun r h2 hr b2 t2=> ?_
  obtain ⟨k0,rfl,k1,k2⟩:=hr
  obtain ⟨k0,rfl⟩:∃j:Nat,k0=j:=⟨k0.toNat,by omega⟩
  have hf:=C1l k0 (by omega)
  conv=> fun;fun;fun;simp only [↓C6,↓A3I,↓A0T,↓C0P]
  rw [G2 (by refine ⟨by omega,by omega,by decide⟩)]
  generalize i5 ("z":Str) (1+(k0:Int))=far at hf
  conv=> fun;fun;fun;simp only []
  intro b nb
  refine B8W sz R4 fun pw pl h3 npw npl fr B0=> ⟨rfl,?_⟩
  have dk:dD.ok ss:=⟨by decide,by decide,by omega⟩
  have gd:(Sw.good (.deed dD)).ok ss:=dk
  have gc:∀n t,t≤9→(Sw.good (.call n t)).ok ss:=fun n t h=> h
  conv=> fun;fun;fun;simp only [C6]
  rw [Q4 B0 rfl]
  refine ⟨by decide,?_⟩
  show G8 [.ref b,.str "a",_] h3 _ _
  refine A68 (xs:=List.replicate 10 (.good (.deed dD))) rfl w_1 n_1 (by decide) sz (A3S sz (es:=[]) (.inr (.inr (.inr (.inr rfl))))).1 (fun y hy=> by rw [List.eq_of_mem_replicate hy];exact gd) (by decide) B0 fun h4 B1=> ?_
  show R8 _ _ _ _ _ _ _
  rw [Q4 B1 rfl]
  show G8 [.ref b,.str "ab",_] h4 _ _
  refine A68 (xs:=[.good (.call "a" 1)]) rfl w_2 n_2 (by decide) sz (A3S sz (es:=[eA]) (.inl rfl)).1 (fun y hy=> by rw [List.mem_singleton] at hy;subst hy;exact gc _ _ (by omega)) (by decide) B1 fun h5 B2=> ?_
  have B2:BookAt h5 b (.tup (ss.map .int)) pw pl [eA,eB]:=B2
  obtain ⟨ho,hg,le⟩:=A3S sz (es:=[eA,eB]) (.inr (.inl rfl))
  have kept:∀{K:SV→SV→SV→SV→MC} {Q:RR→AH→Prop} {E:AExc→AH→Prop},K (.own (.seq [.str "a",.str "ab"])) (.own (.seq (eA.steps.map St.w))) (.own (.seq (eB.steps.map St.w))) (.own (.seq (eB.deeds.map Dd.w))) h5 Q E→
      R8 "Book" "names" (.val (.ref b)) (fun a=> call (p9 [.ref a]) fun x_3=> R8 "Book" "steps" (.val (.ref b)) fun a=> call (Q3 [.ref a,.str "a"]) fun x_4=> R8 "Book" "steps" (.val (.ref b)) fun a=> call (Q3 [.ref a,.str "ab"]) fun x_5=> R8 "Book" "flat" (.val (.ref b)) fun a=> call (R3 [.ref a,.str "ab"]) fun x_6=> K x_3 x_4 x_5 x_6) h5 Q E:=fun {K Q E} z=> by
    rw [Q4 B2 rfl]
    show p9 [.ref b] h5 _ _
    rw [B87 B2]
    show R8 _ _ _ _ _ _ _
    rw [Q4 B2 rfl]
    show Q3 [.ref b,.str "a"] h5 _ _
    rw [B2p B2 (e:=eA) (by rfl)]
    show R8 _ _ _ _ _ _ _
    rw [Q4 B2 rfl]
    show Q3 [.ref b,.str "ab"] h5 _ _
    rw [B2p B2 (e:=eB) (by rfl)]
    show R8 _ _ _ _ _ _ _
    rw [Q4 B2 rfl]
    show R3 [.ref b,.str "ab"] h5 _ _
    rw [B3i B2 (e:=eB) (by rfl)]
    exact z
  show R8 _ _ _ _ _ _ _
  refine kept ?_
  refine ⟨by decide,by simp,?_⟩
  refine C0m sz hf B2 ?_
  rw [←hBS]
  refine Eq.mpr (congrArg (fun m:MC=> call m _ h5 Q E) (B3A 7 (.lst [.tup [.str "taken",.str "a"],.tup [.str "no round",.str far],.tup [.str "bad row",.tup [.int 0,.int 2]],.tup [.str "bad row",.tup [.int 1,.int 2]],.tup [.str "bad row",.tup [.int 0,.int (-1)]],.tup [.str "too long",.int 200],.tup [.str "in use",.str "ab"],
      .tup [.str "no round",.str far],.tup [.str "no round",.str far],.tup [.str "no round",.str far],.tup [.str "no round",.str far]]) rfl)) ?_
  rw [S8,F6,if_neg (by decide)]
  refine kept ?_
  refine A4t (so ⟨4,by omega,rfl⟩) (sp ⟨4,by omega,rfl⟩) rfl ?_
  rw [if_neg (by decide),Q4 B2 rfl]
  show G8 [.ref b,.str "abc",_] h5 _ _
  refine A68 (xs:=[.good (.call "ab" 9),.good (.call "ab" 9),.good (.call "a" 2)]) rfl w_3 n_3 (by decide) sz ho (fun y hy=> by
    simp only [List.mem_cons,List.not_mem_nil,or_false] at hy
    rcases hy with rfl | rfl | rfl
    · exact gc _ _ (by omega)
    · exact gc _ _ (by omega)
    · exact gc _ _ (by omega)) (by decide) B2 fun h6 B3=> ?_
  have B3:BookAt h6 b (.tup (ss.map .int)) pw pl [eA,eB,eC3]:=B3
  obtain ⟨ho3,hg3,le3⟩:=A3S sz (es:=[eA,eB,eC3]) (.inr (.inr (.inl rfl)))
  show R8 _ _ _ _ _ _ _
  rw [Q4 B3 rfl]
  show R3 [.ref b,.str "abc"] h6 _ _
  rw [B3i B3 (e:=eC3) (by rfl)]
  show cb _ _ _ h6 Q E
  rw [show (RR.own (Cont.seq (List.map Dd.w eC3.deeds))).sv=SV.own (Cont.seq (List.map Dd.w eC3.deeds)) from rfl,C1r]
  refine A4t (sp c9) (sp c9) (by rw [List.length_map];rfl) ?_
  rw [if_neg (by decide)]
  refine B14 B4W (A8q (x:="a") (fun k=> by simp only [↓D1,↓D5,↓E7,↓E6,↓C6]) C4f sz hg3 (by decide) B3) ?_
  refine A4t (sp ⟨4,by omega,rfl⟩) (sp ⟨4,by omega,rfl⟩) rfl ?_
  rw [if_neg (by decide)]
  refine B9e (fun m _ h'=> ∃n,n≤9∧m=9 - n∧BookAt h' b (.tup (ss.map .int)) pw pl (d8 n)) 9 ⟨0,by omega,rfl,B3⟩ (fun m u h7 hm=> ?_)
  obtain ⟨n,n9,rfl,B⟩:=hm
  obtain ⟨hoq,hgq,leq⟩:=A3S sz (es:=d8 n) (.inr (.inr (.inr (.inl ⟨n,n9,rfl⟩))))
  show A3a "Book" o8 A1j (.val (.ref b)) _ h7 Q E
  refine B3D B (by omega) ?_
  show C9 oLt (.val (.int ((d8 n).length:Int))) (.val (.int 12)) (fun r=> T7 r _) h7 Q E
  rw [A9s,B0Y,F6]
  by_cases g:n < 9
  · rw [if_pos (decide_eq_true (by omega))]
    refine ⟨fun _ g'=> BookAt g' b (.tup (ss.map .int)) pw pl (d8 (n+1)),fun s' g' z=> ⟨9 - (n+1),by omega,n+1,by omega,rfl,z⟩,?_⟩
    rw [Q4 B rfl]
    show A3a _ _ _ _ _ _ _ _
    refine B3D B (by omega) ?_
    show C9 oIx _ (.val (.int ((d8 n).length:Int))) _ h7 _ _
    rw [A9s,show ("abcdefghijkl":Str)=ofL [97,98,99,100,101,102,103,104,105,106,107,108] from rfl,C4d (C28 g),G2 (by decide),C34,G2 (by rw [A6W];exact Nat.le_of_ble_eq_true rfl)]
    show G8 [.ref b,.str (qL (n+3)),.lst []] h7 _ _
    refine A68 (xs:=[]) rfl (Option.isNone_iff_eq_none.mp (w_q n g)) (n_q n) (by rw [qL,A6W];exact Nat.le_of_ble_eq_true rfl) sz hoq (fun y hy=> by cases hy) (by decide) B fun h8 B'=> ?_
    rw [C4D] at B'
    exact B'
  obtain rfl:n=9:=by omega
  rw [if_neg (by decide)]
  have bad:∀(x:Str) (K:SV→MC),A1a x=false→x.length≤1000→K (.val (.str "bad name")) h7 Q E→(A06 B4 fun f ws=> call0 (A1z (M8 (E9 "Book" "write" G8 (eV (.val (.ref b))) (A2 (A1 (eV (.val (.str x)))) (A2 (A1 (L1 (A2 (A1 (H7 B4)) B4))) B4)))) f ws) fun x=> C9 oIx x (.val (.int 1)) K) h7 Q E:=fun x K hx lx z=>
    B8O C0v (A0p (x:=x) (xs:=[.odd (.tup []) 0]) (fun k=> by simp only [↓C4,↓D5,↓E7,↓E6,↓j3,↓V7,↓C6,↓Q5,↓T5,List.length_cons,List.length_nil,G9,Nat.zero_add,Nat.reduceLeDiff] <;> rfl) (C3E hx) lx sz hoq (fun y hy=> by rw [List.mem_singleton] at hy;subst hy;exact A6z sz) (by decide) rfl B) z
  unfold V4
  refine bad "" _ (by decide+kernel) (by decide) ⟨by decide,?_⟩
  unfold V4
  refine bad "A" _ (by decide+kernel) (by decide) ⟨by decide,?_⟩
  unfold V4
  refine bad "a b" _ (by decide+kernel) (by decide) ⟨by decide,?_⟩
  unfold V4
  refine bad "abcdefghi" _ (by decide+kernel) (by decide) ⟨by decide,?_⟩
  unfold V4
  refine B8u (B9g (n:="a")) (A0p (x:="a") (xs:=[.odd (.tup []) 0]) (fun k=> by simp only [↓D1,↓D5,↓E7,↓E6,↓j3,↓V7,↓C6,↓Q5,↓T5,List.length_cons,List.length_nil,G9,Nat.zero_add,Nat.reduceLeDiff] <;> rfl) (A9l (B2z (by decide+kernel) (by decide+kernel))) (by decide) sz hoq (fun y hy=> by rw [List.mem_singleton] at hy;subst hy;exact A6z sz) (by decide) rfl B) ?_
  refine ⟨by decide,by decide,by decide,?_⟩
  refine A4t (so ⟨4,by omega,rfl⟩) (so ⟨4,by omega,rfl⟩) rfl ?_
  rw [if_neg (by decide)]
  refine B14 C1T (A0p (x:="b") (xs:=[.odd (.tup []) 0]) (fun k=> by simp only [↓D1,↓D5,↓E7,↓E6,↓j3,↓V7,↓C6,↓Q5,↓T5,List.length_cons,List.length_nil,G9,Nat.zero_add,Nat.reduceLeDiff] <;> rfl) (A9l (C1W (by decide+kernel) (by decide+kernel) (by rw [A9s];decide))) (by decide) sz hoq (fun y hy=> by rw [List.mem_singleton] at hy;subst hy;exact A6z sz) (by decide) rfl B) ?_
  refine A4t (sp ⟨4,by omega,rfl⟩) (sp ⟨4,by omega,rfl⟩) rfl ?_
  rw [if_neg (by decide)]
  refine Eq.mpr (congrArg (fun m:MC=> call m _ h7 Q E) (B3A 7 (.lst [.int 12,.int 200,.int 9]) rfl)) ?_
  rw [S8]
  exact q _
theorem law_says:∀ns:List Int,ns.length≤63→upc m_law [W.lst (ns.map .int)] (fun _=> none) (fun r _=> r= .val (.bl true)) fun _ _=> False:=fun ns h=> ⟨_,_,fun _ _ z=> z,fun _ _ z=> z,C10 h _ _ _ fun _=> rfl⟩
end Ab
namespace Ab
open PySem PySem.Spec PyProof.Rows L2 RZ
def A5X (E:AExc→A0→AH→Prop):C0:=
  (aSeq (M9 (aNotT (aTst (aChn (fun i j=> decide (i≤j)) (fun i j=> decide (i≤j)) (aC (.int 1)) (aCB G4 (F9 (aVar 0) I8)) (aC (.int 6))))) (m7 E "BadSizes" "bad sizes" ["cask"] (aCons (aFz (A3Z (aC (.int 1)))) aNil)) N7) (A7e (iEn (aFz (aVar 0))) (gTp 2 (A0w (M5 1) (A0w (M5 2) A42))) (M9 (aNotT (aTst (aChn (fun i j=> decide (i≤j)) (fun i j=> decide (i≤j)) (aC (.int 1)) (aVar 2) (aC (.int 40))))) (m7 E "BadSizes" "bad sizes" ["cask"] (aCons (aFz (aVar 1)) aNil)) N7)))
def A5s (E:AExc→A0→AH→Prop):C0:=
  (I7 (aIfE (aTst (aOp2 (V9 false) (aVar 0) (aC (.tup [.str ("over":Str),.str ("down":Str)])))) (aChn (fun i j=> decide (i≤j)) (fun i j=> decide (i≤j)) (aC (.int 4)) (aVar 1) (aOp2 oAdd (aC (.int 2)) (aVar 2))) (aOp2 (F0 false) (aVar 1) (aC (.int 3)))))
def A5w (E:AExc→A0→AH→Prop):C0:=
  (aSeq (A7e (iEn (aFz (aVar 0))) (gTp 2 (A0w (M5 3) (A0w (M5 4) A42))) (M9 (aOrT (aNotT (aTst (aChn (fun i j=> decide (i≤j)) (fun i j=> decide (i < j)) (aC (.int 0)) (aVar 4) (aVar 2)))) (aTst (aOp2 (V9 false) (aVar 4) (aSl (aVar 0) A6a (A61 (aVar 3)))))) (I7 (aOp2 oAdd (aVar 1) (aVar 3))) N7)) (I7 (aC .non)))
def A51 (E:AExc→A0→AH→Prop):C0:=
  (aSeq (M9 (aOrT (aTst (aOp2 (F0 false) (aCB G4 (F9 (aVar 1) I8)) (aC (.int 0)))) (aTst (aOp2 (V9 true) (aOp2 oIx (aVar 1) (aC (.int 0))) (aOp2 oAdd (aC (.tup [.str ("over":Str),.str ("down":Str)])) (aC (.tup [.str ("swap":Str),.str ("tap":Str),.str ("drain":Str)])))))) (I7 (aC (.int 0))) N7) (aSeq (M9 (aNotT (aTst (aCall E (upc A2B) (aCons (aFz (aOp2 oIx (aVar 1) (aC (.int 0)))) (aCons (aFz (aCB G4 (F9 (aVar 1) I8))) (aCons (aFz (aCB G4 (F9 (aVar 0) I8))) aNil)))))) (I7 (A3Z (aC (.int 1)))) N7) (aSeq (aStar 2 3 (aFz (aVar 1))) (aSeq (M9 (aTst (aOp2 (F0 false) (aVar 2) (aC (.str ("swap":Str))))) (aSeq (aFrz 3 (O2 (aFz (aCall E (upc x8) (aCons (aFz (aVar 3)) (aCons (aFz (aC (.int 1))) (aCons (aFz (aCB G4 (F9 (aVar 0) I8))) aNil))))) (M5 4))) (aSeq (M9 (aTst (aOp2 (O3 true) (aVar 4) (aC .non))) (I7 (aVar 4)) N7) (I7 (aIfE (aTst (aOp2 (F0 false) (aOp2 oIx (aVar 0) (aOp2 oIx (aVar 3) (aC (.int 0)))) (aOp2 oIx (aVar 0) (aOp2 oIx (aVar 3) (aC (.int 1)))))) (aC .non) (aC (.int 2)))))) N7) (aSeq (aFrz 3 (aStar 5 6 (aFz (aVar 3)))) (aSeq (M9 (aNotT (aTst (aChn (fun i j=> decide (i≤j)) (fun i j=> decide (i < j)) (aC (.int 0)) (aVar 5) (aC (.int 1000000000000000000000000000000))))) (I7 (aC (.int 1))) N7) (aFrz 6 (I7 (aCall E (upc x8) (aCons (aFz (aVar 6)) (aCons (aFz (aC (.int 2))) (aCons (aFz (aCB G4 (F9 (aVar 0) I8))) aNil))))))))))))
def A6A (E:AExc→A0→AH→Prop):C0:=
  (I7 (A04 (aChn (fun i j=> decide (i≤j)) (fun i j=> decide (i≤j)) (aC (.int 1)) (aCB G4 (F9 (aVar 0) I8)) (aC (.int 8))) (aCB A2l (F9 (o7 [1] (B0D (aVar 0)) (M5 1) A1k (aFz (aOp2 (oInS false) (aVar 1) (aC (.str ("abcdefghijklmnopqrstuvwxyz":Str)))))) I8))))
def A57 (E:AExc→A0→AH→Prop):C0:=
  (I7 (A04 (aOp2 oGt (aCB G4 (F9 (aVar 0) I8)) (aC (.int 0))) (aOp2 (F0 false) (aOp2 oIx (aVar 0) (aC (.int 0))) (aC (.str ("call":Str))))))
def A5m (E:AExc→A0→AH→Prop):C0:=
  (aSeq (M9 (aTst (aOp2 (F0 true) (aCB G4 (F9 (aVar 0) I8)) (aC (.int 3)))) (I7 (A3Z (aC (.int 1)))) N7) (I7 (aIfE (aTst (aChn (fun i j=> decide (i≤j)) (fun i j=> decide (i≤j)) (aC (.int 0)) (aOp2 oIx (aVar 0) (aC (.int 2))) (aC (.int 9)))) (aC .non) (aC (.int 2)))))
def A5u (E:AExc→A0→AH→Prop):C0:=
  (I7 (aLst (aCons (aFz (aCB Q7 (F9 (aSl (aVar 0) A6a (A61 (aC (.int 63)))) I8))) (aCons (aFz (aC (.int 0))) (aCons (aFz (aC (.int 0))) (aCons (aFz (aC (.int 9465))) (aCons (aFz (aC (.int 0))) aNil)))))))
def A5t (E:AExc→A0→AH→Prop):C0:=
  (aSeq (M9 (aAndT (aTst (aOp2 oLt (aOp2 oIx (aVar 0) (aC (.int 2))) (aVar 1))) (aTst (aOp2 oLt (aOp2 oIx (aVar 0) (aC (.int 1))) (aCB G4 (F9 (aOp2 oIx (aVar 0) (aC (.int 0))) I8))))) (aSeq (O2 (aFz (aOp2 oIx (aOp2 oIx (aVar 0) (aC (.int 0))) (aOp2 oIx (aVar 0) (aC (.int 1))))) (M5 2)) (aSeq (O2 (aFz (aOp2 oAdd (aOp2 oIx (aVar 0) (aC (.int 1))) (aC (.int 1)))) (A1E (aVar 0) (aC (.int 1)))) (aSeq (O2 (aFz (aC (.int 0))) (A1E (aVar 0) (aC (.int 2)))) (M9 (aTst (aOp2 oGe (aVar 2) (aOp2 A7W (aC (.int 10)) (aC (.int 18))))) (O2 (aFz (aVar 2)) (A1E (aVar 0) (aC (.int 2)))) (O2 (aFz (aOp2 T6 (aOp2 oAdd (aOp2 oAdd (aOp2 oMulT (aOp2 oIx (aVar 0) (aC (.int 3))) (aC (.int 48271))) (aOp2 oMulT (aOp2 T6 (aVar 2) (aC (.int 2147483629))) (aC (.int 69621)))) (aC (.int 12345))) (aC (.int 2147483647)))) (A1E (aVar 0) (aC (.int 3)))))))) N7) (aSeq (M9 (aTst (aOp2 oGe (aOp2 oIx (aVar 0) (aC (.int 2))) (aVar 1))) (aSeq (O2 (aFz (aOp2 T6 (aOp2 oIx (aVar 0) (aC (.int 2))) (aVar 1))) (M5 3)) (aSeq (O2 (aFz (aOp2 A1e (aOp2 oIx (aVar 0) (aC (.int 2))) (aVar 1))) (A1E (aVar 0) (aC (.int 2)))) (I7 (aVar 3)))) N7) (aSeq (O2 (aFz (aOp2 oAdd (aOp2 oIx (aVar 0) (aC (.int 4))) (aC (.int 1)))) (A1E (aVar 0) (aC (.int 4)))) (aSeq (O2 (aFz (aOp2 oIx (aVar 0) (aC (.int 3)))) (M5 4)) (aSeq (O2 (aFz (aOp2 T6 (aOp2 oAdd (aOp2 oAdd (aOp2 oAdd (aOp2 oMulT (aOp2 T6 (aOp2 oMulT (aVar 4) (aVar 4)) (aC (.int 2147483629))) (aC (.int 5))) (aOp2 oMulT (aVar 4) (aC (.int 16811)))) (aOp2 oMulT (aC (.int 7919)) (aOp2 oIx (aVar 0) (aC (.int 4))))) (aC (.int 2531011))) (aC (.int 2147483647)))) (A1E (aVar 0) (aC (.int 3)))) (I7 (aOp2 T6 (aOp2 oAdd (aOp2 A1e (aOp2 oIx (aVar 0) (aC (.int 3))) (aC (.int 61))) (aOp2 oMulT (aOp2 T6 (aOp2 oIx (aVar 0) (aC (.int 3))) (aC (.int 8191))) (aC (.int 31)))) (aVar 1))))))))
def A5o (E:AExc→A0→AH→Prop):C0:=
  (I7 (aOp2 oIx (aVar 1) (aCall E (upc U4) (aCons (aFz (aVar 0)) (aCons (aFz (aCB G4 (F9 (aVar 1) I8))) aNil)))))
def A5q (d:Nat) (E:AExc→A0→AH→Prop):C0:=
  (aSeq (M9 (aTst (aOp2 (O3 false) (aVar 1) (aC .non))) (I7 (aOp2 (O3 false) (aVar 0) (aC .non))) N7) (aSeq (M9 (aTst (aCB F4 (F9 (aVar 1) (F9 (aC (.ty "bool")) I8)))) (I7 (A04 (aCB F4 (F9 (aVar 0) (F9 (aC (.ty "bool")) I8))) (aOp2 (F0 false) (aVar 0) (aVar 1)))) N7) (aSeq (M9 (aTst (aCB F4 (F9 (aVar 1) (F9 (aC (.ty "int")) I8)))) (I7 (A04 (aCB F4 (F9 (aVar 0) (F9 (aC (.ty "int")) I8))) (A04 (A9u (aCB F4 (F9 (aVar 0) (F9 (aC (.ty "bool")) I8)))) (aOp2 (F0 false) (aVar 0) (aVar 1))))) N7) (aSeq (M9 (aTst (aCB F4 (F9 (aVar 1) (F9 (aC (.ty "str")) I8)))) (I7 (A04 (aCB F4 (F9 (aVar 0) (F9 (aC (.ty "str")) I8))) (aOp2 (F0 false) (aVar 0) (aVar 1)))) N7) (aSeq (M9 (aOrT (aTst (aOp2 (F0 true) (aCB F4 (F9 (aVar 1) (F9 (aC (.ty "tuple")) I8))) (aCB F4 (F9 (aVar 0) (F9 (aC (.ty "tuple")) I8))))) (aTst (aOp2 (F0 true) (aCB F4 (F9 (aVar 1) (F9 (aC (.ty "list")) I8))) (aCB F4 (F9 (aVar 0) (F9 (aC (.ty "list")) I8)))))) (I7 (aC (.bl false))) N7) (aSeq (M9 (aTst (aOp2 (F0 true) (aCB G4 (F9 (aVar 0) I8)) (aCB G4 (F9 (aVar 1) I8)))) (I7 (aC (.bl false))) N7) (I7 (aCB A2l (F9 (o7 [2] (A7k (F9 (aCB G4 (F9 (aVar 1) I8)) I8)) (M5 2) A1k (aFz (aCall E0 (upc (m__law_same d)) (aCons (aFz (aOp2 oIx (aVar 0) (aVar 2))) (aCons (aFz (aOp2 oIx (aVar 1) (aVar 2))) aNil))))) I8)))))))))
def A2t (fl:Addr) (sp:B8) (E:AExc→A0→AH→Prop):C0:=
  (aSeq (O2 (aFz (aC .non)) (M5 1)) (aSeq (O2 (aFz (aC (.str ("":Str)))) (M5 2)) (aSeq (A45 ["BadName","BadRow","BadSizes","InUse","NoRound","NothingLeft","Taken","TooLong","TooMany"] [("HideError",3,2,(E4 "word")),("Missing",3,2,(E4 "word")),("NothingLeft",3,2,(E4 "word"))] E (fun E=> (O2 (aFz (A7i E 0 fl sp aNil)) (M5 1)))) (I7 (aTup (aCons (aFz (aVar 1)) (aCons (aFz (aVar 2)) aNil)))))))
def A5j (E:AExc→A0→AH→Prop):C0:=
  (I7 (aCB d0 (F9 (o7 [3] (A7k (F9 (aOp2 oAdd (aC (.int 1)) (aCall E (upc U4) (aCons (aFz (aVar 0)) (aCons (aFz (aVar 1)) aNil)))) I8)) (M5 3) A1k (aFz (aOp2 oAdd (aC (.int 1)) (aCall E0 (upc U4) (aCons (aFz (aVar 0)) (aCons (aFz (aVar 2)) aNil)))))) I8)))
def A5V (E:AExc→A0→AH→Prop):C0:=
  (I7 (aCall E (upc A17) (aCons (aFz (aVar 0)) (aCons (aFz (aC (.int 6))) (aCons (aFz (aCall E (upc A19) (aCons (aFz (aVar 0)) (aCons (aFz (aLst (aCons (aFz (aC (.int 40))) (aCons (aFz (aC (.int 9))) (aCons (aFz (aC (.int 4))) (aCons (aFz (aC (.int 2))) aNil)))))) aNil)))) aNil)))))
def A1w (fl:Addr) (sp:B8) (E:AExc→A0→AH→Prop):C0:=
  (aSeq (O2 (aFz (aTup (aCons (aFz (aC (.str ("":Str)))) (aCons (aFz (aC .non)) aNil)))) (M5 1)) (aSeq (A45 ["BadName","BadRow","BadSizes","InUse","NoRound","NothingLeft","Taken","TooLong","TooMany"] [("BadRow",2,1,(O4 (F3 (E4 "word") (F3 (O4 (F3 (E4 "step") (F3 (E4 "place") O5))) O5)))),("InUse",2,1,(O4 (F3 (E4 "word") (F3 (E4 "name") O5)))),("NoRound",2,1,(O4 (F3 (E4 "word") (F3 (E4 "name") O5)))),("Taken",2,1,(O4 (F3 (E4 "word") (F3 (E4 "name") O5)))),("TooLong",2,1,(O4 (F3 (E4 "word") (F3 (E4 "most") O5)))),("TooMany",2,1,(O4 (F3 (E4 "word") (F3 (E4 "most") O5))))] E (fun E=> (V1 (A7i E 0 fl sp aNil)))) (I7 (aVar 1))))
def A5Q (E:AExc→A0→AH→Prop):C0:=
  (aSeq (M9 (aNotT (aTst (aCall E (upc A2D) (aCons (aFz (aVar 1)) aNil)))) (m7 E "BadName" "bad name" [] aNil) N7) (aSeq (M9 (aTst (aInM false (aFz (aVar 1)) (aFld "Book" "written" (aVar 0)))) (m7 E "Taken" "taken" ["name"] (aCons (aFz (aVar 1)) aNil)) N7) (M9 (aTst (aOp2 oGe (aCB u6 (F9 (aFld "Book" "written" (aVar 0)) I8)) (aC (.int 12)))) (m7 E "TooMany" "too many" ["most"] (aCons (aFz (aC (.int 12))) aNil)) N7)))
def A5S (E:AExc→A0→AH→Prop):C0:=
  (aSeq (A5B 2 (aLst aNil)) (aSeq (A7E (iLive (aVar 1)) (M5 3) (M9 (aTst (aCall E (upc N1) (aCons (aFz (aVar 3)) aNil))) (V1 (aExt (aVar 2) (aOp2 oMulX (aGetM (aFld "Book" "laid" (aVar 0)) (aFz (aOp2 oIx (aVar 3) (aC (.int 1))))) (aOp2 oIx (aVar 3) (aC (.int 2)))))) (V1 (aLm k9 (aVar 2) (aCons (aFz (aVar 3)) aNil))))) (I7 (aVar 2))))
def A5T (E:AExc→A0→AH→Prop):C0:=
  (aSeq (M9 (aTst (aInM true (aFz (aVar 1)) (aFld "Book" "written" (aVar 0)))) (m7 E "NoRound" "no round" ["name"] (aCons (aFz (aVar 1)) aNil)) N7) (I7 (aGetM (aFld "Book" "written" (aVar 0)) (aFz (aVar 1)))))
def A5P (E:AExc→A0→AH→Prop):C0:=
  (aSeq (O2 (aFz (aIfE (aTst (aCall E (upc N1) (aCons (aFz (aVar 2)) aNil))) (aCall E (upc A0k) (aCons (aFz (aVar 2)) aNil)) (aCall E (upc q9) (aCons (aFz (aFld "Book" "casks" (aVar 0))) (aCons (aFz (aVar 2)) aNil))))) (M5 3)) (aSeq (M9 (aTst (aOp2 (O3 true) (aVar 3) (aC .non))) (m7 E "BadRow" "bad row" ["step","place"] (aCons (aFz (aVar 1)) (aCons (aFz (aVar 3)) aNil))) N7) (M9 (aTst (aCall E (upc N1) (aCons (aFz (aVar 2)) aNil))) (V1 (aMeth "Book" "there" E (upc P6) (aVar 0) (aCons (aFz (aOp2 oIx (aVar 2) (aC (.int 1)))) aNil))) N7)))
def A5b (E:AExc→A0→AH→Prop):C0:=
  (I7 (aCB o0 (F9 (A44 [2] (iLive (aVar 1)) (M5 2) A1k (aFz (aIfE (aTst (aCall E0 (upc N1) (aCons (aFz (aVar 2)) aNil))) (aOp2 oMulT (aOp2 oIx (aVar 2) (aC (.int 2))) (aCB G4 (F9 (aGetM (aFld "Book" "laid" (aVar 0)) (aFz (aOp2 oIx (aVar 2) (aC (.int 1))))) I8))) (aC (.int 1))))) I8)))
def A5W (E:AExc→A0→AH→Prop):C0:=
  (aSeq (V1 (aMeth "Book" "look_new" E (upc A1O) (aVar 0) (aCons (aFz (aVar 1)) aNil))) (aSeq (A7E (iLvE (aVar 2)) (gTp 2 (A0w (M5 3) (A0w (M5 4) A42))) (V1 (aMeth "Book" "look_step" E (upc A1N) (aVar 0) (aCons (aFz (aVar 3)) (aCons (aFz (aVar 4)) aNil))))) (aSeq (M9 (aTst (aOp2 oGt (aMeth "Book" "length" E (upc A1R) (aVar 0) (aCons (aFz (aVar 2)) aNil)) (aC (.int 200)))) (m7 E "TooLong" "too long" ["most"] (aCons (aFz (aC (.int 200))) aNil)) N7) (aSeq (A7P (aFz (aCB Q7 (F9 (aVar 2) I8))) (aFld "Book" "written" (aVar 0)) (aFz (aVar 1))) (A7P (aFz (aMeth "Book" "laid_out" E (upc A1P) (aVar 0) (aCons (aFz (aVar 2)) aNil))) (aFld "Book" "laid" (aVar 0)) (aFz (aVar 1)))))))
def A5Z (E:AExc→A0→AH→Prop):C0:=
  (aSeq (V1 (aMeth "Book" "there" E (upc P6) (aVar 0) (aCons (aFz (aVar 1)) aNil))) (aSeq (A5B 2 (aLst aNil)) (aSeq (A9e 0 "Book" "written" 3 4 (M9 (aTst (aCB B0H (F9 (o7 [5] (iSq (aFz (aVar 4))) (M5 5) A1k (aFz (A04 (aCall E0 (upc N1) (aCons (aFz (aVar 5)) aNil)) (aOp2 (F0 false) (aOp2 oIx (aVar 5) (aC (.int 1))) (aVar 1))))) I8))) (V1 (aLm k9 (aVar 2) (aCons (aFz (aVar 3)) aNil))) N7)) (I7 (aVar 2)))))
def A5n (E:AExc→A0→AH→Prop):C0:=
  (aSeq (O2 (aFz (aMeth "Book" "callers" E (upc Z7) (aVar 0) (aCons (aFz (aVar 1)) aNil))) (M5 2)) (aSeq (M9 (aTst (aOp2 (F0 true) (aVar 2) (aLst aNil))) (m7 E "InUse" "in use" ["name"] (aCons (aFz (aOp2 oIx (aVar 2) (aC (.int 0)))) aNil)) N7) (aSeq (A7K (aFld "Book" "written" (aVar 0)) (aFz (aVar 1))) (A7K (aFld "Book" "laid" (aVar 0)) (aFz (aVar 1))))))
def A5R (E:AExc→A0→AH→Prop):C0:=
  (I7 (aCB Q7 (F9 (aMeth "Book" "there" E (upc P6) (aVar 0) (aCons (aFz (aVar 1)) aNil)) I8)))
def A5k (E:AExc→A0→AH→Prop):C0:=
  (aSeq (V1 (aMeth "Book" "there" E (upc P6) (aVar 0) (aCons (aFz (aVar 1)) aNil))) (I7 (aCB Q7 (F9 (aGetM (aFld "Book" "laid" (aVar 0)) (aFz (aVar 1))) I8))))
def A32:ARS:=
  (B5R (O2 (aFz (aOp2 oAdd (aOp2 oMulT (aLst (aCons (aFz (aTup (aCons (aFz (aC (.str ("call":Str)))) (aCons (aFz (aC (.str ("ab":Str)))) (aCons (aFz (aC (.int 9))) aNil))))) aNil)) (aC (.int 2))) (aLst (aCons (aFz (aTup (aCons (aFz (aC (.str ("call":Str)))) (aCons (aFz (aC (.str ("a":Str)))) (aCons (aFz (aC (.int 2))) aNil))))) aNil)))) (M5 2)) (A9x 3 [fun E=> (aMeth "Book" "write" E (upc G8) (aVar 0) (aCons (aFz (aC (.str ("a":Str)))) (aCons (aFz (aLst (aCons (aFz (aTup aNil)) aNil))) aNil))),fun E=> (aMeth "Book" "write" E (upc G8) (aVar 0) (aCons (aFz (aC (.str ("abcdefgh":Str)))) (aCons (aFz (aLst (aCons (aFz (aTup (aCons (aFz (aC (.str ("drain":Str)))) (aCons (aFz (aC (.int 1))) (aCons (aFz (aC (.int 0))) aNil))))) (aCons (aFz (aTup (aCons (aFz (aC (.str ("call":Str)))) (aCons (aFz (aVar 1)) (aCons (aFz (aC (.int 1))) aNil))))) aNil)))) aNil))),fun E=> (aMeth "Book" "write" E (upc G8) (aVar 0) (aCons (aFz (aC (.str ("b":Str)))) (aCons (aFz (aLst (aCons (aFz (aTup (aCons (aFz (aC (.str ("call":Str)))) (aCons (aFz (aVar 1)) (aCons (aFz (aC (.int 10))) aNil))))) (aCons (aFz (aTup (aCons (aFz (aC (.str ("call":Str)))) (aCons (aFz (aVar 1)) (aCons (aFz (aC (.int 1))) aNil))))) aNil)))) aNil))),fun E=> (aMeth "Book" "write" E (upc G8) (aVar 0) (aCons (aFz (aC (.str ("b":Str)))) (aCons (aFz (aOp2 oAdd (aLst (aCons (aFz (aTup (aCons (aFz (aC (.str ("drain":Str)))) (aCons (aFz (aC (.int 1))) (aCons (aFz (aC (.int 0))) aNil))))) (aCons (aFz (aTup (aCons (aFz (aC (.str ("drain":Str)))) (aCons (aFz (aC (.int 1))) (aCons (aFz (aC (.int 9))) aNil))))) aNil))) (aOp2 oMulX (aVar 2) (aC (.int 9))))) aNil))),fun E=> (aMeth "Book" "write" E (upc G8) (aVar 0) (aCons (aFz (aC (.str ("b":Str)))) (aCons (aFz (aLst (aCons (aFz (aTup (aCons (aFz (aC (.str ("call":Str)))) (aCons (aFz (aC (.str ("a":Str)))) aNil)))) aNil))) aNil))),fun E=> (aMeth "Book" "write" E (upc G8) (aVar 0) (aCons (aFz (aC (.str ("b":Str)))) (aCons (aFz (aOp2 oAdd (aVar 2) (aLst (aCons (aFz (aTup (aCons (aFz (aC (.str ("drain":Str)))) (aCons (aFz (aC (.int 1))) (aCons (aFz (aC (.int 0))) aNil))))) aNil)))) aNil))),fun E=> (aMeth "Book" "drop" E (upc V6) (aVar 0) (aCons (aFz (aC (.str ("a":Str)))) aNil)),fun E=> (aMeth "Book" "drop" E (upc V6) (aVar 0) (aCons (aFz (aVar 1)) aNil)),fun E=> (aMeth "Book" "steps" E (upc Q3) (aVar 0) (aCons (aFz (aVar 1)) aNil)),fun E=> (aMeth "Book" "flat" E (upc R3) (aVar 0) (aCons (aFz (aVar 1)) aNil)),fun E=> (aMeth "Book" "callers" E (upc Z7) (aVar 0) (aCons (aFz (aVar 1)) aNil))]))
def A5U (E:AExc→A0→AH→Prop):C0:=
  (aSeq (V1 (aCall E (upc A1v) (aCons (aFz (aVar 1)) aNil))) (aSeq (O2 (aFz (aVar 1)) (A46 "Book" "casks" (aVar 0))) (aSeq (O2 (aPrm A6m) (A46 "Book" "written" (aVar 0))) (O2 (aPrm A6m) (A46 "Book" "laid" (aVar 0))))))
def A5f (E:AExc→A0→AH→Prop):C0:=
  (I7 (aCB A0u (F9 (aFld "Book" "written" (aVar 0)) I8)))
def A5a (E:AExc→A0→AH→Prop):C0:=
  (I7 (aCB u6 (F9 (aFld "Book" "written" (aVar 0)) I8)))
def A7H (E:AExc→A0→AH→Prop):C0:=
  (aSeq (A5B 1 (aCall E (upc A18) (aCons (aFz (aVar 0)) aNil))) (aSeq (A3N 1 (O2 (aFz (aCall E (upc A1t) (aCons (aFz (aVar 1)) aNil))) (M5 2))) (aSeq (O2 (aFz (aOp2 oMulX (aC (.str ("z":Str))) (aOp2 oAdd (aC (.int 1)) (aCall E (upc U4) (aCons (aFz (aVar 1)) (aCons (aFz (aC (.int 7))) aNil)))))) (M5 3)) (aSeq (O2 (aFz (aMake "Book" E (upc A1u) (aCons (aFz (aVar 2)) aNil))) (M5 4)) (aSeq (V1 (aMeth "Book" "write" E (upc G8) (aVar 4) (aCons (aFz (aC (.str ("a":Str)))) (aCons (aFz (aOp2 oMulT (aLst (aCons (aFz (aTup (aCons (aFz (aC (.str ("drain":Str)))) (aCons (aFz (aC (.int 1))) (aCons (aFz (aC (.int 0))) aNil))))) aNil)) (aC (.int 10)))) aNil)))) (aSeq (V1 (aMeth "Book" "write" E (upc G8) (aVar 4) (aCons (aFz (aC (.str ("ab":Str)))) (aCons (aFz (aLst (aCons (aFz (aTup (aCons (aFz (aC (.str ("call":Str)))) (aCons (aFz (aC (.str ("a":Str)))) (aCons (aFz (aC (.int 1))) aNil))))) aNil))) aNil)))) (aSeq (O2 (aFz (aLst (aCons (aFz (aMeth "Book" "names" E (upc p9) (aVar 4) aNil)) (aCons (aFz (aMeth "Book" "steps" E (upc Q3) (aVar 4) (aCons (aFz (aC (.str ("a":Str)))) aNil))) (aCons (aFz (aMeth "Book" "steps" E (upc Q3) (aVar 4) (aCons (aFz (aC (.str ("ab":Str)))) aNil))) (aCons (aFz (aMeth "Book" "flat" E (upc R3) (aVar 4) (aCons (aFz (aC (.str ("ab":Str)))) aNil))) aNil)))))) (M5 5)) (aSeq (O2 (aFz (aLst (aCons (aFz (aTup (aCons (aFz (aC (.str ("taken":Str)))) (aCons (aFz (aC (.str ("a":Str)))) aNil)))) (aCons (aFz (aTup (aCons (aFz (aC (.str ("no round":Str)))) (aCons (aFz (aVar 3)) aNil)))) (aCons (aFz (aTup (aCons (aFz (aC (.str ("bad row":Str)))) (aCons (aFz (aTup (aCons (aFz (aC (.int 0))) (aCons (aFz (aC (.int 2))) aNil)))) aNil)))) (aCons (aFz (aTup (aCons (aFz (aC (.str ("bad row":Str)))) (aCons (aFz (aTup (aCons (aFz (aC (.int 1))) (aCons (aFz (aC (.int 2))) aNil)))) aNil)))) (aCons (aFz (aTup (aCons (aFz (aC (.str ("bad row":Str)))) (aCons (aFz (aTup (aCons (aFz (aC (.int 0))) (aCons (aFz (A3Z (aC (.int 1)))) aNil)))) aNil)))) aNil))))))) (M5 6)) (aSeq (O2 (aFz (aOp2 oAdd (aOp2 oAdd (aVar 6) (aLst (aCons (aFz (aTup (aCons (aFz (aC (.str ("too long":Str)))) (aCons (aFz (aC (.int 200))) aNil)))) (aCons (aFz (aTup (aCons (aFz (aC (.str ("in use":Str)))) (aCons (aFz (aC (.str ("ab":Str)))) aNil)))) aNil)))) (aOp2 oMulT (aLst (aCons (aFz (aTup (aCons (aFz (aC (.str ("no round":Str)))) (aCons (aFz (aVar 3)) aNil)))) aNil)) (aC (.int 4))))) (M5 6)) (aSeq (M9 (aNotT (aTst (aCall E (upc (m__law_same 8)) (aCons (aFz (A7a [7] 7 (aAk (A0c A1y) (aCons (aFz (aVar 4)) (aCons (aFz (aVar 3)) aNil))) (fun fa_ sp_=> (aFz (B0G E0 3 A1w 7 fa_ sp_))))) (aCons (aFz (aVar 6)) aNil))))) (I7 (aC (.bl false))) N7) (aSeq (M9 (aTst (aOp2 (F0 true) (aLst (aCons (aFz (aMeth "Book" "names" E (upc p9) (aVar 4) aNil)) (aCons (aFz (aMeth "Book" "steps" E (upc Q3) (aVar 4) (aCons (aFz (aC (.str ("a":Str)))) aNil))) (aCons (aFz (aMeth "Book" "steps" E (upc Q3) (aVar 4) (aCons (aFz (aC (.str ("ab":Str)))) aNil))) (aCons (aFz (aMeth "Book" "flat" E (upc R3) (aVar 4) (aCons (aFz (aC (.str ("ab":Str)))) aNil))) aNil))))) (aVar 5))) (I7 (aC (.bl false))) N7) (aSeq (V1 (aMeth "Book" "write" E (upc G8) (aVar 4) (aCons (aFz (aC (.str ("abc":Str)))) (aCons (aFz (aLst (aCons (aFz (aTup (aCons (aFz (aC (.str ("call":Str)))) (aCons (aFz (aC (.str ("ab":Str)))) (aCons (aFz (aC (.int 9))) aNil))))) (aCons (aFz (aTup (aCons (aFz (aC (.str ("call":Str)))) (aCons (aFz (aC (.str ("ab":Str)))) (aCons (aFz (aC (.int 9))) aNil))))) (aCons (aFz (aTup (aCons (aFz (aC (.str ("call":Str)))) (aCons (aFz (aC (.str ("a":Str)))) (aCons (aFz (aC (.int 2))) aNil))))) aNil))))) aNil)))) (aSeq (M9 (aOrT (aTst (aOp2 (F0 true) (aCB G4 (F9 (aMeth "Book" "flat" E (upc R3) (aVar 4) (aCons (aFz (aC (.str ("abc":Str)))) aNil)) I8)) (aC (.int 200)))) (aTst (aOp2 (F0 true) (A2G E 1 3 A1w (fun E=> (aMeth "Book" "drop" E (upc V6) (aVar 4) (aCons (aFz (aC (.str ("a":Str)))) aNil))) (A2E aNil)) (aTup (aCons (aFz (aC (.str ("in use":Str)))) (aCons (aFz (aC (.str ("ab":Str)))) aNil)))))) (I7 (aC (.bl false))) N7) (aSeq (A9W (aTst (aOp2 oLt (aOwn "Book" (upc o8) A1j (aVar 4)) (aC (.int 12)))) (V1 (aMeth "Book" "write" E (upc G8) (aVar 4) (aCons (aFz (aOp2 oAdd (aC (.str ("q":Str))) (aOp2 oIx (aC (.str ("abcdefghijkl":Str))) (aOwn "Book" (upc o8) A1j (aVar 4))))) (aCons (aFz (aLst aNil)) aNil))))) (aSeq (A9a 8 (o7 [9] (iSq (aFz (aLst (aCons (aFz (aC (.str ("":Str)))) (aCons (aFz (aC (.str ("A":Str)))) (aCons (aFz (aC (.str ("a b":Str)))) (aCons (aFz (aC (.str ("abcdefghi":Str)))) aNil))))))) (M5 9) A1k (aFz (aOp2 oIx (A2G E0 1 4 A2t (fun E=> (aMeth "Book" "write" E (upc G8) (aVar 4) (aCons (aFz (aVar 9)) (aCons (aFz (aLst (aCons (aFz (aTup aNil)) aNil))) aNil)))) (A2E aNil)) (aC (.int 1)))))) (aSeq (V1 (aLm k9 (aVar 8) (aCons (aFz (aOp2 oIx (A2G E 1 4 A2t (fun E=> (aMeth "Book" "write" E (upc G8) (aVar 4) (aCons (aFz (aC (.str ("a":Str)))) (aCons (aFz (aLst (aCons (aFz (aTup aNil)) aNil))) aNil)))) (A2E aNil)) (aC (.int 1)))) aNil))) (aSeq (M9 (aOrT (aTst (aOp2 (F0 true) (aVar 8) (aOp2 oAdd (aOp2 oMulT (aLst (aCons (aFz (aC (.str ("bad name":Str)))) aNil)) (aC (.int 4))) (aLst (aCons (aFz (aC (.str ("taken":Str)))) aNil))))) (aTst (aOp2 (F0 true) (A2G E 1 3 A1w (fun E=> (aMeth "Book" "write" E (upc G8) (aVar 4) (aCons (aFz (aC (.str ("b":Str)))) (aCons (aFz (aLst (aCons (aFz (aTup aNil)) aNil))) aNil)))) (A2E aNil)) (aTup (aCons (aFz (aC (.str ("too many":Str)))) (aCons (aFz (aC (.int 12))) aNil)))))) (I7 (aC (.bl false))) N7) (I7 (aCall E (upc (m__law_same 8)) (aCons (aFz (aLst (aCons (aFz (aC (.int 12))) (aCons (aFz (aC (.int 200))) (aCons (aFz (aC (.int 9))) aNil))))) (aCons (aFz (aLst (aCons (aFz (aC (.int 12))) (aCons (aFz (aC (.int 200))) (aCons (aFz (aC (.int 9))) aNil))))) aNil)))))))))))))))))))))
theorem B6n {Q:RR→AH→Prop} {E:AExc→AH→Prop} {Q':RR→AH→Prop} {E':AExc→AH→Prop} (hQ:∀r h,Q r h→Q' r h) (hE:∀x h,E x h→E' x h) (x_sizes:W):∀h,A3u x_sizes h Q E→A5X (C7 E') (C2 Q') [some (.val x_sizes),none,none] h:=by
  have hr_:=P3 hQ
  have he:=O9 hE
  unfold A3u A5X
  exact (D9 (N4 (A2a (I5 (SN.se (A2P (SN.se A6) (SN.se (L0 X9 (G3 (SN.se (A8 rfl)) K7))) (SN.se A6))))) (A0q (he _) (A7 (A4 (A6o (SN.se A6))) B6)) (P5 (E3 (B4k (fun (s10:Unit) (j11:Option SV×Option SV)=> [some (.val x_sizes),j11.1,j11.2]) () (none,none) rfl (B28 (A4 (A8 rfl))) (fun s10 j11=> (A2Q hQ _)) (fun R18 w15 s10 j11 kn12 _ N14 h z=> by obtain ⟨x_cask,x_size,rfl,z17⟩:=A9B z;refine A6v [some (.val x_sizes),some (.val x_cask),some (.val x_size)] (B0V i8 i8) rfl h _ ?_;exact A66 h z17 (N4 (A2a (I5 (SN.se (A2P (SN.se A6) (SN.se (A8 rfl)) (SN.se A6))))) (A0q (he _) (A7 (A4 (A8 rfl)) B6)) (P5 (fun h z=> N14 () (some (.val x_cask),some (.val x_size)) h z)))))))))
theorem B6j (ws:List W) (h:AH) (Qa:RR→AH→Prop) (Ea:AExc→AH→Prop) (hl:ws.length=1) (z:upc A1v ws h Qa Ea):A5X (C7 Ea) (C2 Qa) (F8 3 ws) h:=by
  obtain ⟨Q0,E0,hQ,hE,z⟩:=z
  match ws,hl with
  | [x_sizes],_=> exact B6n hQ hE x_sizes h z
theorem B7e {Q:RR→AH→Prop} {E:AExc→AH→Prop} {Q':RR→AH→Prop} {E':AExc→AH→Prop} (hQ:∀r h,Q r h→Q' r h) (hE:∀x h,E x h→E' x h) (x_word x_many x_casks:W):∀h,A4D x_word x_many x_casks h Q E→A5s (C7 E') (C2 Q') [some (.val x_word),some (.val x_many),some (.val x_casks)] h:=by
  have hr_:=P3 hQ
  generalize C2 Q'=D0 at hr_ ⊢
  obtain ⟨nx0,rt0,bk0,ct0⟩:=D0
  have hr_:∀r s env h,Rl env r s→Q s.rr h→rt0 r env h:=hr_
  have he:=O9 hE
  unfold A4D A5s
  exact (K8 hr_ (SN.se (A40 (I5 (SN.se (B9 A9j (SN.se (A8 rfl)) (SN.se A6)))) (A2P (SN.se A6) (SN.se (A8 rfl)) (SN.se (B9 T3 (SN.se A6) (SN.se (A8 rfl))))) (B9 V0 (SN.se (A8 rfl)) (SN.se A6)))))
theorem B7X (ws:List W) (h:AH) (Qa:RR→AH→Prop) (Ea:AExc→AH→Prop) (hl:ws.length=3) (z:upc A2B ws h Qa Ea):A5s (C7 Ea) (C2 Qa) (F8 3 ws) h:=by
  obtain ⟨Q0,E0,hQ,hE,z⟩:=z
  match ws,hl with
  | [x_word,x_many,x_casks],_=> exact B7e hQ hE x_word x_many x_casks h z
theorem B74 {Q:RR→AH→Prop} {E:AExc→AH→Prop} {Q':RR→AH→Prop} {E':AExc→AH→Prop} (hQ:∀r h,Q r h→Q' r h) (hE:∀x h,E x h→E' x h) (x_things x_start x_casks:W):∀h,A4F x_things x_start x_casks h Q E→A5w (C7 E') (C2 Q') [some (.val x_things),some (.val x_start),some (.val x_casks),none,none] h:=by
  have hr_:=P3 hQ
  generalize C2 Q'=D0 at hr_ ⊢
  obtain ⟨nx0,rt0,bk0,ct0⟩:=D0
  have hr_:∀r s env h,Rl env r s→Q s.rr h→rt0 r env h:=hr_
  have he:=O9 hE
  unfold A4F A5w
  exact (D9 (B4k (fun (s19:Unit) (j20:Option SV×Option SV)=> [some (.val x_things),some (.val x_start),some (.val x_casks),j20.1,j20.2]) () (none,none) rfl (B28 (A4 (A8 rfl))) (fun s19 j20=> (E3 (K8 hr_ (SN.se A6)))) (fun R27 w24 s19 j20 kn21 _ N23 h z=> by obtain ⟨x_at,x_cask,rfl,z26⟩:=A9B z;refine A6v [some (.val x_things),some (.val x_start),some (.val x_casks),some (.val x_at),some (.val x_cask)] (B0V i8 i8) rfl h _ ?_;exact A66 h z26 (N4 (A4r (A2a (I5 (SN.se (A2P (SN.se A6) (SN.se (A8 rfl)) (SN.se (A8 rfl)))))) (I5 (SN.se (B9 A9j (SN.se (A8 rfl)) (SN.se (B4q (SN.se (A8 rfl)) B4y (B3w (SN.se (A8 rfl))))))))) (K8 hr_ (SN.se (B9 T3 (SN.se (A8 rfl)) (SN.se (A8 rfl))))) (P5 (fun h z=> N23 () (some (.val x_at),some (.val x_cask)) h z))))))
theorem B7p (ws:List W) (h:AH) (Qa:RR→AH→Prop) (Ea:AExc→AH→Prop) (hl:ws.length=3) (z:upc x8 ws h Qa Ea):A5w (C7 Ea) (C2 Qa) (F8 5 ws) h:=by
  obtain ⟨Q0,E0,hQ,hE,z⟩:=z
  match ws,hl with
  | [x_things,x_start,x_casks],_=> exact B74 hQ hE x_things x_start x_casks h z
theorem B8I {Q:RR→AH→Prop} {E:AExc→AH→Prop} {Q':RR→AH→Prop} {E':AExc→AH→Prop} (hQ:∀r h,Q r h→Q' r h) (hE:∀x h,E x h→E' x h) (x_sizes x_deed:W):∀h,A0l x_sizes x_deed h Q E→A51 (C7 E') (C2 Q') [some (.val x_sizes),some (.val x_deed),none,none,none,none,none] h:=by
  have hr_:=P3 hQ
  generalize C2 Q'=D0 at hr_ ⊢
  obtain ⟨nx0,rt0,bk0,ct0⟩:=D0
  have hr_:∀r s env h,Rl env r s→Q s.rr h→rt0 r env h:=hr_
  have he:=O9 hE
  unfold A0l A51
  exact (D9 (N4 (A4r (I5 (SN.se (B9 V0 (SN.se (L0 X9 (G3 (SN.se (A8 rfl)) K7))) (SN.se A6)))) (I5 (SN.se (B9 A9j (SN.se (B9 M0 (SN.se (A8 rfl)) (SN.se A6))) (SN.se (B9 T3 (SN.se A6) (SN.se A6))))))) (K8 hr_ (SN.se A6)) (P5 (E3 (D9 (N4 (A2a (I5 (SN.se (U6 (he _) (A7 (A4 (B9 M0 (SN.se (A8 rfl)) (SN.se A6))) (A7 (A4 (L0 X9 (G3 (SN.se (A8 rfl)) K7))) (A7 (A4 (L0 X9 (G3 (SN.se (A8 rfl)) K7))) B6))))))) (K8 hr_ (SN.se (A6o (SN.se A6)))) (P5 (E3 (D9 (B3k (fun x_word x_things=> [some (.val x_sizes),some (.val x_deed),some (.val x_word),some x_things,none,none,none]) (fun _ _=> rfl) (A4 (A8 rfl)) (fun x_word x_things=> (E3 (D9 (N4 (I5 (SN.se (B9 V0 (SN.se (A8 rfl)) (SN.se A6)))) (D9 (A9X [some (.val x_sizes),some (.val x_deed),some (.val x_word),some (.val (SV.fz x_things)),none,none,none] rfl rfl (X0 (fun x_bad=> [some (.val x_sizes),some (.val x_deed),some (.val x_word),some (.val (SV.fz x_things)),some (.val x_bad),none,none]) (fun _=> rfl) (A4 (U6 (he _) (A7 (A4 (A8 rfl)) (A7 (A4 A6) (A7 (A4 (L0 X9 (G3 (SN.se (A8 rfl)) K7))) B6))))) (fun x_bad=> (E3 (D9 (N4 (I5 (SN.se (B9 A6u (SN.se (A8 rfl)) (SN.se A6)))) (K8 hr_ (SN.se (A8 rfl))) (P5 (E3 (K8 hr_ (SN.se (A40 (I5 (SN.se (B9 V0 (SN.se (B9 M0 (SN.se (A8 rfl)) (SN.se (B9 M0 (SN.se (A8 rfl)) (SN.se A6))))) (SN.se (B9 M0 (SN.se (A8 rfl)) (SN.se (B9 M0 (SN.se (A8 rfl)) (SN.se A6)))))))) A6 A6)))))))))))) (P5 (E3 (D9 (A9X [some (.val x_sizes),some (.val x_deed),some (.val x_word),some (.val (SV.fz x_things)),none,none,none] rfl rfl (B3k (fun x_many x_casks=> [some (.val x_sizes),some (.val x_deed),some (.val x_word),some (.val (SV.fz x_things)),none,some (.val x_many),some x_casks]) (fun _ _=> rfl) (A4 (A8 rfl)) (fun x_many x_casks=> (E3 (D9 (N4 (A2a (I5 (SN.se (A2P (SN.se A6) (SN.se (A8 rfl)) (SN.se A6))))) (K8 hr_ (SN.se A6)) (P5 (E3 (A9X [some (.val x_sizes),some (.val x_deed),some (.val x_word),some (.val (SV.fz x_things)),none,some (.val x_many),some (.val (SV.fz x_casks))] rfl rfl (K8 hr_ (SN.se (U6 (he _) (A7 (A4 (A8 rfl)) (A7 (A4 A6) (A7 (A4 (L0 X9 (G3 (SN.se (A8 rfl)) K7))) B6))))))))))))))))))))))))))))))))
theorem B8E (ws:List W) (h:AH) (Qa:RR→AH→Prop) (Ea:AExc→AH→Prop) (hl:ws.length=2) (z:upc q9 ws h Qa Ea):A51 (C7 Ea) (C2 Qa) (F8 7 ws) h:=by
  obtain ⟨Q0,E0,hQ,hE,z⟩:=z
  match ws,hl with
  | [x_sizes,x_deed],_=> exact B8I hQ hE x_sizes x_deed h z
theorem B8Y {Q:RR→AH→Prop} {E:AExc→AH→Prop} {Q':RR→AH→Prop} {E':AExc→AH→Prop} (hQ:∀r h,Q r h→Q' r h) (hE:∀x h,E x h→E' x h) (x_text:W):∀h,A4N x_text h Q E→A6A (C7 E') (C2 Q') [some (.val x_text),none] h:=by
  have hr_:=P3 hQ
  generalize C2 Q'=D0 at hr_ ⊢
  obtain ⟨nx0,rt0,bk0,ct0⟩:=D0
  have hr_:∀r s env h,Rl env r s→Q s.rr h→rt0 r env h:=hr_
  have he:=O9 hE
  unfold A4N A6A
  exact (K8 hr_ (SN.se (A2d (SN.se (A2P (SN.se A6) (SN.se (L0 X9 (G3 (SN.se (A8 rfl)) K7))) (SN.se A6))) (L0 A9Q (G3 (SN.se (A7O (B9p (SN.se (A8 rfl))) (fun x_sign h kk K1 K0 h1 h0 z=> by exact A26 (e1:=[some (.val x_text),some (.val x_sign)]) i8 A3J (A4 (B9 C2O (SN.se (A8 rfl)) (SN.se A6))) rfl h1 h0 z))) K7)))))
theorem B8e (ws:List W) (h:AH) (Qa:RR→AH→Prop) (Ea:AExc→AH→Prop) (hl:ws.length=1) (z:upc A2D ws h Qa Ea):A6A (C7 Ea) (C2 Qa) (F8 2 ws) h:=by
  obtain ⟨Q0,E0,hQ,hE,z⟩:=z
  match ws,hl with
  | [x_text],_=> exact B8Y hQ hE x_text h z
theorem B8x {Q:RR→AH→Prop} {E:AExc→AH→Prop} {Q':RR→AH→Prop} {E':AExc→AH→Prop} (hQ:∀r h,Q r h→Q' r h) (hE:∀x h,E x h→E' x h) (x_step:W):∀h,A2C x_step h Q E→A57 (C7 E') (C2 Q') [some (.val x_step)] h:=by
  have hr_:=P3 hQ
  generalize C2 Q'=D0 at hr_ ⊢
  obtain ⟨nx0,rt0,bk0,ct0⟩:=D0
  have hr_:∀r s env h,Rl env r s→Q s.rr h→rt0 r env h:=hr_
  have he:=O9 hE
  unfold A2C A57
  exact (K8 hr_ (SN.se (A2d (SN.se (B9 B5A (SN.se (L0 X9 (G3 (SN.se (A8 rfl)) K7))) (SN.se A6))) (B9 V0 (SN.se (B9 M0 (SN.se (A8 rfl)) (SN.se A6))) (SN.se A6)))))
theorem B8X (ws:List W) (h:AH) (Qa:RR→AH→Prop) (Ea:AExc→AH→Prop) (hl:ws.length=1) (z:upc N1 ws h Qa Ea):A57 (C7 Ea) (C2 Qa) (F8 1 ws) h:=by
  obtain ⟨Q0,E0,hQ,hE,z⟩:=z
  match ws,hl with
  | [x_step],_=> exact B8x hQ hE x_step h z
theorem B7I {Q:RR→AH→Prop} {E:AExc→AH→Prop} {Q':RR→AH→Prop} {E':AExc→AH→Prop} (hQ:∀r h,Q r h→Q' r h) (hE:∀x h,E x h→E' x h) (x_step:W):∀h,A12 x_step h Q E→A5m (C7 E') (C2 Q') [some (.val x_step)] h:=by
  have hr_:=P3 hQ
  generalize C2 Q'=D0 at hr_ ⊢
  obtain ⟨nx0,rt0,bk0,ct0⟩:=D0
  have hr_:∀r s env h,Rl env r s→Q s.rr h→rt0 r env h:=hr_
  have he:=O9 hE
  unfold A12 A5m
  exact (D9 (N4 (I5 (SN.se (B9 V0 (SN.se (L0 X9 (G3 (SN.se (A8 rfl)) K7))) (SN.se A6)))) (K8 hr_ (SN.se (A6o (SN.se A6)))) (P5 (E3 (K8 hr_ (SN.se (A40 (I5 (SN.se (A2P (SN.se A6) (SN.se (B9 M0 (SN.se (A8 rfl)) (SN.se A6))) (SN.se A6)))) A6 A6)))))))
theorem B7S (ws:List W) (h:AH) (Qa:RR→AH→Prop) (Ea:AExc→AH→Prop) (hl:ws.length=1) (z:upc A0k ws h Qa Ea):A5m (C7 Ea) (C2 Qa) (F8 1 ws) h:=by
  obtain ⟨Q0,E0,hQ,hE,z⟩:=z
  match ws,hl with
  | [x_step],_=> exact B7I hQ hE x_step h z
theorem B7q {Q:RR→AH→Prop} {E:AExc→AH→Prop} {Q':RR→AH→Prop} {E':AExc→AH→Prop} (hQ:∀r h,Q r h→Q' r h) (hE:∀x h,E x h→E' x h) (x_script:W):∀h,A4B x_script h Q E→A5u (C7 E') (C2 Q') [some (.val x_script)] h:=by
  have hr_:=P3 hQ
  generalize C2 Q'=D0 at hr_ ⊢
  obtain ⟨nx0,rt0,bk0,ct0⟩:=D0
  have hr_:∀r s env h,Rl env r s→Q s.rr h→rt0 r env h:=hr_
  have he:=O9 hE
  unfold A4B A5u
  exact (K8 hr_ (SN.se (P0 (A7 (A4 (L0 A6e (G3 (SN.se (B4q (SN.se (A8 rfl)) B4y (B3w (SN.se A6)))) K7))) (A7 (A4 A6) (A7 (A4 A6) (A7 (A4 A6) (A7 (A4 A6) B6))))))))
theorem B7y (ws:List W) (h:AH) (Qa:RR→AH→Prop) (Ea:AExc→AH→Prop) (hl:ws.length=1) (z:upc A18 ws h Qa Ea):A5u (C7 Ea) (C2 Qa) (F8 1 ws) h:=by
  obtain ⟨Q0,E0,hQ,hE,z⟩:=z
  match ws,hl with
  | [x_script],_=> exact B7q hQ hE x_script h z
theorem B7b {Q:RR→AH→Prop} {E:AExc→AH→Prop} {Q':RR→AH→Prop} {E':AExc→AH→Prop} (hQ:∀r h,Q r h→Q' r h) (hE:∀x h,E x h→E' x h) (x_bag x_sides:W):∀h,A39 x_bag x_sides h Q E→A5t (C7 E') (C2 Q') [some (.val x_bag),some (.val x_sides),none,none,none] h:=by
  have hr_:=P3 hQ
  generalize C2 Q'=D0 at hr_ ⊢
  obtain ⟨nx0,rt0,bk0,ct0⟩:=D0
  have hr_:∀r s env h,Rl env r s→Q s.rr h→rt0 r env h:=hr_
  have he:=O9 hE
  unfold A39 A5t
  exact (B3O (fun (s5:SV) (j6:Option SV)=> [some s5,some (.val x_sides),j6,none,none]) (fun s5 j6=> (D9 (N4 (I5 (SN.se (B9 A9n (SN.se (B9 M0 (m6 rfl) (SN.se A6))) (SN.se (A8 rfl))))) (D9 (X0 (fun x_side=> [some s5,some (.val x_sides),j6,some (.val x_side),none]) (fun _=> rfl) (A4 (B9 A2f (SN.se (B9 M0 (m6 rfl) (SN.se A6))) (SN.se (A8 rfl)))) (fun x_side=> (E3 (D9 (A2F (fun x_bag=> [some x_bag,some (.val x_sides),j6,some (.val x_side),none]) (fun _=> rfl) (A4 (B9 B36 (SN.se (B9 M0 (m6 rfl) (SN.se A6))) (SN.se (A8 rfl)))) rfl (SN.se A6) (fun x_bag=> (E3 (K8 hr_ (SN.se (A8 rfl))))))))))) (P5 (E3 (D9 (A2F (fun x_bag=> [some x_bag,some (.val x_sides),j6,none,none]) (fun _=> rfl) (A4 (B9 T3 (SN.se (B9 M0 (m6 rfl) (SN.se A6))) (SN.se A6))) rfl (SN.se A6) (fun x_bag=> (E3 (D9 (X0 (fun x_mix=> [some x_bag,some (.val x_sides),j6,none,some (.val x_mix)]) (fun _=> rfl) (A4 (B9 M0 (m6 rfl) (SN.se A6))) (fun x_mix=> (E3 (D9 (A2F (fun x_bag=> [some x_bag,some (.val x_sides),j6,none,some (.val x_mix)]) (fun _=> rfl) (A4 (B9 A2f (SN.se (B9 T3 (SN.se (B9 T3 (SN.se (B9 T3 (SN.se (B9 l5 (SN.se (B9 A2f (SN.se (B9 l5 (SN.se (A8 rfl)) (SN.se (A8 rfl)))) (SN.se A6))) (SN.se A6))) (SN.se (B9 l5 (SN.se (A8 rfl)) (SN.se A6))))) (SN.se (B9 l5 (SN.se A6) (SN.se (B9 M0 (m6 rfl) (SN.se A6))))))) (SN.se A6))) (SN.se A6))) rfl (SN.se A6) (fun x_bag=> (E3 (K8 hr_ (SN.se (B9 A2f (SN.se (B9 T3 (SN.se (B9 B36 (SN.se (B9 M0 (m6 rfl) (SN.se A6))) (SN.se A6))) (SN.se (B9 l5 (SN.se (B9 A2f (SN.se (B9 M0 (m6 rfl) (SN.se A6))) (SN.se A6))) (SN.se A6))))) (SN.se (A8 rfl)))))))))))))))))))))) (fun N8=> (N4 (C2j (I5 (SN.se (B9 A91 (SN.se (B9 M0 (SN.se (A8 rfl)) (SN.se A6))) (SN.se (A8 rfl))))) (I5 (SN.se (B9 A91 (SN.se (B9 M0 (SN.se (A8 rfl)) (SN.se A6))) (SN.se (L0 X9 (G3 (SN.se (B9 M0 (SN.se (A8 rfl)) (SN.se A6))) K7))))))) (D9 (X0 (fun x_cell=> [some (.val x_bag),some (.val x_sides),some (.val x_cell),none,none]) (fun _=> rfl) (A4 (B9 M0 (SN.se (B9 M0 (SN.se (A8 rfl)) (SN.se A6))) (SN.se (B9 M0 (SN.se (A8 rfl)) (SN.se A6))))) (fun x_cell=> (E3 (D9 (A2F (fun x_bag=> [some x_bag,some (.val x_sides),some (.val x_cell),none,none]) (fun _=> rfl) (A4 (B9 T3 (SN.se (B9 M0 (SN.se (A8 rfl)) (SN.se A6))) (SN.se A6))) rfl (SN.se A6) (fun x_bag=> (E3 (D9 (A2F (fun x_bag=> [some x_bag,some (.val x_sides),some (.val x_cell),none,none]) (fun _=> rfl) (A4 A6) rfl (SN.se A6) (fun x_bag=> (E3 (N4 (I5 (SN.se (B9 A9n (SN.se (A8 rfl)) (SN.se (B9 C1x (SN.se A6) (SN.se A6)))))) (A2F (fun x_bag=> [some x_bag,some (.val x_sides),some (.val x_cell),none,none]) (fun _=> rfl) (A4 (A8 rfl)) rfl (SN.se A6) (fun x_bag=> (fun h z=> N8 x_bag (some (.val x_cell)) h z))) (A2F (fun x_bag=> [some x_bag,some (.val x_sides),some (.val x_cell),none,none]) (fun _=> rfl) (A4 (B9 A2f (SN.se (B9 T3 (SN.se (B9 T3 (SN.se (B9 l5 (SN.se (B9 M0 (m6 rfl) (SN.se A6))) (SN.se A6))) (SN.se (B9 l5 (SN.se (B9 A2f (SN.se (A8 rfl)) (SN.se A6))) (SN.se A6))))) (SN.se A6))) (SN.se A6))) rfl (SN.se A6) (fun x_bag=> (fun h z=> N8 x_bag (some (.val x_cell)) h z)))))))))))))))) (P5 (fun h z=> N8 (.val x_bag) (none) h z)))))
theorem B7g (ws:List W) (h:AH) (Qa:RR→AH→Prop) (Ea:AExc→AH→Prop) (hl:ws.length=2) (z:upc U4 ws h Qa Ea):A5t (C7 Ea) (C2 Qa) (F8 5 ws) h:=by
  obtain ⟨Q0,E0,hQ,hE,z⟩:=z
  match ws,hl with
  | [x_bag,x_sides],_=> exact B7b hQ hE x_bag x_sides h z
theorem B7W {Q:RR→AH→Prop} {E:AExc→AH→Prop} {Q':RR→AH→Prop} {E':AExc→AH→Prop} (hQ:∀r h,Q r h→Q' r h) (hE:∀x h,E x h→E' x h) (x_bag x_row:W):∀h,A4E x_bag x_row h Q E→A5o (C7 E') (C2 Q') [some (.val x_bag),some (.val x_row)] h:=by
  have hr_:=P3 hQ
  generalize C2 Q'=D0 at hr_ ⊢
  obtain ⟨nx0,rt0,bk0,ct0⟩:=D0
  have hr_:∀r s env h,Rl env r s→Q s.rr h→rt0 r env h:=hr_
  have he:=O9 hE
  unfold A4E A5o
  exact (K8 hr_ (SN.se (B9 M0 (SN.se (A8 rfl)) (SN.se (U6 (he _) (A7 (A4 (A8 rfl)) (A7 (A4 (L0 X9 (G3 (SN.se (A8 rfl)) K7))) B6)))))))
theorem B7z (ws:List W) (h:AH) (Qa:RR→AH→Prop) (Ea:AExc→AH→Prop) (hl:ws.length=2) (z:upc A19 ws h Qa Ea):A5o (C7 Ea) (C2 Qa) (F8 2 ws) h:=by
  obtain ⟨Q0,E0,hQ,hE,z⟩:=z
  match ws,hl with
  | [x_bag,x_row],_=> exact B7W hQ hE x_bag x_row h z
theorem B7i (d:Nat) {Q:RR→AH→Prop} {E:AExc→AH→Prop} {Q':RR→AH→Prop} {E':AExc→AH→Prop} (hQ:∀r h,Q r h→Q' r h) (hE:∀x h,E x h→E' x h) (x_found x_due:W):∀h,A16 (m__law_same d) x_found x_due h Q E→A5q d (C7 E') (C2 Q') [some (.val x_found),some (.val x_due),none] h:=by
  have hr_:=P3 hQ
  generalize C2 Q'=D0 at hr_ ⊢
  obtain ⟨nx0,rt0,bk0,ct0⟩:=D0
  have hr_:∀r s env h,Rl env r s→Q s.rr h→rt0 r env h:=hr_
  have he:=O9 hE
  unfold A16 A5q
  exact (D9 (N4 (I5 (SN.se (B9 A6u (SN.se (A8 rfl)) (SN.se A6)))) (K8 hr_ (SN.se (B9 A6u (SN.se (A8 rfl)) (SN.se A6)))) (P5 (E3 (D9 (N4 (I5 (SN.se (L0 u3 (G3 (SN.se (A8 rfl)) (G3 (SN.se A6) K7))))) (K8 hr_ (SN.se (A2d (SN.se (L0 u3 (G3 (SN.se (A8 rfl)) (G3 (SN.se A6) K7)))) (B9 V0 (SN.se (A8 rfl)) (SN.se (A8 rfl)))))) (P5 (E3 (D9 (N4 (I5 (SN.se (L0 u3 (G3 (SN.se (A8 rfl)) (G3 (SN.se A6) K7))))) (K8 hr_ (SN.se (A2d (SN.se (L0 u3 (G3 (SN.se (A8 rfl)) (G3 (SN.se A6) K7)))) (A2d (SN.se (C2N (SN.se (L0 u3 (G3 (SN.se (A8 rfl)) (G3 (SN.se A6) K7)))))) (B9 V0 (SN.se (A8 rfl)) (SN.se (A8 rfl))))))) (P5 (E3 (D9 (N4 (I5 (SN.se (L0 u3 (G3 (SN.se (A8 rfl)) (G3 (SN.se A6) K7))))) (K8 hr_ (SN.se (A2d (SN.se (L0 u3 (G3 (SN.se (A8 rfl)) (G3 (SN.se A6) K7)))) (B9 V0 (SN.se (A8 rfl)) (SN.se (A8 rfl)))))) (P5 (E3 (D9 (N4 (A4r (I5 (SN.se (B9 V0 (SN.se (L0 u3 (G3 (SN.se (A8 rfl)) (G3 (SN.se A6) K7)))) (SN.se (L0 u3 (G3 (SN.se (A8 rfl)) (G3 (SN.se A6) K7))))))) (I5 (SN.se (B9 V0 (SN.se (L0 u3 (G3 (SN.se (A8 rfl)) (G3 (SN.se A6) K7)))) (SN.se (L0 u3 (G3 (SN.se (A8 rfl)) (G3 (SN.se A6) K7)))))))) (K8 hr_ (SN.se A6)) (P5 (E3 (D9 (N4 (I5 (SN.se (B9 V0 (SN.se (L0 X9 (G3 (SN.se (A8 rfl)) K7))) (SN.se (L0 X9 (G3 (SN.se (A8 rfl)) K7)))))) (K8 hr_ (SN.se A6)) (P5 (E3 (K8 hr_ (SN.se (L0 A9Q (G3 (SN.se (A7O (B26 (G3 (SN.se (L0 X9 (G3 (SN.se (A8 rfl)) K7))) K7)) (fun x_at h kk K1 K0 h1 h0 z=> by exact A26 (e1:=[some (.val x_found),some (.val x_due),some (.val x_at)]) i8 A3J (A4 (A6P (A7 (A4 (B9 M0 (SN.se (A8 rfl)) (SN.se (A8 rfl)))) (A7 (A4 (B9 M0 (SN.se (A8 rfl)) (SN.se (A8 rfl)))) B6)))) rfl h1 h0 z))) K7))))))))))))))))))))))))))))
theorem B7v (d:Nat) (ws:List W) (h:AH) (Qa:RR→AH→Prop) (Ea:AExc→AH→Prop) (hl:ws.length=2) (z:upc (m__law_same (d+1)) ws h Qa Ea):A5q d (C7 Ea) (C2 Qa) (F8 3 ws) h:=by
  obtain ⟨Q0,E0,hQ,hE,z⟩:=z
  match ws,hl with
  | [x_found,x_due],_=> exact B7i d hQ hE x_found x_due h z
theorem B6s {Q:RR→AH→Prop} {E:AExc→AH→Prop} {Q':RR→AH→Prop} {E':AExc→AH→Prop} (hQ:∀r h,Q r h→Q' r h) (hE:∀x h,E x h→E' x h) {fl:Addr} {sp:B8} {ML:List W→MC} (hs:∀ws h Q E,upc ML ws h Q E→sp ws h Q E) (x_ask:W):∀h,A3y fl ML x_ask h Q E→A2t fl sp (C7 E') (C2 Q') [some (.val (.ref fl)),none,none,none] h:=by
  have hr_:=P3 hQ
  generalize C2 Q'=D0 at hr_ ⊢
  obtain ⟨nx0,rt0,bk0,ct0⟩:=D0
  have hr_:∀r s env h,Rl env r s→Q s.rr h→rt0 r env h:=hr_
  have he:=O9 hE
  unfold A3y A2t
  exact (D9 (X0 (fun x_told=> [some (.val (.ref fl)),some (.val x_told),none,none]) (fun _=> rfl) (A4 A6) (fun x_told=> (E3 (D9 (X0 (fun x_word_here=> [some (.val (.ref fl)),some (.val x_told),some (.val x_word_here),none]) (fun _=> rfl) (A4 A6) (fun x_word_here=> (E3 (B3O (fun (s15:W×W) (j16:Unit)=> [some (.val (.ref fl)),some (.val s15.1),some (.val s15.2),none]) (fun s15 j16=> (K8 hr_ (SN.se (M6 (A7 (A4 (A8 rfl)) (A7 (A4 (A8 rfl)) B6)))))) (fun N18=> (C0B (ks:=["BadName","BadRow","BadSizes","InUse","NoRound","NothingLeft","Taken","TooLong","TooMany"]) (i:=3) (j:=2) (l:=[("HideError",(E4 "word")),("Missing",(E4 "word")),("NothingLeft",(E4 "word"))]) (envB:=fun s19=> [some (.val (.ref fl)),some (.val s19),some (.val x_word_here),none]) rfl (Nat.le_of_ble_eq_true rfl) (.cons Y0 (.cons Y0 (.cons Y0 .nil))) (he _) (fun s19=> (fun h z=> N18 (s19,x_word_here) () h z)) (fun s19=> (fun h z=> N18 (x_told,s19) () h z)) (fun E2 Ein hz kk20 N21=> (X0 (fun x_told=> [some (.val (.ref fl)),some (.val x_told),some (.val x_word_here),none]) (fun _=> rfl) (A4 (B4A hz hs rfl B6)) (fun x_told=> (fun h z=> N21 x_told h z)))))))))))))))
theorem B1B {ML:List W→MC} (fl:Addr) (sp:B8) (hs:∀ws h Q E,upc ML ws h Q E→sp ws h Q E) (ws:List W) (h:AH) (Qa:RR→AH→Prop) (Ea:AExc→AH→Prop) (hl:ws.length=1) (z:upc (A1z ML fl) ws h Qa Ea):A2t fl sp (C7 Ea) (C2 Qa) (F8 4 ws) h:=by
  obtain ⟨Q0,E0,hQ,hE,z⟩:=z
  match ws,hl with
  | [x_ask],_=>
    obtain ⟨e,z⟩:=z
    subst e
    exact B6s hQ hE hs (.ref fl) h z
theorem B7M {Q:RR→AH→Prop} {E:AExc→AH→Prop} {Q':RR→AH→Prop} {E':AExc→AH→Prop} (hQ:∀r h,Q r h→Q' r h) (hE:∀x h,E x h→E' x h) (x_bag x_mcasks x_most:W):∀h,A35 x_bag x_mcasks x_most h Q E→A5j (C7 E') (C2 Q') [some (.val x_bag),some (.val x_mcasks),some (.val x_most),none] h:=by
  have hr_:=P3 hQ
  generalize C2 Q'=D0 at hr_ ⊢
  obtain ⟨nx0,rt0,bk0,ct0⟩:=D0
  have hr_:∀r s env h,Rl env r s→Q s.rr h→rt0 r env h:=hr_
  have he:=O9 hE
  unfold A35 A5j
  exact (K8 hr_ (SN.se (L0 C01 (G3 (SN.se (A7O (B26 (G3 (SN.se (B9 T3 (SN.se A6) (SN.se (U6 (he _) (A7 (A4 (A8 rfl)) (A7 (A4 (A8 rfl)) B6)))))) K7)) (fun x_mcask h kk K1 K0 h1 h0 z=> by exact A26 (e1:=[some (.val x_bag),some (.val x_mcasks),some (.val x_most),some (.val x_mcask)]) i8 A3J (A4 (B9 T3 (SN.se A6) (SN.se (A6P (A7 (A4 (A8 rfl)) (A7 (A4 (A8 rfl)) B6)))))) rfl h1 h0 z))) K7))))
theorem B7K (ws:List W) (h:AH) (Qa:RR→AH→Prop) (Ea:AExc→AH→Prop) (hl:ws.length=3) (z:upc A17 ws h Qa Ea):A5j (C7 Ea) (C2 Qa) (F8 4 ws) h:=by
  obtain ⟨Q0,E0,hQ,hE,z⟩:=z
  match ws,hl with
  | [x_bag,x_mcasks,x_most],_=> exact B7M hQ hE x_bag x_mcasks x_most h z
theorem B6I {Q:RR→AH→Prop} {E:AExc→AH→Prop} {Q':RR→AH→Prop} {E':AExc→AH→Prop} (hQ:∀r h,Q r h→Q' r h) (hE:∀x h,E x h→E' x h) (x_bag:W):∀h,A3p x_bag h Q E→A5V (C7 E') (C2 Q') [some (.val x_bag)] h:=by
  have hr_:=P3 hQ
  generalize C2 Q'=D0 at hr_ ⊢
  obtain ⟨nx0,rt0,bk0,ct0⟩:=D0
  have hr_:∀r s env h,Rl env r s→Q s.rr h→rt0 r env h:=hr_
  have he:=O9 hE
  unfold A3p A5V
  exact (K8 hr_ (SN.se (U6 (he _) (A7 (A4 (A8 rfl)) (A7 (A4 A6) (A7 (A4 (U6 (he _) (A7 (A4 (A8 rfl)) (A7 (A4 (P0 (A7 (A4 A6) (A7 (A4 A6) (A7 (A4 A6) (A7 (A4 A6) B6)))))) B6)))) B6))))))
theorem B6S (ws:List W) (h:AH) (Qa:RR→AH→Prop) (Ea:AExc→AH→Prop) (hl:ws.length=1) (z:upc A1t ws h Qa Ea):A5V (C7 Ea) (C2 Qa) (F8 1 ws) h:=by
  obtain ⟨Q0,E0,hQ,hE,z⟩:=z
  match ws,hl with
  | [x_bag],_=> exact B6I hQ hE x_bag h z
theorem B6c {Q:RR→AH→Prop} {E:AExc→AH→Prop} {Q':RR→AH→Prop} {E':AExc→AH→Prop} (hQ:∀r h,Q r h→Q' r h) (hE:∀x h,E x h→E' x h) {fl:Addr} {sp:B8} {ML:List W→MC} (hs:∀ws h Q E,upc ML ws h Q E→sp ws h Q E) (x_ask:W):∀h,A3s fl ML x_ask h Q E→A1w fl sp (C7 E') (C2 Q') [some (.val (.ref fl)),none,none] h:=by
  have hr_:=P3 hQ
  generalize C2 Q'=D0 at hr_ ⊢
  obtain ⟨nx0,rt0,bk0,ct0⟩:=D0
  have hr_:∀r s env h,Rl env r s→Q s.rr h→rt0 r env h:=hr_
  have he:=O9 hE
  unfold A3s A1w
  exact (D9 (X0 (fun x_found=> [some (.val (.ref fl)),some (.val x_found),none]) (fun _=> rfl) (A4 (M6 (A7 (A4 A6) (A7 (A4 A6) B6)))) (fun x_found=> (E3 (D9 (C2C (ks:=["BadName","BadRow","BadSizes","InUse","NoRound","NothingLeft","Taken","TooLong","TooMany"]) (i:=2) (j:=1) (l:=[("BadRow",(O4 (F3 (E4 "word") (F3 (O4 (F3 (E4 "step") (F3 (E4 "place") O5))) O5)))),("InUse",(O4 (F3 (E4 "word") (F3 (E4 "name") O5)))),("NoRound",(O4 (F3 (E4 "word") (F3 (E4 "name") O5)))),("Taken",(O4 (F3 (E4 "word") (F3 (E4 "name") O5)))),("TooLong",(O4 (F3 (E4 "word") (F3 (E4 "most") O5)))),("TooMany",(O4 (F3 (E4 "word") (F3 (E4 "most") O5))))]) rfl (Nat.le_of_ble_eq_true rfl) (.cons (A2c (e9 Y0 (e9 (A2c (e9 Y0 (e9 Y0 A2e))) A2e))) (.cons (A2c (e9 Y0 (e9 Y0 A2e))) (.cons (A2c (e9 Y0 (e9 Y0 A2e))) (.cons (A2c (e9 Y0 (e9 Y0 A2e))) (.cons (A2c (e9 Y0 (e9 Y0 A2e))) (.cons (A2c (e9 Y0 (e9 Y0 A2e))) .nil)))))) (he _) (fun s7=> (E3 (K8 hr_ (SN.se (A8 rfl))))) (fun E2 Ein hz kk8 N9=> (u1 (SN.se (B4A hz hs rfl B6)) (fun _=> (fun h z=> N9 x_found h z))))))))))
theorem A70 {ML:List W→MC} (fl:Addr) (sp:B8) (hs:∀ws h Q E,upc ML ws h Q E→sp ws h Q E) (ws:List W) (h:AH) (Qa:RR→AH→Prop) (Ea:AExc→AH→Prop) (hl:ws.length=1) (z:upc (A1Q ML fl) ws h Qa Ea):A1w fl sp (C7 Ea) (C2 Qa) (F8 3 ws) h:=by
  obtain ⟨Q0,E0,hQ,hE,z⟩:=z
  match ws,hl with
  | [x_ask],_=>
    obtain ⟨e,z⟩:=z
    subst e
    exact B6c hQ hE hs (.ref fl) h z
theorem B6A {Q:RR→AH→Prop} {E:AExc→AH→Prop} {Q':RR→AH→Prop} {E':AExc→AH→Prop} (hQ:∀r h,Q r h→Q' r h) (hE:∀x h,E x h→E' x h) (x_self x_name:W):∀h,A3k x_self x_name h Q E→A5Q (C7 E') (C2 Q') [some (.val x_self),some (.val x_name)] h:=by
  have hr_:=P3 hQ
  have he:=O9 hE
  unfold A3k A5Q
  exact (D9 (N4 (A2a (I5 (SN.se (U6 (he _) (A7 (A4 (A8 rfl)) B6))))) (A0q (he _) B6) (P5 (E3 (D9 (N4 (I5 (SN.se (B4a (A4 (A8 rfl)) (SN.se (f7 (SN.se (A8 rfl))))))) (A0q (he _) (A7 (A4 (A8 rfl)) B6)) (P5 (E3 (N4 (I5 (SN.se (B9 A9n (SN.se (L0 B3K (G3 (SN.se (f7 (SN.se (A8 rfl)))) K7))) (SN.se A6)))) (A0q (he _) (A7 (A4 A6) B6)) (P5 (A2Q hQ _)))))))))))
theorem B59 (ws:List W) (h:AH) (Qa:RR→AH→Prop) (Ea:AExc→AH→Prop) (hl:ws.length=2) (z:upc A1O ws h Qa Ea):A5Q (C7 Ea) (C2 Qa) (F8 2 ws) h:=by
  obtain ⟨Q0,E0,hQ,hE,z⟩:=z
  match ws,hl with
  | [x_self,x_name],_=> exact B6A hQ hE x_self x_name h z
theorem B6X {Q:RR→AH→Prop} {E:AExc→AH→Prop} {Q':RR→AH→Prop} {E':AExc→AH→Prop} (hQ:∀r h,Q r h→Q' r h) (hE:∀x h,E x h→E' x h) (x_self x_steps:W):∀h,A3q x_self x_steps h Q E→A5S (C7 E') (C2 Q') [some (.val x_self),some (.val x_steps),none,none] h:=by
  have hr_:=P3 hQ
  generalize C2 Q'=D0 at hr_ ⊢
  obtain ⟨nx0,rt0,bk0,ct0⟩:=D0
  have hr_:∀r s env h,Rl env r s→Q s.rr h→rt0 r env h:=hr_
  have he:=O9 hE
  unfold A3q A5S
  exact (D9 (A9L (fun x_found=> [some (.val x_self),some (.val x_steps),some x_found,none]) (fun _=> rfl) (P0 B6) (fun x_found=> (E3 (D9 (B3c (fun (s13:SV) (j14:Option SV)=> [some (.val x_self),some (.val x_steps),some s13,j14]) x_found (none) rfl (B3t (SN.se (A8 rfl))) (fun s13 j14=> (E3 (K8 hr_ (m6 rfl)))) (fun R18 x_step s13 j14 kn15 _ N17 h z=> by refine A6v [some (.val x_self),some (.val x_steps),some s13,some (.val x_step)] i8 rfl h _ ?_;exact A66 h z (N4 (I5 (SN.se (U6 (he _) (A7 (A4 (A8 rfl)) B6)))) (C14 (fun x_found=> [some (.val x_self),some (.val x_steps),some x_found,some (.val x_step)]) (fun _=> rfl) rfl (SN.se (B9 A8w (SN.se (A6R (SN.se (f7 (SN.se (A8 rfl)))) (A4 (B9 M0 (SN.se (A8 rfl)) (SN.se A6))))) (SN.se (B9 M0 (SN.se (A8 rfl)) (SN.se A6))))) (fun x_found=> (fun h z=> N17 x_found (some (.val x_step)) h z))) (A9w (fun x_found=> [some (.val x_self),some (.val x_steps),some x_found,some (.val x_step)]) (fun _=> rfl) A8R rfl (A7 (A4 (A8 rfl)) B6) (fun x_found _=> (fun h z=> N17 x_found (some (.val x_step)) h z)))))))))))
theorem B6O (ws:List W) (h:AH) (Qa:RR→AH→Prop) (Ea:AExc→AH→Prop) (hl:ws.length=2) (z:upc A1P ws h Qa Ea):A5S (C7 Ea) (C2 Qa) (F8 4 ws) h:=by
  obtain ⟨Q0,E0,hQ,hE,z⟩:=z
  match ws,hl with
  | [x_self,x_steps],_=> exact B6X hQ hE x_self x_steps h z
theorem B6P {Q:RR→AH→Prop} {E:AExc→AH→Prop} {Q':RR→AH→Prop} {E':AExc→AH→Prop} (hQ:∀r h,Q r h→Q' r h) (hE:∀x h,E x h→E' x h) (x_self x_name:W):∀h,A3o x_self x_name h Q E→A5T (C7 E') (C2 Q') [some (.val x_self),some (.val x_name)] h:=by
  have hr_:=P3 hQ
  generalize C2 Q'=D0 at hr_ ⊢
  obtain ⟨nx0,rt0,bk0,ct0⟩:=D0
  have hr_:∀r s env h,Rl env r s→Q s.rr h→rt0 r env h:=hr_
  have he:=O9 hE
  unfold A3o A5T
  exact (D9 (N4 (I5 (SN.se (B4a (A4 (A8 rfl)) (SN.se (f7 (SN.se (A8 rfl))))))) (A0q (he _) (A7 (A4 (A8 rfl)) B6)) (P5 (E3 (K8 hr_ (SN.se (A6R (SN.se (f7 (SN.se (A8 rfl)))) (A4 (A8 rfl)))))))))
theorem B6U (ws:List W) (h:AH) (Qa:RR→AH→Prop) (Ea:AExc→AH→Prop) (hl:ws.length=2) (z:upc P6 ws h Qa Ea):A5T (C7 Ea) (C2 Qa) (F8 2 ws) h:=by
  obtain ⟨Q0,E0,hQ,hE,z⟩:=z
  match ws,hl with
  | [x_self,x_name],_=> exact B6P hQ hE x_self x_name h z
theorem B57 {Q:RR→AH→Prop} {E:AExc→AH→Prop} {Q':RR→AH→Prop} {E':AExc→AH→Prop} (hQ:∀r h,Q r h→Q' r h) (hE:∀x h,E x h→E' x h) (x_self x_at x_step:W):∀h,A3j x_self x_at x_step h Q E→A5P (C7 E') (C2 Q') [some (.val x_self),some (.val x_at),some (.val x_step),none] h:=by
  have hr_:=P3 hQ
  have he:=O9 hE
  unfold A3j A5P
  exact (D9 (X0 (fun x_place=> [some (.val x_self),some (.val x_at),some (.val x_step),some (.val x_place)]) (fun _=> rfl) (A4 (A40 (I5 (SN.se (U6 (he _) (A7 (A4 (A8 rfl)) B6)))) (U6 (he _) (A7 (A4 (A8 rfl)) B6)) (U6 (he _) (A7 (A4 (f7 (SN.se (A8 rfl)))) (A7 (A4 (A8 rfl)) B6))))) (fun x_place=> (E3 (D9 (N4 (I5 (SN.se (B9 A6u (SN.se (A8 rfl)) (SN.se A6)))) (A0q (he _) (A7 (A4 (A8 rfl)) (A7 (A4 (A8 rfl)) B6))) (P5 (E3 (N4 (I5 (SN.se (U6 (he _) (A7 (A4 (A8 rfl)) B6)))) (u1 (SN.se (L8 (he _) (SN.se (A8 rfl)) (A7 (A4 (B9 M0 (SN.se (A8 rfl)) (SN.se A6))) B6))) (fun _=> (A2Q hQ _))) (P5 (A2Q hQ _)))))))))))
theorem B58 (ws:List W) (h:AH) (Qa:RR→AH→Prop) (Ea:AExc→AH→Prop) (hl:ws.length=3) (z:upc A1N ws h Qa Ea):A5P (C7 Ea) (C2 Qa) (F8 4 ws) h:=by
  obtain ⟨Q0,E0,hQ,hE,z⟩:=z
  match ws,hl with
  | [x_self,x_at,x_step],_=> exact B57 hQ hE x_self x_at x_step h z
theorem B6q {Q:RR→AH→Prop} {E:AExc→AH→Prop} {Q':RR→AH→Prop} {E':AExc→AH→Prop} (hQ:∀r h,Q r h→Q' r h) (hE:∀x h,E x h→E' x h) (x_self x_steps:W):∀h,A30 x_self x_steps h Q E→A5b (C7 E') (C2 Q') [some (.val x_self),some (.val x_steps),none] h:=by
  have hr_:=P3 hQ
  generalize C2 Q'=D0 at hr_ ⊢
  obtain ⟨nx0,rt0,bk0,ct0⟩:=D0
  have hr_:∀r s env h,Rl env r s→Q s.rr h→rt0 r env h:=hr_
  have he:=O9 hE
  unfold A30 A5b
  exact (K8 hr_ (SN.se (L0 C0C (G3 (SN.se (C2V (B3t (SN.se (A8 rfl))) (fun x_step h kk K1 K0 h1 h0 z=> by exact A26 (e1:=[some (.val x_self),some (.val x_steps),some (.val x_step)]) i8 A3J (A4 (A40 (I5 (SN.se (A6P (A7 (A4 (A8 rfl)) B6)))) (B9 l5 (SN.se (B9 M0 (SN.se (A8 rfl)) (SN.se A6))) (SN.se (L0 X9 (G3 (SN.se (A6R (SN.se (f7 (SN.se (A8 rfl)))) (A4 (B9 M0 (SN.se (A8 rfl)) (SN.se A6))))) K7)))) A6)) rfl h1 h0 z))) K7))))
theorem B6u (ws:List W) (h:AH) (Qa:RR→AH→Prop) (Ea:AExc→AH→Prop) (hl:ws.length=2) (z:upc A1R ws h Qa Ea):A5b (C7 Ea) (C2 Qa) (F8 3 ws) h:=by
  obtain ⟨Q0,E0,hQ,hE,z⟩:=z
  match ws,hl with
  | [x_self,x_steps],_=> exact B6q hQ hE x_self x_steps h z
theorem B6Y {Q:RR→AH→Prop} {E:AExc→AH→Prop} {Q':RR→AH→Prop} {E':AExc→AH→Prop} (hQ:∀r h,Q r h→Q' r h) (hE:∀x h,E x h→E' x h) (x_self x_name x_steps:W):∀h,A3l x_self x_name x_steps h Q E→A5W (C7 E') (C2 Q') [some (.val x_self),some (.val x_name),some (.val x_steps),none,none] h:=by
  have hr_:=P3 hQ
  have he:=O9 hE
  unfold A3l A5W
  exact (D9 (u1 (SN.se (L8 (he _) (SN.se (A8 rfl)) (A7 (A4 (A8 rfl)) B6))) (fun _=> (E3 (D9 (B3c (fun (s19:Unit) (j20:Option SV×Option SV)=> [some (.val x_self),some (.val x_name),some (.val x_steps),j20.1,j20.2]) () (none,none) rfl (C2r (SN.se (A8 rfl))) (fun s19 j20=> (E3 (D9 (N4 (I5 (SN.se (B9 B5A (SN.se (L8 (he _) (SN.se (A8 rfl)) (A7 (A4 (A8 rfl)) B6))) (SN.se A6)))) (A0q (he _) (A7 (A4 A6) B6)) (P5 (E3 (D9 (B3V (A4 (L0 A6e (G3 (SN.se (A8 rfl)) K7))) (f7 (SN.se (A8 rfl))) (A4 (A8 rfl)) ((E3 (B3V (A4 (L8 (he _) (SN.se (A8 rfl)) (A7 (A4 (A8 rfl)) B6))) (f7 (SN.se (A8 rfl))) (A4 (A8 rfl)) ((A2Q hQ _))))))))))))) (fun R27 w24 s19 j20 kn21 _ N23 h z=> by obtain ⟨x_at,x_step,rfl,z26⟩:=A9B z;refine A6v [some (.val x_self),some (.val x_name),some (.val x_steps),some (.val x_at),some (.val x_step)] (B0V i8 i8) rfl h _ ?_;exact A66 h z26 (u1 (SN.se (L8 (he _) (SN.se (A8 rfl)) (A7 (A4 (A8 rfl)) (A7 (A4 (A8 rfl)) B6)))) (fun _=> (fun h z=> N23 () (some (.val x_at),some (.val x_step)) h z))))))))))
theorem B6J (ws:List W) (h:AH) (Qa:RR→AH→Prop) (Ea:AExc→AH→Prop) (hl:ws.length=3) (z:upc G8 ws h Qa Ea):A5W (C7 Ea) (C2 Qa) (F8 5 ws) h:=by
  obtain ⟨Q0,E0,hQ,hE,z⟩:=z
  match ws,hl with
  | [x_self,x_name,x_steps],_=> exact B6Y hQ hE x_self x_name x_steps h z
theorem B6i {Q:RR→AH→Prop} {E:AExc→AH→Prop} {Q':RR→AH→Prop} {E':AExc→AH→Prop} (hQ:∀r h,Q r h→Q' r h) (hE:∀x h,E x h→E' x h) (x_self x_name:W):∀h,A0j x_self x_name h Q E→A5Z (C7 E') (C2 Q') [some (.val x_self),some (.val x_name),none,none,none,none] h:=by
  have hr_:=P3 hQ
  generalize C2 Q'=D0 at hr_ ⊢
  obtain ⟨nx0,rt0,bk0,ct0⟩:=D0
  have hr_:∀r s env h,Rl env r s→Q s.rr h→rt0 r env h:=hr_
  have he:=O9 hE
  unfold A0j A5Z
  exact (D9 (u1 (SN.se (L8 (he _) (SN.se (A8 rfl)) (A7 (A4 (A8 rfl)) B6))) (fun _=> (E3 (D9 (A9L (fun x_found=> [some (.val x_self),some (.val x_name),some x_found,none,none,none]) (fun _=> rfl) (P0 B6) (fun x_found=> (E3 (D9 (B9H (fun (s9:SV) (j10:Option W×Option W)=> [some (.val x_self),some (.val x_name),some s9,(Option.map SV.val j10.1),(Option.map SV.val j10.2),none]) jnd C2J (s0:=x_found) (j0:=(none,none)) rfl rfl (fun s9 j10 hj hd=> (A96 hd.1 (A96 hd.2.1 (C3c hd.2.2 (B48 hj.1 (B48 hj.2 (B4p B99))))))) (fun s9 j10=> (E3 (K8 hr_ (m6 rfl)))) (fun t0 x_steps s9 j10 kn11 N0 hw HN=> (fun (N12:∀(s:SV) (j:Unit) h,kn11 s h Q E→N0 ((fun (s9:SV) (j10:Option W×Option W)=> [some (.val x_self),some (.val x_name),some s9,(Option.map SV.val j10.1),(Option.map SV.val j10.2),none]) s (some (W.str t0),some x_steps)) h)=> C1i [some (.val x_self),some (.val x_name),some s9,some (.val (W.str t0)),some (.val x_steps),none] rfl (N4 (I5 (SN.se (L0 A9Q (G3 (SN.se (A7O (B2l (A4 (A8 rfl))) (fun x_step h kk K1 K0 h1 h0 z=> by exact A26 (e1:=[some (.val x_self),some (.val x_name),some s9,some (.val (W.str t0)),some (.val x_steps),some (.val x_step)]) i8 A3J (A4 (A2d (SN.se (A6P (A7 (A4 (A8 rfl)) B6))) (B9 V0 (SN.se (B9 M0 (SN.se (A8 rfl)) (SN.se A6))) (SN.se (A8 rfl))))) rfl h1 h0 z))) K7)))) (A9w (fun x_found=> [some (.val x_self),some (.val x_name),some x_found,some (.val (W.str t0)),some (.val x_steps),none]) (fun _=> rfl) A8R rfl (A7 (A4 (A8 rfl)) B6) (fun x_found _=> (fun h z=> N12 x_found () h z))) (P5 (fun h z=> N12 s9 () h z)))) (fun s _ h z=> HN s _ h (C2h hw) z))))))))))))
theorem B6l (ws:List W) (h:AH) (Qa:RR→AH→Prop) (Ea:AExc→AH→Prop) (hl:ws.length=2) (z:upc Z7 ws h Qa Ea):A5Z (C7 Ea) (C2 Qa) (F8 6 ws) h:=by
  obtain ⟨Q0,E0,hQ,hE,z⟩:=z
  match ws,hl with
  | [x_self,x_name],_=> exact B6i hQ hE x_self x_name h z
theorem B7T {Q:RR→AH→Prop} {E:AExc→AH→Prop} {Q':RR→AH→Prop} {E':AExc→AH→Prop} (hQ:∀r h,Q r h→Q' r h) (hE:∀x h,E x h→E' x h) (x_self x_name:W):∀h,A36 x_self x_name h Q E→A5n (C7 E') (C2 Q') [some (.val x_self),some (.val x_name),none] h:=by
  have hr_:=P3 hQ
  have he:=O9 hE
  unfold A36 A5n
  exact (D9 (X0 (fun x_found=> [some (.val x_self),some (.val x_name),some (.val x_found)]) (fun _=> rfl) (A4 (L8 (he _) (SN.se (A8 rfl)) (A7 (A4 (A8 rfl)) B6))) (fun x_found=> (E3 (D9 (N4 (I5 (SN.se (B9 V0 (SN.se (A8 rfl)) (SN.se (P0 B6))))) (A0q (he _) (A7 (A4 (B9 M0 (SN.se (A8 rfl)) (SN.se A6))) B6)) (P5 (E3 (D9 (B3q (f7 (SN.se (A8 rfl))) (A4 (A8 rfl)) ((E3 (B3q (f7 (SN.se (A8 rfl))) (A4 (A8 rfl)) ((A2Q hQ _)))))))))))))))
theorem B7C (ws:List W) (h:AH) (Qa:RR→AH→Prop) (Ea:AExc→AH→Prop) (hl:ws.length=2) (z:upc V6 ws h Qa Ea):A5n (C7 Ea) (C2 Qa) (F8 3 ws) h:=by
  obtain ⟨Q0,E0,hQ,hE,z⟩:=z
  match ws,hl with
  | [x_self,x_name],_=> exact B7T hQ hE x_self x_name h z
theorem B6H {Q:RR→AH→Prop} {E:AExc→AH→Prop} {Q':RR→AH→Prop} {E':AExc→AH→Prop} (hQ:∀r h,Q r h→Q' r h) (hE:∀x h,E x h→E' x h) (x_self x_name:W):∀h,A1s x_self x_name h Q E→A5R (C7 E') (C2 Q') [some (.val x_self),some (.val x_name)] h:=by
  have hr_:=P3 hQ
  generalize C2 Q'=D0 at hr_ ⊢
  obtain ⟨nx0,rt0,bk0,ct0⟩:=D0
  have hr_:∀r s env h,Rl env r s→Q s.rr h→rt0 r env h:=hr_
  have he:=O9 hE
  unfold A1s A5R
  exact (K8 hr_ (SN.se (L0 A6e (G3 (SN.se (L8 (he _) (SN.se (A8 rfl)) (A7 (A4 (A8 rfl)) B6))) K7))))
theorem B6M (ws:List W) (h:AH) (Qa:RR→AH→Prop) (Ea:AExc→AH→Prop) (hl:ws.length=2) (z:upc Q3 ws h Qa Ea):A5R (C7 Ea) (C2 Qa) (F8 2 ws) h:=by
  obtain ⟨Q0,E0,hQ,hE,z⟩:=z
  match ws,hl with
  | [x_self,x_name],_=> exact B6H hQ hE x_self x_name h z
theorem B7B {Q:RR→AH→Prop} {E:AExc→AH→Prop} {Q':RR→AH→Prop} {E':AExc→AH→Prop} (hQ:∀r h,Q r h→Q' r h) (hE:∀x h,E x h→E' x h) (x_self x_name:W):∀h,A10 x_self x_name h Q E→A5k (C7 E') (C2 Q') [some (.val x_self),some (.val x_name)] h:=by
  have hr_:=P3 hQ
  generalize C2 Q'=D0 at hr_ ⊢
  obtain ⟨nx0,rt0,bk0,ct0⟩:=D0
  have hr_:∀r s env h,Rl env r s→Q s.rr h→rt0 r env h:=hr_
  have he:=O9 hE
  unfold A10 A5k
  exact (D9 (u1 (SN.se (L8 (he _) (SN.se (A8 rfl)) (A7 (A4 (A8 rfl)) B6))) (fun _=> (E3 (K8 hr_ (SN.se (L0 A6e (G3 (SN.se (A6R (SN.se (f7 (SN.se (A8 rfl)))) (A4 (A8 rfl)))) K7))))))))
theorem B7L (ws:List W) (h:AH) (Qa:RR→AH→Prop) (Ea:AExc→AH→Prop) (hl:ws.length=2) (z:upc R3 ws h Qa Ea):A5k (C7 Ea) (C2 Qa) (F8 2 ws) h:=by
  obtain ⟨Q0,E0,hQ,hE,z⟩:=z
  match ws,hl with
  | [x_self,x_name],_=> exact B7B hQ hE x_self x_name h z
theorem B6x {Q0:List N3→AH→Prop} {Qa:List B8→AH→Prop} (hQ:∀mls h,Q0 mls h→Qa (mls.map upc) h) (x_mbook x_far:W):∀h,A2s x_mbook x_far (fun mls h' _ _=> Q0 mls h') h (fun _ _=> False) (fun _ _=> False)→A32 (fun sps _ h'=> ∃tps,Imps sps tps∧Qa tps h') [some (.val x_mbook),some (.val x_far),none,none] h:=by
  unfold A2s A32
  exact (X0 (fun x_long_row=> [some (.val x_mbook),some (.val x_far),some (.val x_long_row),none]) (fun _=> rfl) (A4 (B9 T3 (SN.se (B9 l5 (SN.se (P0 (A7 (A4 (M6 (A7 (A4 A6) (A7 (A4 A6) (A7 (A4 A6) B6))))) B6))) (SN.se A6))) (SN.se (P0 (A7 (A4 (M6 (A7 (A4 A6) (A7 (A4 A6) (A7 (A4 A6) B6))))) B6))))) (fun x_long_row=> (C04 (Q:=fun _ _=> False) (E:=fun _ _=> False) hQ rfl (.cons (c6 (fun Q E E' he=> (SN.se (L8 (he _) (SN.se (A8 rfl)) (A7 (A4 A6) (A7 (A4 (P0 (A7 (A4 (M6 B6)) B6))) B6)))))) (.cons (c6 (fun Q E E' he=> (SN.se (L8 (he _) (SN.se (A8 rfl)) (A7 (A4 A6) (A7 (A4 (P0 (A7 (A4 (M6 (A7 (A4 A6) (A7 (A4 A6) (A7 (A4 A6) B6))))) (A7 (A4 (M6 (A7 (A4 A6) (A7 (A4 (A8 rfl)) (A7 (A4 A6) B6))))) B6)))) B6)))))) (.cons (c6 (fun Q E E' he=> (SN.se (L8 (he _) (SN.se (A8 rfl)) (A7 (A4 A6) (A7 (A4 (P0 (A7 (A4 (M6 (A7 (A4 A6) (A7 (A4 (A8 rfl)) (A7 (A4 A6) B6))))) (A7 (A4 (M6 (A7 (A4 A6) (A7 (A4 (A8 rfl)) (A7 (A4 A6) B6))))) B6)))) B6)))))) (.cons (c6 (fun Q E E' he=> (SN.se (L8 (he _) (SN.se (A8 rfl)) (A7 (A4 A6) (A7 (A4 (B9 T3 (SN.se (P0 (A7 (A4 (M6 (A7 (A4 A6) (A7 (A4 A6) (A7 (A4 A6) B6))))) (A7 (A4 (M6 (A7 (A4 A6) (A7 (A4 A6) (A7 (A4 A6) B6))))) B6)))) (SN.se (B9 A8w (SN.se (A8 rfl)) (SN.se A6))))) B6)))))) (.cons (c6 (fun Q E E' he=> (SN.se (L8 (he _) (SN.se (A8 rfl)) (A7 (A4 A6) (A7 (A4 (P0 (A7 (A4 (M6 (A7 (A4 A6) (A7 (A4 A6) B6)))) B6))) B6)))))) (.cons (c6 (fun Q E E' he=> (SN.se (L8 (he _) (SN.se (A8 rfl)) (A7 (A4 A6) (A7 (A4 (B9 T3 (SN.se (A8 rfl)) (SN.se (P0 (A7 (A4 (M6 (A7 (A4 A6) (A7 (A4 A6) (A7 (A4 A6) B6))))) B6))))) B6)))))) (.cons (c6 (fun Q E E' he=> (SN.se (L8 (he _) (SN.se (A8 rfl)) (A7 (A4 A6) B6))))) (.cons (c6 (fun Q E E' he=> (SN.se (L8 (he _) (SN.se (A8 rfl)) (A7 (A4 (A8 rfl)) B6))))) (.cons (c6 (fun Q E E' he=> (SN.se (L8 (he _) (SN.se (A8 rfl)) (A7 (A4 (A8 rfl)) B6))))) (.cons (c6 (fun Q E E' he=> (SN.se (L8 (he _) (SN.se (A8 rfl)) (A7 (A4 (A8 rfl)) B6))))) (.cons (c6 (fun Q E E' he=> (SN.se (L8 (he _) (SN.se (A8 rfl)) (A7 (A4 (A8 rfl)) B6))))) .nil))))))))))))))
theorem B6v (ws:List W) (h:AH) (Qa:List B8→AH→Prop) (hl:ws.length=2) (z:A0c A1y ws h Qa):A32 (fun sps _ h'=> ∃tps,Imps sps tps∧Qa tps h') (F8 4 ws) h:=by
  obtain ⟨Q0,hQ,z⟩:=z
  match ws,hl with
  | [x_mbook,x_far],_=> exact B6x hQ x_mbook x_far h z
theorem B6W {Q:RR→AH→Prop} {E:AExc→AH→Prop} {Q':RR→AH→Prop} {E':AExc→AH→Prop} (hQ:∀r h,Q r h→Q' r h) (hE:∀x h,E x h→E' x h) (x_self x_sizes:W):∀h,A3m x_self x_sizes h Q E→A5U (C7 E') (C2 Q') [some (.val x_self),some (.val x_sizes)] h:=by
  have hr_:=P3 hQ
  have he:=O9 hE
  unfold A3m A5U
  exact (D9 (u1 (SN.se (U6 (he _) (A7 (A4 (A8 rfl)) B6))) (fun _=> (E3 (D9 (A87 (A4 (A8 rfl)) (SN.se (A8 rfl)) ((E3 (D9 (A87 (B4T B2U) (SN.se (A8 rfl)) ((E3 (A87 (B4T B2U) (SN.se (A8 rfl)) ((A2Q hQ _)))))))))))))))
theorem B6R (ws:List W) (h:AH) (Qa:RR→AH→Prop) (Ea:AExc→AH→Prop) (hl:ws.length=2) (z:upc A1u ws h Qa Ea):A5U (C7 Ea) (C2 Qa) (F8 2 ws) h:=by
  obtain ⟨Q0,E0,hQ,hE,z⟩:=z
  match ws,hl with
  | [x_self,x_sizes],_=> exact B6W hQ hE x_self x_sizes h z
theorem B63 {Q:RR→AH→Prop} {E:AExc→AH→Prop} {Q':RR→AH→Prop} {E':AExc→AH→Prop} (hQ:∀r h,Q r h→Q' r h) (hE:∀x h,E x h→E' x h) (x_self:W):∀h,A33 x_self h Q E→A5f (C7 E') (C2 Q') [some (.val x_self)] h:=by
  have hr_:=P3 hQ
  generalize C2 Q'=D0 at hr_ ⊢
  obtain ⟨nx0,rt0,bk0,ct0⟩:=D0
  have hr_:∀r s env h,Rl env r s→Q s.rr h→rt0 r env h:=hr_
  have he:=O9 hE
  unfold A33 A5f
  exact (K8 hr_ (SN.se (L0 B9Z (G3 (SN.se (f7 (SN.se (A8 rfl)))) K7))))
theorem B67 (ws:List W) (h:AH) (Qa:RR→AH→Prop) (Ea:AExc→AH→Prop) (hl:ws.length=1) (z:upc p9 ws h Qa Ea):A5f (C7 Ea) (C2 Qa) (F8 1 ws) h:=by
  obtain ⟨Q0,E0,hQ,hE,z⟩:=z
  match ws,hl with
  | [x_self],_=> exact B63 hQ hE x_self h z
theorem B6k {Q:RR→AH→Prop} {E:AExc→AH→Prop} {Q':RR→AH→Prop} {E':AExc→AH→Prop} (hQ:∀r h,Q r h→Q' r h) (hE:∀x h,E x h→E' x h) (x_self:W):∀h,A3t x_self h Q E→A5a (C7 E') (C2 Q') [some (.val x_self)] h:=by
  have hr_:=P3 hQ
  generalize C2 Q'=D0 at hr_ ⊢
  obtain ⟨nx0,rt0,bk0,ct0⟩:=D0
  have hr_:∀r s env h,Rl env r s→Q s.rr h→rt0 r env h:=hr_
  have he:=O9 hE
  unfold A3t A5a
  exact (K8 hr_ (SN.se (L0 B3K (G3 (SN.se (f7 (SN.se (A8 rfl)))) K7))))
theorem B6d (ws:List W) (h:AH) (Qa:RR→AH→Prop) (Ea:AExc→AH→Prop) (hl:ws.length=1) (z:upc o8 ws h Qa Ea):A5a (C7 Ea) (C2 Qa) (F8 1 ws) h:=by
  obtain ⟨Q0,E0,hQ,hE,z⟩:=z
  match ws,hl with
  | [x_self],_=> exact B6k hQ hE x_self h z
theorem C3R {Q:RR→AH→Prop} {E:AExc→AH→Prop} {Q':RR→AH→Prop} {E':AExc→AH→Prop} (hQ:∀r h,Q r h→Q' r h) (hE:∀x h,E x h→E' x h) (x_script:W):∀h,A4g x_script h Q E→A7H (C7 E') (C2 Q') [some (.val x_script),none,none,none,none,none,none,none,none,none] h:=by
  have hr_:=P3 hQ
  generalize C2 Q'=D0 at hr_ ⊢
  obtain ⟨nx0,rt0,bk0,ct0⟩:=D0
  have hr_:∀r s env h,Rl env r s→Q s.rr h→rt0 r env h:=hr_
  have he:=O9 hE
  unfold A4g A7H
  exact (D9 (A9L (fun x_bag=> [some (.val x_script),some x_bag,none,none,none,none,none,none,none,none]) (fun _=> rfl) (U6 (he _) (A7 (A4 (A8 rfl)) B6)) (fun x_bag=> (E3 (D9 (C1G (fun x_bag=> [some (.val x_script),some (.val x_bag),none,none,none,none,none,none,none,none]) (fun _=> rfl) rfl (fun x_bag=> (X0 (fun x_msizes=> [some (.val x_script),some (.val x_bag),some (.val x_msizes),none,none,none,none,none,none,none]) (fun _=> rfl) (A4 (U6 (he _) (A7 (A4 (A8 rfl)) B6))) (fun x_msizes=> (E3 (D9 (X0 (fun x_far=> [some (.val x_script),some (.val x_bag),some (.val x_msizes),some (.val x_far),none,none,none,none,none,none]) (fun _=> rfl) (A4 (B9 A8w (SN.se A6) (SN.se (B9 T3 (SN.se A6) (SN.se (U6 (he _) (A7 (A4 (A8 rfl)) (A7 (A4 A6) B6)))))))) (fun x_far=> (E3 (D9 (X0 (fun x_mbook=> [some (.val x_script),some (.val x_bag),some (.val x_msizes),some (.val x_far),some (.val x_mbook),none,none,none,none,none]) (fun _=> rfl) (A4 (C1b (he _) (A7 (A4 (A8 rfl)) B6))) (fun x_mbook=> (E3 (D9 (u1 (SN.se (L8 (he _) (SN.se (A8 rfl)) (A7 (A4 A6) (A7 (A4 (B9 l5 (SN.se (P0 (A7 (A4 (M6 (A7 (A4 A6) (A7 (A4 A6) (A7 (A4 A6) B6))))) B6))) (SN.se A6))) B6)))) (fun _=> (E3 (D9 (u1 (SN.se (L8 (he _) (SN.se (A8 rfl)) (A7 (A4 A6) (A7 (A4 (P0 (A7 (A4 (M6 (A7 (A4 A6) (A7 (A4 A6) (A7 (A4 A6) B6))))) B6))) B6)))) (fun _=> (E3 (D9 (X0 (fun x_kept=> [some (.val x_script),some (.val x_bag),some (.val x_msizes),some (.val x_far),some (.val x_mbook),some (.val x_kept),none,none,none,none]) (fun _=> rfl) (A4 (P0 (A7 (A4 (L8 (he _) (SN.se (A8 rfl)) B6)) (A7 (A4 (L8 (he _) (SN.se (A8 rfl)) (A7 (A4 A6) B6))) (A7 (A4 (L8 (he _) (SN.se (A8 rfl)) (A7 (A4 A6) B6))) (A7 (A4 (L8 (he _) (SN.se (A8 rfl)) (A7 (A4 A6) B6))) B6)))))) (fun x_kept=> (E3 (D9 (X0 (fun x_due=> [some (.val x_script),some (.val x_bag),some (.val x_msizes),some (.val x_far),some (.val x_mbook),some (.val x_kept),some (.val x_due),none,none,none]) (fun _=> rfl) (A4 (P0 (A7 (A4 (M6 (A7 (A4 A6) (A7 (A4 A6) B6)))) (A7 (A4 (M6 (A7 (A4 A6) (A7 (A4 (A8 rfl)) B6)))) (A7 (A4 (M6 (A7 (A4 A6) (A7 (A4 (M6 (A7 (A4 A6) (A7 (A4 A6) B6)))) B6)))) (A7 (A4 (M6 (A7 (A4 A6) (A7 (A4 (M6 (A7 (A4 A6) (A7 (A4 A6) B6)))) B6)))) (A7 (A4 (M6 (A7 (A4 A6) (A7 (A4 (M6 (A7 (A4 A6) (A7 (A4 (A6o (SN.se A6))) B6)))) B6)))) B6))))))) (fun x_due=> (E3 (D9 (X0 (fun x_due=> [some (.val x_script),some (.val x_bag),some (.val x_msizes),some (.val x_far),some (.val x_mbook),some (.val x_kept),some (.val x_due),none,none,none]) (fun _=> rfl) (A4 (B9 T3 (SN.se (B9 T3 (SN.se (A8 rfl)) (SN.se (P0 (A7 (A4 (M6 (A7 (A4 A6) (A7 (A4 A6) B6)))) (A7 (A4 (M6 (A7 (A4 A6) (A7 (A4 A6) B6)))) B6)))))) (SN.se (B9 l5 (SN.se (P0 (A7 (A4 (M6 (A7 (A4 A6) (A7 (A4 (A8 rfl)) B6)))) B6))) (SN.se A6))))) (fun x_due=> (E3 (D9 (N4 (A2a (I5 (SN.se (U6 (he _) (A7 (A4 (C12 (C1O (A7 (A4 (A8 rfl)) (A7 (A4 (A8 rfl)) B6))) (fun fa_=> [some (.val x_script),some (.val x_bag),some (.val x_msizes),some (.val x_far),some (.val x_mbook),some (.val x_kept),some (.val x_due),some (.val (.ref fa_)),none,none]) (fun _=> rfl) (fun _=> rfl) (fun fa_ ml_=> (A4 (C2R rfl (fun f sp hs ws h Qa Ea hl z=> A70 f sp hs ws h Qa Ea hl z)))))) (A7 (A4 (A8 rfl)) B6)))))) (K8 hr_ (SN.se A6)) (P5 (E3 (D9 (N4 (I5 (SN.se (B9 V0 (SN.se (P0 (A7 (A4 (L8 (he _) (SN.se (A8 rfl)) B6)) (A7 (A4 (L8 (he _) (SN.se (A8 rfl)) (A7 (A4 A6) B6))) (A7 (A4 (L8 (he _) (SN.se (A8 rfl)) (A7 (A4 A6) B6))) (A7 (A4 (L8 (he _) (SN.se (A8 rfl)) (A7 (A4 A6) B6))) B6)))))) (SN.se (A8 rfl))))) (K8 hr_ (SN.se A6)) (P5 (E3 (D9 (u1 (SN.se (L8 (he _) (SN.se (A8 rfl)) (A7 (A4 A6) (A7 (A4 (P0 (A7 (A4 (M6 (A7 (A4 A6) (A7 (A4 A6) (A7 (A4 A6) B6))))) (A7 (A4 (M6 (A7 (A4 A6) (A7 (A4 A6) (A7 (A4 A6) B6))))) (A7 (A4 (M6 (A7 (A4 A6) (A7 (A4 A6) (A7 (A4 A6) B6))))) B6))))) B6)))) (fun _=> (E3 (D9 (N4 (A4r (I5 (SN.se (B9 V0 (SN.se (L0 X9 (G3 (SN.se (L8 (he _) (SN.se (A8 rfl)) (A7 (A4 A6) B6))) K7))) (SN.se A6)))) (I5 (SN.se (B9 V0 (SN.se (A8O (he _) (fun f sp hs ws h Qa Ea hl z=> A70 f sp hs ws h Qa Ea hl z) (c6 (fun Q E E' he=> (SN.se (L8 (he _) (SN.se (A8 rfl)) (A7 (A4 A6) B6))))) (A6b B6))) (SN.se (M6 (A7 (A4 A6) (A7 (A4 A6) B6)))))))) (K8 hr_ (SN.se A6)) (P5 (E3 (D9 (B85 (fun (s13:Unit) (j14:Unit)=> [some (.val x_script),some (.val x_bag),some (.val x_msizes),some (.val x_far),some (.val x_mbook),some (.val x_kept),some (.val x_due),none,none,none]) () () rfl (fun s13 j14=> (I5 (SN.se (B9 A91 (SN.se (B4g A6S (SN.se (A8 rfl)))) (SN.se A6))))) (fun s13 j14=> (E3 (D9 (B9a (fun x_words=> [some (.val x_script),some (.val x_bag),some (.val x_msizes),some (.val x_far),some (.val x_mbook),some (.val x_kept),some (.val x_due),none,some x_words,none]) (fun _=> rfl) (B2l (A4 (P0 (A7 (A4 A6) (A7 (A4 A6) (A7 (A4 A6) (A7 (A4 A6) B6))))))) (fun x_odd h kk K1 K0 h1 h0 z=> by exact A26 (e1:=[some (.val x_script),some (.val x_bag),some (.val x_msizes),some (.val x_far),some (.val x_mbook),some (.val x_kept),some (.val x_due),none,none,some (.val x_odd)]) i8 A3J (A4 (B9 M0 (SN.se (B73 (fun f sp hs ws h Qa Ea hl z=> B1B f sp hs ws h Qa Ea hl z) (c6 (fun Q E E' he=> (SN.se (L8 (he _) (SN.se (A8 rfl)) (A7 (A4 (A8 rfl)) (A7 (A4 (P0 (A7 (A4 (M6 B6)) B6))) B6)))))) (A6b B6))) (SN.se A6))) rfl h1 h0 z) (fun x_words=> (E3 (D9 (A9w (fun x_words=> [some (.val x_script),some (.val x_bag),some (.val x_msizes),some (.val x_far),some (.val x_mbook),some (.val x_kept),some (.val x_due),none,some x_words,none]) (fun _=> rfl) A8R rfl (A7 (A4 (B9 M0 (SN.se (A8O (he _) (fun f sp hs ws h Qa Ea hl z=> B1B f sp hs ws h Qa Ea hl z) (c6 (fun Q E E' he=> (SN.se (L8 (he _) (SN.se (A8 rfl)) (A7 (A4 A6) (A7 (A4 (P0 (A7 (A4 (M6 B6)) B6))) B6)))))) (A6b B6))) (SN.se A6))) B6) (fun x_words _=> (E3 (D9 (N4 (A4r (I5 (SN.se (B9 V0 (m6 rfl) (SN.se (B9 T3 (SN.se (B9 l5 (SN.se (P0 (A7 (A4 A6) B6))) (SN.se A6))) (SN.se (P0 (A7 (A4 A6) B6)))))))) (I5 (SN.se (B9 V0 (SN.se (A8O (he _) (fun f sp hs ws h Qa Ea hl z=> A70 f sp hs ws h Qa Ea hl z) (c6 (fun Q E E' he=> (SN.se (L8 (he _) (SN.se (A8 rfl)) (A7 (A4 A6) (A7 (A4 (P0 (A7 (A4 (M6 B6)) B6))) B6)))))) (A6b B6))) (SN.se (M6 (A7 (A4 A6) (A7 (A4 A6) B6)))))))) (K8 hr_ (SN.se A6)) (P5 (E3 (K8 hr_ (SN.se (U6 (he _) (A7 (A4 (P0 (A7 (A4 A6) (A7 (A4 A6) (A7 (A4 A6) B6))))) (A7 (A4 (P0 (A7 (A4 A6) (A7 (A4 A6) (A7 (A4 A6) B6))))) B6))))))))))))))))))) (fun R18 s13 j14 kn15 _ N17 h z=> (u1 (SN.se (L8 (he _) (SN.se (A8 rfl)) (A7 (A4 (B9 T3 (SN.se A6) (SN.se (B9 M0 (SN.se A6) (SN.se (B4g A6S (SN.se (A8 rfl)))))))) (A7 (A4 (P0 B6)) B6)))) (fun _=> (fun h z=> N17 () () h z))) h z)))))))))))))))))))))))))))))))))))))))))))))))))))))))))
theorem C3f (ws:List W) (h:AH) (Qa:RR→AH→Prop) (Ea:AExc→AH→Prop) (hl:ws.length=1) (z:upc m_law ws h Qa Ea):A7H (C7 Ea) (C2 Qa) (F8 10 ws) h:=by
  obtain ⟨Q0,E0,hQ,hE,z⟩:=z
  match ws,hl with
  | [x_script],_=> exact C3R hQ hE x_script h z
end Ab
namespace Ab
open PySem PySem.Spec PyProof.Rows L2 RZ
abbrev A8C:List Str:=["sizes","cask","size"]
abbrev A4A:List Str:=["sizes"]
theorem B1V:FnScope A8C A4A (defScope a9):=⟨rfl,rfl,rfl,by decide+kernel,rfl,by decide+kernel,by decide+kernel⟩
theorem B7R:T2 "look_sizes" a9 A4A:=fun _ _ _ _ _ _ us hl=> match us,hl with | [_],_=> rfl
abbrev A8J:List Str:=["word","many","casks"]
abbrev A4K:List Str:=["word","many","casks"]
theorem B1l:FnScope A8J A4K (defScope b5):=⟨rfl,rfl,rfl,by decide+kernel,rfl,by decide+kernel,by decide+kernel⟩
theorem B7k:T2 "has_count" b5 A4K:=fun _ _ _ _ _ _ us hl=> match us,hl with | [_,_,_],_=> rfl
abbrev A8E:List Str:=["things","start","casks","at","cask"]
abbrev A4I:List Str:=["things","start","casks"]
theorem B1n:FnScope A8E A4I (defScope b7):=⟨rfl,rfl,rfl,by decide+kernel,rfl,by decide+kernel,by decide+kernel⟩
theorem B1r:T2 "first_bad" b7 A4I:=fun _ _ _ _ _ _ us hl=> match us,hl with | [_,_,_],_=> rfl
abbrev A8Q:List Str:=["sizes","deed","word","things","bad","many","casks"]
abbrev A4O:List Str:=["sizes","deed"]
theorem B16:FnScope A8Q A4O (defScope b9):=⟨rfl,rfl,rfl,by decide+kernel,rfl,by decide+kernel,by decide+kernel⟩
theorem B8R:T2 "fault_of" b9 A4O:=fun _ _ _ _ _ _ us hl=> match us,hl with | [_,_],_=> rfl
abbrev A6D:List Str:=["text","sign"]
abbrev A4P:List Str:=["text"]
theorem B19:FnScope A6D A4P (defScope X7):=⟨rfl,rfl,rfl,by decide+kernel,rfl,by decide+kernel,by decide+kernel⟩
theorem B8n:T2 "is_name" X7 A4P:=fun _ _ _ _ _ _ us hl=> match us,hl with | [_],_=> rfl
abbrev A8Y:List Str:=["step"]
abbrev r9:List Str:=["step"]
theorem B2C:FnScope A8Y r9 (defScope T1):=⟨rfl,rfl,rfl,by decide+kernel,rfl,by decide+kernel,by decide+kernel⟩
theorem A4R:T2 "is_call" T1 r9:=fun _ _ _ _ _ _ us hl=> match us,hl with | [_],_=> rfl
abbrev A8B:List Str:=["step"]
abbrev A4C:List Str:=["step"]
theorem B1R:FnScope A8B A4C (defScope b4):=⟨rfl,rfl,rfl,by decide+kernel,rfl,by decide+kernel,by decide+kernel⟩
theorem B7P:T2 "call_fault" b4 A4C:=fun _ _ _ _ _ _ us hl=> match us,hl with | [_],_=> rfl
abbrev A8H:List Str:=["_law_script"]
abbrev A4L:List Str:=["_law_script"]
theorem B1f:FnScope A8H A4L (defScope b8):=⟨rfl,rfl,rfl,by decide+kernel,rfl,by decide+kernel,by decide+kernel⟩
theorem B7o:T2 "_law_open" b8 A4L:=fun _ _ _ _ _ _ us hl=> match us,hl with | [_],_=> rfl
abbrev A8K:List Str:=["_law_bag","_law_sides","_law_cell","_law_side","_law_mix"]
abbrev A0m:List Str:=["_law_bag","_law_sides"]
theorem B1w:FnScope A8K A0m (defScope U5):=⟨rfl,rfl,rfl,by decide+kernel,rfl,by decide+kernel,by decide+kernel⟩
theorem A5v:T2 "_law_take" U5 A0m:=fun _ _ _ _ _ _ us hl=> match us,hl with | [_,_],_=> rfl
abbrev A8F:List Str:=["_law_bag","_law_row"]
abbrev A4J:List Str:=["_law_bag","_law_row"]
theorem B1d:FnScope A8F A4J (defScope b6):=⟨rfl,rfl,rfl,by decide+kernel,rfl,by decide+kernel,by decide+kernel⟩
theorem B7f:T2 "_law_pick" b6 A4J:=fun _ _ _ _ _ _ us hl=> match us,hl with | [_,_],_=> rfl
abbrev A5r:List Str:=["_law_found","_law_due","_law_at"]
abbrev A2A:List Str:=["_law_found","_law_due"]
theorem B1h:FnScope A5r A2A (defScope W6):=⟨rfl,rfl,rfl,by decide+kernel,rfl,by decide+kernel,by decide+kernel⟩
theorem A8N:T2 "_law_same" W6 A2A:=fun _ _ _ _ _ _ us hl=> match us,hl with | [_,_],_=> rfl
abbrev A5x:List Str:=["_law_ask","_law_told","_law_word_here","e"]
abbrev B1q:List Str:=["_law_ask"]
theorem A8I:FnScope A5x B1q (defScope X6):=⟨rfl,rfl,rfl,by decide+kernel,rfl,by decide+kernel,by decide+kernel⟩
theorem B1p:T2 "_law_word" X6 B1q:=fun _ _ _ _ _ _ us hl=> match us,hl with | [_],_=> rfl
abbrev A5h:List Str:=["_law_bag","_law_mcasks","_law_most","_law_mcask"]
abbrev A4G:List Str:=["_law_bag","_law_mcasks","_law_most"]
theorem B1b:FnScope A5h A4G (defScope X4):=⟨rfl,rfl,rfl,by decide+kernel,rfl,by decide+kernel,by decide+kernel⟩
theorem B7H:T2 "_law_sizes" X4 A4G:=fun _ _ _ _ _ _ us hl=> match us,hl with | [_,_,_],_=> rfl
abbrev A7x:List Str:=["_law_bag"]
abbrev A3v:List Str:=["_law_bag"]
theorem B00:FnScope A7x A3v (defScope Z6):=⟨rfl,rfl,rfl,by decide+kernel,rfl,by decide+kernel,by decide+kernel⟩
theorem B6b:T2 "_law_any_sizes" Z6 A3v:=fun _ _ _ _ _ _ us hl=> match us,hl with | [_],_=> rfl
abbrev A5l:List Str:=["_law_ask","_law_found","e"]
abbrev B1c:List Str:=["_law_ask"]
theorem A5i:FnScope A5l B1c (defScope X5):=⟨rfl,rfl,rfl,by decide+kernel,rfl,by decide+kernel,by decide+kernel⟩
theorem A8A:T2 "_law_field" X5 B1c:=fun _ _ _ _ _ _ us hl=> match us,hl with | [_],_=> rfl
abbrev A7y:List Str:=["self","name"]
abbrev A3w:List Str:=["self","name"]
theorem B0y:FnScope A7y A3w (defScope Z3):=⟨rfl,rfl,rfl,by decide+kernel,rfl,by decide+kernel,by decide+kernel⟩
theorem B6G:U7 "Book" "look_new" Z3 A3w:=fun _ _ _ _ _ _ us hl=> match us,hl with | [_,_],_=> rfl
abbrev A7w:List Str:=["self","steps","found","step"]
abbrev A3x:List Str:=["self","steps"]
theorem B03:FnScope A7w A3x (defScope Z4):=⟨rfl,rfl,rfl,by decide+kernel,rfl,by decide+kernel,by decide+kernel⟩
theorem B6E:U7 "Book" "laid_out" Z4 A3x:=fun _ _ _ _ _ _ us hl=> match us,hl with | [_,_],_=> rfl
abbrev A75:List Str:=["self","name"]
abbrev o9:List Str:=["self","name"]
theorem B1H:FnScope A75 o9 (defScope T0):=⟨rfl,rfl,rfl,by decide+kernel,rfl,by decide+kernel,by decide+kernel⟩
theorem A5d:U7 "Book" "there" T0 o9:=fun _ _ _ _ _ _ us hl=> match us,hl with | [_,_],_=> rfl
abbrev A7v:List Str:=["self","at","step","place"]
abbrev A3n:List Str:=["self","at","step"]
theorem B0w:FnScope A7v A3n (defScope Z2):=⟨rfl,rfl,rfl,by decide+kernel,rfl,by decide+kernel,by decide+kernel⟩
theorem B6B:U7 "Book" "look_step" Z2 A3n:=fun _ _ _ _ _ _ us hl=> match us,hl with | [_,_,_],_=> rfl
abbrev A5e:List Str:=["self","steps","step"]
abbrev A34:List Str:=["self","steps"]
theorem B1C:FnScope A5e A34 (defScope X3):=⟨rfl,rfl,rfl,by decide+kernel,rfl,by decide+kernel,by decide+kernel⟩
theorem B6h:U7 "Book" "length" X3 A34:=fun _ _ _ _ _ _ us hl=> match us,hl with | [_,_],_=> rfl
abbrev A73:List Str:=["self","name","steps","at","step"]
abbrev A13:List Str:=["self","name","steps"]
theorem B1O:FnScope A73 A13 (defScope W3):=⟨rfl,rfl,rfl,by decide+kernel,rfl,by decide+kernel,by decide+kernel⟩
theorem i3:U7 "Book" "write" W3 A13:=fun _ _ _ _ _ _ us hl=> match us,hl with | [_,_,_],_=> rfl
abbrev A5Y:List Str:=["self","name","found","other","steps","step"]
abbrev A1x:List Str:=["self","name"]
theorem B1A:FnScope A5Y A1x (defScope V5):=⟨rfl,rfl,rfl,by decide+kernel,rfl,by decide+kernel,by decide+kernel⟩
theorem B0x:U7 "Book" "callers" V5 A1x:=fun _ _ _ _ _ _ us hl=> match us,hl with | [_,_],_=> rfl
abbrev A78:List Str:=["self","name","found"]
abbrev A15:List Str:=["self","name"]
theorem B1X:FnScope A78 A15 (defScope W4):=⟨rfl,rfl,rfl,by decide+kernel,rfl,by decide+kernel,by decide+kernel⟩
theorem A74:U7 "Book" "drop" W4 A15:=fun _ _ _ _ _ _ us hl=> match us,hl with | [_,_],_=> rfl
abbrev A72:List Str:=["self","name"]
abbrev A11:List Str:=["self","name"]
theorem B1K:FnScope A72 A11 (defScope W2):=⟨rfl,rfl,rfl,by decide+kernel,rfl,by decide+kernel,by decide+kernel⟩
theorem A31:U7 "Book" "steps" W2 A11:=fun _ _ _ _ _ _ us hl=> match us,hl with | [_,_],_=> rfl
abbrev A79:List Str:=["self","name"]
abbrev A14:List Str:=["self","name"]
theorem B1S:FnScope A79 A14 (defScope W5):=⟨rfl,rfl,rfl,by decide+kernel,rfl,by decide+kernel,by decide+kernel⟩
theorem A5g:U7 "Book" "flat" W5 A14:=fun _ _ _ _ _ _ us hl=> match us,hl with | [_,_],_=> rfl
abbrev R0:List Str:=["_law_mbook","_law_far","_law_long_row","_law_asks_here"]
abbrev A4M:List Str:=["_law_mbook","_law_far"]
theorem B1m:FnScope R0 A4M (defScope M3):=⟨rfl,rfl,rfl,by decide+kernel,rfl,by decide+kernel,by decide+kernel⟩
theorem B7l:T2 "_law_asks" M3 A4M:=fun _ _ _ _ _ _ us hl=> match us,hl with | [_,_],_=> rfl
abbrev A7z:List Str:=["self","sizes"]
abbrev A3r:List Str:=["self","sizes"]
theorem B0z:FnScope A7z A3r (defScope Z5):=⟨rfl,rfl,rfl,by decide+kernel,rfl,by decide+kernel,by decide+kernel⟩
theorem B6C:U7 "Book" "__init__" Z5 A3r:=fun _ _ _ _ _ _ us hl=> match us,hl with | [_,_],_=> rfl
abbrev A76:List Str:=["self"]
abbrev A38:List Str:=["self"]
theorem B1I:FnScope A76 A38 (defScope Z9):=⟨rfl,rfl,rfl,by decide+kernel,rfl,by decide+kernel,by decide+kernel⟩
theorem B1E:U7 "Book" "names" Z9 A38:=fun _ _ _ _ _ _ us hl=> match us,hl with | [_],_=> rfl
abbrev A71:List Str:=["self"]
abbrev A3z:List Str:=["self"]
theorem B08:FnScope A71 A3z (defScope Z8):=⟨rfl,rfl,rfl,by decide+kernel,rfl,by decide+kernel,by decide+kernel⟩
theorem B05:U7 "Book" "__len__" Z8 A3z:=fun _ _ _ _ _ _ us hl=> match us,hl with | [_],_=> rfl
abbrev i6:List Str:=["_law_script","_law_bag","_law_msizes","_law_far","_law_mbook","_law_kept","_law_due","_law_ask","_law_words","_law_odd"]
abbrev A65:List Str:=["_law_script"]
theorem B4v:FnScope i6 A65 (defScope T9):=⟨rfl,rfl,rfl,by decide+kernel,rfl,by decide+kernel,by decide+kernel⟩
theorem B8N:FnScope ["self"] ["self"] (defScope A53):=⟨rfl,rfl,rfl,by decide+kernel,rfl,by decide+kernel,by decide+kernel⟩
theorem B8i:FnScope ["self","step","place"] ["self","step","place"] (defScope A6C):=⟨rfl,rfl,rfl,by decide+kernel,rfl,by decide+kernel,by decide+kernel⟩
theorem B7j:FnScope ["self","cask"] ["self","cask"] (defScope A5p):=⟨rfl,rfl,rfl,by decide+kernel,rfl,by decide+kernel,by decide+kernel⟩
theorem B9v:FnScope ["self","name"] ["self","name"] (defScope A6M):=⟨rfl,rfl,rfl,by decide+kernel,rfl,by decide+kernel,by decide+kernel⟩
theorem B8F:FnScope ["self","name"] ["self","name"] (defScope A54):=⟨rfl,rfl,rfl,by decide+kernel,rfl,by decide+kernel,by decide+kernel⟩
theorem B6t:FnScope ["self"] ["self"] (defScope A5c):=⟨rfl,rfl,rfl,by decide+kernel,rfl,by decide+kernel,by decide+kernel⟩
theorem B9f:FnScope ["self","name"] ["self","name"] (defScope A6J):=⟨rfl,rfl,rfl,by decide+kernel,rfl,by decide+kernel,by decide+kernel⟩
theorem B8B:FnScope ["self","most"] ["self","most"] (defScope A52):=⟨rfl,rfl,rfl,by decide+kernel,rfl,by decide+kernel,by decide+kernel⟩
theorem B8P:FnScope ["self","most"] ["self","most"] (defScope A55):=⟨rfl,rfl,rfl,by decide+kernel,rfl,by decide+kernel,by decide+kernel⟩
end Ab
namespace Ab
open PySem PySem.Spec PyProof.Rows L2 RZ
structure Blt (K:PySem.W.Frag) (w:World) (mg:Str→Option Value):Prop where
  n_all:mg "all"=none
  n_any:mg "any"=none
  n_bool:mg "bool"=none
  n_enumerate:mg "enumerate"=none
  n_int:mg "int"=none
  n_isinstance:mg "isinstance"=none
  n_len:mg "len"=none
  n_list:mg "list"=none
  n_range:mg "range"=none
  n_str:mg "str"=none
  n_sum:mg "sum"=none
  n_tuple:mg "tuple"=none
  c_GREAT:∃t,mg "GREAT"=some (.int 1000000000000000000000000000000 t)
  c_LETTERS:∃t,mg "LETTERS"=some (.str ("abcdefghijklmnopqrstuvwxyz":Str) t)
  c_LONGEST:∃t,mg "LONGEST"=some (.int 8 t)
  c_MOST_CALLS:∃t,mg "MOST_CALLS"=some (.int 9 t)
  c_MOST_CASKS:∃t,mg "MOST_CASKS"=some (.int 6 t)
  c_MOST_FLAT:∃t,mg "MOST_FLAT"=some (.int 200 t)
  c_MOST_ROUNDS:∃t,mg "MOST_ROUNDS"=some (.int 12 t)
  c_MOST_SIZE:∃t,mg "MOST_SIZE"=some (.int 40 t)
  c_PATHS:∃a vs,mg "PATHS"=some (.ref a)∧(∀H,SqT K H a vs)∧∀H,RepL K H [.str ("over":Str),.str ("down":Str)] vs
  c_PLAIN:∃a vs,mg "PLAIN"=some (.ref a)∧(∀H,SqT K H a vs)∧∀H,RepL K H [.str ("swap":Str),.str ("tap":Str),.str ("drain":Str)] vs
  h_BadRow:mg "BadRow"=some (.ref (He.ga K "BadRow"))
  h_HideError:mg "HideError"=some (.ref (He.ga K "HideError"))
  h_InUse:mg "InUse"=some (.ref (He.ga K "InUse"))
  h_Missing:mg "Missing"=some (.ref (He.ga K "Missing"))
  h_NoRound:mg "NoRound"=some (.ref (He.ga K "NoRound"))
  h_NothingLeft:mg "NothingLeft"=some (.ref (He.ga K "NothingLeft"))
  h_Taken:mg "Taken"=some (.ref (He.ga K "Taken"))
  h_TooLong:mg "TooLong"=some (.ref (He.ga K "TooLong"))
  h_TooMany:mg "TooMany"=some (.ref (He.ga K "TooMany"))
  x_BadRow:∀k∈(["BadName","BadRow","BadSizes","InUse","NoRound","NothingLeft","Taken","TooLong","TooMany"]:List Str),PySem.W.exmOne K (.ref (He.ga K k)) (.ref (He.ga K "BadRow"))=some (K4 k "BadRow")
  x_HideError:∀k∈(["BadName","BadRow","BadSizes","InUse","NoRound","NothingLeft","Taken","TooLong","TooMany"]:List Str),PySem.W.exmOne K (.ref (He.ga K k)) (.ref (He.ga K "HideError"))=some (K4 k "HideError")
  x_InUse:∀k∈(["BadName","BadRow","BadSizes","InUse","NoRound","NothingLeft","Taken","TooLong","TooMany"]:List Str),PySem.W.exmOne K (.ref (He.ga K k)) (.ref (He.ga K "InUse"))=some (K4 k "InUse")
  x_Missing:∀k∈(["BadName","BadRow","BadSizes","InUse","NoRound","NothingLeft","Taken","TooLong","TooMany"]:List Str),PySem.W.exmOne K (.ref (He.ga K k)) (.ref (He.ga K "Missing"))=some (K4 k "Missing")
  x_NoRound:∀k∈(["BadName","BadRow","BadSizes","InUse","NoRound","NothingLeft","Taken","TooLong","TooMany"]:List Str),PySem.W.exmOne K (.ref (He.ga K k)) (.ref (He.ga K "NoRound"))=some (K4 k "NoRound")
  x_NothingLeft:∀k∈(["BadName","BadRow","BadSizes","InUse","NoRound","NothingLeft","Taken","TooLong","TooMany"]:List Str),PySem.W.exmOne K (.ref (He.ga K k)) (.ref (He.ga K "NothingLeft"))=some (K4 k "NothingLeft")
  x_Taken:∀k∈(["BadName","BadRow","BadSizes","InUse","NoRound","NothingLeft","Taken","TooLong","TooMany"]:List Str),PySem.W.exmOne K (.ref (He.ga K k)) (.ref (He.ga K "Taken"))=some (K4 k "Taken")
  x_TooLong:∀k∈(["BadName","BadRow","BadSizes","InUse","NoRound","NothingLeft","Taken","TooLong","TooMany"]:List Str),PySem.W.exmOne K (.ref (He.ga K k)) (.ref (He.ga K "TooLong"))=some (K4 k "TooLong")
  x_TooMany:∀k∈(["BadName","BadRow","BadSizes","InUse","NoRound","NothingLeft","Taken","TooLong","TooMany"]:List Str),PySem.W.exmOne K (.ref (He.ga K k)) (.ref (He.ga K "TooMany"))=some (K4 k "TooMany")
  f_most:∀c∈(["BadName","BadRow","BadSizes","InUse","NoRound","NothingLeft","Taken","TooLong","TooMany"]:List Str),XfC K (He.ga K c)∧PySem.W.findIn K (.ref (He.ga K c)) "most"=some none
  f_name:∀c∈(["BadName","BadRow","BadSizes","InUse","NoRound","NothingLeft","Taken","TooLong","TooMany"]:List Str),XfC K (He.ga K c)∧PySem.W.findIn K (.ref (He.ga K c)) "name"=some none
  f_place:∀c∈(["BadName","BadRow","BadSizes","InUse","NoRound","NothingLeft","Taken","TooLong","TooMany"]:List Str),XfC K (He.ga K c)∧PySem.W.findIn K (.ref (He.ga K c)) "place"=some none
  f_step:∀c∈(["BadName","BadRow","BadSizes","InUse","NoRound","NothingLeft","Taken","TooLong","TooMany"]:List Str),XfC K (He.ga K c)∧PySem.W.findIn K (.ref (He.ga K c)) "step"=some none
  f_word:∀c∈(["BadName","BadRow","BadSizes","InUse","NoRound","NothingLeft","Taken","TooLong","TooMany"]:List Str),XfC K (He.ga K c)∧PySem.W.findIn K (.ref (He.ga K c)) "word"=some none
  fo_Book_casks:FldOk K "Book" "casks"
  fo_Book_laid:FldOk K "Book" "laid"
  fo_Book_written:FldOk K "Book" "written"
  mk_Book:MkC K mg "Book"
theorem B7G {P:Program} {w:World} {K:PySem.W.Frag} {mg:Str→Option Value} {base:Heap} {f:Addr} {cdv:Value} {A:Around} {outer:List Env} {s:Shared} {H:Hp} {EX:XK} {G:Gx} {E:AExc→A0→AH→Prop} (Z:Blt K w mg) (R_BadSizes:XkOk P w K mg base "BadSizes" "bad sizes" ["cask"]) (hr:Room 2 (A.deeper (envOfC "look_sizes" (defScope a9) s.heap.objs.size f cdv))) (gk:G.K=K) (tk:Takes (bx P w K mg base A8C "look_sizes" (defScope a9) f cdv A outer s H EX) (cW G E)):
    ASs (bx P w K mg base A8C "look_sizes" (defScope a9) f cdv A outer s H EX) G (defBody a9) (A5X E):=by
  subst gk
  have gk:G.K=G.K:=rfl
  have sc:=B1V
  have hu:=hr.units
  exact (D4 (N5 (A2V (A4h op_le op_le ae_int (N2 call_len Y4 rfl Z.n_len U8 (G0 (A5 (pv 0)) K2)) (k8 rfl Z.c_MOST_CASKS))) (D3 (A1U R_BadSizes gk rfl tk hr (by decide) rfl (C1 (A3 (A6h ae_int)) D2))) O6)
    (D3 (B4Y (passes_of rfl) rfl (B3T gk rfl Z.n_enumerate (A3 (A5 (pv 0)))) (A9A gk rfl (A20 (O0 (i:=1) sc.nd rfl (by first | exact .inl rfl | exact .inr rfl)) (A20 (O0 (i:=2) sc.nd rfl (by first | exact .inl rfl | exact .inr rfl)) A8o))) (D3 (N5 (A2V (A4h op_le op_le ae_int (A5 (pv 2)) (k8 rfl Z.c_MOST_SIZE))) (D3 (A1U R_BadSizes gk rfl tk hr (by decide) rfl (C1 (A3 (A5 (pv 1))) D2))) O6)))))
theorem B7Z {P:Program} {w:World} {K:PySem.W.Frag} {mg:Str→Option Value} {base:Heap} {f:Addr} {cdv:Value} {A:Around} {outer:List Env} {s:Shared} {H:Hp} {EX:XK} {G:Gx} {E:AExc→A0→AH→Prop} (Z:Blt K w mg) (hr:Room 0 (A.deeper (envOfC "has_count" (defScope b5) s.heap.objs.size f cdv))) (gk:G.K=K) (tk:Takes (bx P w K mg base A8J "has_count" (defScope b5) f cdv A outer s H EX) (cW G E)):
    ASs (bx P w K mg base A8J "has_count" (defScope b5) f cdv A outer s H EX) G (defBody b5) (A5s E):=by
  subst gk
  have gk:G.K=G.K:=rfl
  have sc:=B1l
  have hu:=hr.units
  exact (D3 (K6 (A4y (B5G gk hu (A5 (pv 0)) (A80 gk rfl Z.c_PATHS)) (B4K op_le op_le ae_int (A5 (pv 1)) (T4 gk ae_int (A5 (pv 2)))) (A3P gk hu (A5 (pv 1)) ae_int))))
theorem B7c {P:Program} {w:World} {K:PySem.W.Frag} {mg:Str→Option Value} {base:Heap} {f:Addr} {cdv:Value} {A:Around} {outer:List Env} {s:Shared} {H:Hp} {EX:XK} {G:Gx} {E:AExc→A0→AH→Prop} (Z:Blt K w mg) (hr:Room 0 (A.deeper (envOfC "first_bad" (defScope b7) s.heap.objs.size f cdv))) (gk:G.K=K) (tk:Takes (bx P w K mg base A8E "first_bad" (defScope b7) f cdv A outer s H EX) (cW G E)):
    ASs (bx P w K mg base A8E "first_bad" (defScope b7) f cdv A outer s H EX) G (defBody b7) (A5w E):=by
  subst gk
  have gk:G.K=G.K:=rfl
  have sc:=B1n
  have hu:=hr.units
  exact (D4 (B4Y (passes_of rfl) rfl (B3T gk rfl Z.n_enumerate (A3 (A5 (pv 0)))) (A9A gk rfl (A20 (O0 (i:=3) sc.nd rfl (by first | exact .inl rfl | exact .inr rfl)) (A20 (O0 (i:=4) sc.nd rfl (by first | exact .inl rfl | exact .inr rfl)) A8o))) (D3 (N5 (AW.ap (A4x (A2V (A4h op_le op_lt ae_int (A5 (pv 4)) (A5 (pv 2)))) (A4n (B5G gk hu (A5 (pv 4)) (B2Y gk (A5 (pv 0)) B3J (B3L (A5 (pv 3)))))))) (D3 (K6 (T4 gk (A5 (pv 1)) (A5 (pv 3))))) O6)))
    (D3 (K6 A00)))
theorem B8H {P:Program} {w:World} {K:PySem.W.Frag} {mg:Str→Option Value} {base:Heap} {f:Addr} {cdv:Value} {A:Around} {outer:List Env} {s:Shared} {H:Hp} {EX:XK} {G:Gx} {E:AExc→A0→AH→Prop} (Z:Blt K w mg) (O_has_count:Ok P w K mg base "has_count" b5 1 3 A4K (upc A2B)) (O_first_bad:Ok P w K mg base "first_bad" b7 1 3 A4I (upc x8)) (hr:Room 1 (A.deeper (envOfC "fault_of" (defScope b9) s.heap.objs.size f cdv))) (gk:G.K=K) (tk:Takes (bx P w K mg base A8Q "fault_of" (defScope b9) f cdv A outer s H EX) (cW G E)):
    ASs (bx P w K mg base A8Q "fault_of" (defScope b9) f cdv A outer s H EX) G (defBody b9) (A51 E):=by
  subst gk
  have gk:G.K=G.K:=rfl
  have sc:=B16
  have hu:=hr.units
  exact (D4 (N5 (AW.ap (A4x (A9q gk hu (N2 call_len Y4 rfl Z.n_len U8 (G0 (A5 (pv 1)) K2)) ae_int) (A4n (C16 gk hu (L9 gk (A5 (pv 1)) ae_int (fun _ _=> rfl)) (T4 gk (A80 gk rfl Z.c_PATHS) (A80 gk rfl Z.c_PLAIN)))))) (D3 (K6 ae_int)) O6)
    (D4 (N5 (A2V (v3 (R5 gk O_has_count B7k hr (by decide) rfl tk (C1 (A3 (L9 gk (A5 (pv 1)) ae_int (fun _ _=> rfl))) (C1 (A3 (N2 call_len Y4 rfl Z.n_len U8 (G0 (A5 (pv 1)) K2))) (C1 (A3 (N2 call_len Y4 rfl Z.n_len U8 (G0 (A5 (pv 0)) K2))) D2)))))) (D3 (K6 (A6h ae_int))) O6)
    (D4 (B3x (i:=2) (j:=3) gk rfl sc.nd rfl rfl (by first | exact .inl rfl | exact .inr rfl) (by first | exact .inl rfl | exact .inr rfl) (A3 (A5 (pv 1))))
    (D4 (N5 (A9q gk hu (A5 (pv 2)) D8) (D4 (A9K 3 (P7 (A3 (R5 gk O_first_bad B1r hr (by decide) rfl tk (C1 (A3 (A5 (pv 3))) (C1 (A3 ae_int) (C1 (A3 (N2 call_len Y4 rfl Z.n_len U8 (G0 (A5 (pv 0)) K2))) D2))))) (O0 (i:=4) sc.nd rfl (by first | exact .inl rfl | exact .inr rfl))))
    (D4 (N5 (B3I (A5 (pv 4)) A00) (D3 (K6 (A5 (pv 4)))) O6)
    (D3 (K6 (A4y (A9q gk hu (L9 gk (A5 (pv 0)) (L9 gk (A5 (pv 3)) ae_int (fun _ _=> rfl)) (fun _ _=> rfl)) (L9 gk (A5 (pv 0)) (L9 gk (A5 (pv 3)) ae_int (fun _ _=> rfl)) (fun _ _=> rfl))) A00 ae_int))))) O6)
    (D4 (A9K 3 (B3x (i:=5) (j:=6) gk rfl sc.nd rfl rfl (by first | exact .inl rfl | exact .inr rfl) (by first | exact .inl rfl | exact .inr rfl) (A3 (A5 (pv 3)))))
    (D4 (N5 (A2V (A4h op_le op_lt ae_int (A5 (pv 5)) (k8 rfl Z.c_GREAT))) (D3 (K6 ae_int)) O6)
    (D3 (A9K 6 (K6 (R5 gk O_first_bad B1r hr (by decide) rfl tk (C1 (A3 (A5 (pv 6))) (C1 (A3 ae_int) (C1 (A3 (N2 call_len Y4 rfl Z.n_len U8 (G0 (A5 (pv 0)) K2))) D2)))))))))))))
theorem B8v {P:Program} {w:World} {K:PySem.W.Frag} {mg:Str→Option Value} {base:Heap} {f:Addr} {cdv:Value} {A:Around} {outer:List Env} {s:Shared} {H:Hp} {EX:XK} {G:Gx} {E:AExc→A0→AH→Prop} (Z:Blt K w mg) (hr:Room 0 (A.deeper (envOfC "is_name" (defScope X7) s.heap.objs.size f cdv))) (gk:G.K=K) (tk:Takes (bx P w K mg base A6D "is_name" (defScope X7) f cdv A outer s H EX) (cW G E)):
    ASs (bx P w K mg base A6D "is_name" (defScope X7) f cdv A outer s H EX) G (defBody X7) (A6A E):=by
  subst gk
  have gk:G.K=G.K:=rfl
  have sc:=B19
  have hu:=hr.units
  exact (D3 (K6 (A2U (B4K op_le op_le ae_int (N2 call_len Y4 rfl Z.n_len U8 (G0 (A5 (pv 0)) K2)) (k8 rfl Z.c_LONGEST)) (A27 (N2 (cr_all rfl) B4L rfl Z.n_all B4j (G0 (A6r (own:=[("sign",1)]) rfl sc.nd (C1o (A5 (pv 0))) (blkOk_by (by first | (show blkC A6D (defScope X7) _ _=true;decide+kernel) | rfl)) (by decide) (fun _ _ _ _ _=> (O0 (i:=1) sc.nd rfl (by first | exact .inl rfl | exact .inr rfl))) (fun _ _ _ _ _=> A29) (fun _ _ _ _ _=> (A3 (C2v (A5 (pv 1)) (C0w rfl Z.c_LETTERS))))) K2))))))
theorem B8c {P:Program} {w:World} {K:PySem.W.Frag} {mg:Str→Option Value} {base:Heap} {f:Addr} {cdv:Value} {A:Around} {outer:List Env} {s:Shared} {H:Hp} {EX:XK} {G:Gx} {E:AExc→A0→AH→Prop} (Z:Blt K w mg) (hr:Room 0 (A.deeper (envOfC "is_call" (defScope T1) s.heap.objs.size f cdv))) (gk:G.K=K) (tk:Takes (bx P w K mg base A8Y "is_call" (defScope T1) f cdv A outer s H EX) (cW G E)):
    ASs (bx P w K mg base A8Y "is_call" (defScope T1) f cdv A outer s H EX) G (defBody T1) (A57 E):=by
  subst gk
  have gk:G.K=G.K:=rfl
  have sc:=B2C
  have hu:=hr.units
  exact (D3 (K6 (A2U (C3s (N2 call_len Y4 rfl Z.n_len U8 (G0 (A5 (pv 0)) K2)) ae_int) (A27 (A3P gk hu (L9 gk (A5 (pv 0)) ae_int (fun _ _=> rfl)) D8)))))
theorem B7E {P:Program} {w:World} {K:PySem.W.Frag} {mg:Str→Option Value} {base:Heap} {f:Addr} {cdv:Value} {A:Around} {outer:List Env} {s:Shared} {H:Hp} {EX:XK} {G:Gx} {E:AExc→A0→AH→Prop} (Z:Blt K w mg) (hr:Room 0 (A.deeper (envOfC "call_fault" (defScope b4) s.heap.objs.size f cdv))) (gk:G.K=K) (tk:Takes (bx P w K mg base A8B "call_fault" (defScope b4) f cdv A outer s H EX) (cW G E)):
    ASs (bx P w K mg base A8B "call_fault" (defScope b4) f cdv A outer s H EX) G (defBody b4) (A5m E):=by
  subst gk
  have gk:G.K=G.K:=rfl
  have sc:=B1R
  have hu:=hr.units
  exact (D4 (N5 (A0X gk hu (N2 call_len Y4 rfl Z.n_len U8 (G0 (A5 (pv 0)) K2)) ae_int) (D3 (K6 (A6h ae_int))) O6)
    (D3 (K6 (A4y (A4h op_le op_le ae_int (L9 gk (A5 (pv 0)) ae_int (fun _ _=> rfl)) (k8 rfl Z.c_MOST_CALLS)) A00 ae_int))))
theorem B7r {P:Program} {w:World} {K:PySem.W.Frag} {mg:Str→Option Value} {base:Heap} {f:Addr} {cdv:Value} {A:Around} {outer:List Env} {s:Shared} {H:Hp} {EX:XK} {G:Gx} {E:AExc→A0→AH→Prop} (Z:Blt K w mg) (hr:Room 0 (A.deeper (envOfC "_law_open" (defScope b8) s.heap.objs.size f cdv))) (gk:G.K=K) (tk:Takes (bx P w K mg base A8H "_law_open" (defScope b8) f cdv A outer s H EX) (cW G E)):
    ASs (bx P w K mg base A8H "_law_open" (defScope b8) f cdv A outer s H EX) G (defBody b8) (A5u E):=by
  subst gk
  have gk:G.K=G.K:=rfl
  have sc:=B1f
  have hu:=hr.units
  exact (D3 (K6 (P4 (B7 (A3 (A2v call_list_of A6f rfl Z.n_list A2O (G0 (B2Y gk (A5 (pv 0)) B3J (B3L ae_int)) K2))) (B7 (A3 ae_int) (B7 (A3 ae_int) (B7 (A3 ae_int) (B7 (A3 ae_int) D7))))))))
theorem B7x {P:Program} {w:World} {K:PySem.W.Frag} {mg:Str→Option Value} {base:Heap} {f:Addr} {cdv:Value} {A:Around} {outer:List Env} {s:Shared} {H:Hp} {EX:XK} {G:Gx} {E:AExc→A0→AH→Prop} (Z:Blt K w mg) (hr:Room 0 (A.deeper (envOfC "_law_take" (defScope U5) s.heap.objs.size f cdv))) (gk:G.K=K) (tk:Takes (bx P w K mg base A8K "_law_take" (defScope U5) f cdv A outer s H EX) (cW G E)):
    ASs (bx P w K mg base A8K "_law_take" (defScope U5) f cdv A outer s H EX) G (defBody U5) (A5t E):=by
  subst gk
  have gk:G.K=G.K:=rfl
  have sc:=B1w
  have hu:=hr.units
  exact (D4 (N5 (AW.ap (C1p (A9m (L9 gk (A5 (pv 0)) ae_int (fun _ _=> rfl)) (A5 (pv 1))) (C0e (A9m (L9 gk (A5 (pv 0)) ae_int (fun _ _=> rfl)) (N2 call_len Y4 rfl Z.n_len U8 (G0 (L9 gk (A5 (pv 0)) ae_int (fun _ _=> rfl)) K2)))))) (D4 (P7 (A3 (L9 gk (L9 gk (A5 (pv 0)) ae_int (fun _ _=> rfl)) (L9 gk (A5 (pv 0)) ae_int (fun _ _=> rfl)) (fun _ _=> rfl))) (O0 (i:=2) sc.nd rfl (by first | exact .inl rfl | exact .inr rfl)))
    (D4 (P7 (A3 (T4 gk (L9 gk (A5 (pv 0)) ae_int (fun _ _=> rfl)) ae_int)) (A2R (A5 (pv 0)) ae_int (pg_sub (A5 (pv 0)).pe ae_int.pe set_list)))
    (D4 (P7 (A3 ae_int) (A2R (A5 (pv 0)) ae_int (pg_sub (A5 (pv 0)).pe ae_int.pe set_list)))
    (D3 (N5 (A99 (A5 (pv 2)) (C1y ae_int ae_int)) (D3 (P7 (A3 (A5 (pv 2))) (A2R (A5 (pv 0)) ae_int (pg_sub (A5 (pv 0)).pe ae_int.pe set_list)))) (D3 (P7 (A3 (A2X (T4 gk (T4 gk (l9 gk (L9 gk (A5 (pv 0)) ae_int (fun _ _=> rfl)) ae_int) (l9 gk (A2X (A5 (pv 2)) ae_int) ae_int)) ae_int) ae_int)) (A2R (A5 (pv 0)) ae_int (pg_sub (A5 (pv 0)).pe ae_int.pe set_list))))))))) O6)
    (D4 (N5 (A99 (L9 gk (A5 (pv 0)) ae_int (fun _ _=> rfl)) (A5 (pv 1))) (D4 (P7 (A3 (A2X (L9 gk (A5 (pv 0)) ae_int (fun _ _=> rfl)) (A5 (pv 1)))) (O0 (i:=3) sc.nd rfl (by first | exact .inl rfl | exact .inr rfl)))
    (D4 (P7 (A3 (B3v (L9 gk (A5 (pv 0)) ae_int (fun _ _=> rfl)) (A5 (pv 1)))) (A2R (A5 (pv 0)) ae_int (pg_sub (A5 (pv 0)).pe ae_int.pe set_list)))
    (D3 (K6 (A5 (pv 3)))))) O6)
    (D4 (P7 (A3 (T4 gk (L9 gk (A5 (pv 0)) ae_int (fun _ _=> rfl)) ae_int)) (A2R (A5 (pv 0)) ae_int (pg_sub (A5 (pv 0)).pe ae_int.pe set_list)))
    (D4 (P7 (A3 (L9 gk (A5 (pv 0)) ae_int (fun _ _=> rfl))) (O0 (i:=4) sc.nd rfl (by first | exact .inl rfl | exact .inr rfl)))
    (D4 (P7 (A3 (A2X (T4 gk (T4 gk (T4 gk (l9 gk (A2X (l9 gk (A5 (pv 4)) (A5 (pv 4))) ae_int) ae_int) (l9 gk (A5 (pv 4)) ae_int)) (l9 gk ae_int (L9 gk (A5 (pv 0)) ae_int (fun _ _=> rfl)))) ae_int) ae_int)) (A2R (A5 (pv 0)) ae_int (pg_sub (A5 (pv 0)).pe ae_int.pe set_list)))
    (D3 (K6 (A2X (T4 gk (B3v (L9 gk (A5 (pv 0)) ae_int (fun _ _=> rfl)) ae_int) (l9 gk (A2X (L9 gk (A5 (pv 0)) ae_int (fun _ _=> rfl)) ae_int) ae_int)) (A5 (pv 1))))))))))
theorem B7s {P:Program} {w:World} {K:PySem.W.Frag} {mg:Str→Option Value} {base:Heap} {f:Addr} {cdv:Value} {A:Around} {outer:List Env} {s:Shared} {H:Hp} {EX:XK} {G:Gx} {E:AExc→A0→AH→Prop} (Z:Blt K w mg) (O__law_take:Ok P w K mg base "_law_take" U5 1 2 A0m (upc U4)) (hr:Room 1 (A.deeper (envOfC "_law_pick" (defScope b6) s.heap.objs.size f cdv))) (gk:G.K=K) (tk:Takes (bx P w K mg base A8F "_law_pick" (defScope b6) f cdv A outer s H EX) (cW G E)):
    ASs (bx P w K mg base A8F "_law_pick" (defScope b6) f cdv A outer s H EX) G (defBody b6) (A5o E):=by
  subst gk
  have gk:G.K=G.K:=rfl
  have sc:=B1d
  have hu:=hr.units
  exact (D3 (K6 (L9 gk (A5 (pv 1)) (R5 gk O__law_take A5v hr (by decide) rfl tk (C1 (A3 (A5 (pv 0))) (C1 (A3 (N2 call_len Y4 rfl Z.n_len U8 (G0 (A5 (pv 1)) K2))) D2))) (fun _ _=> rfl))))
theorem B7h {P:Program} {w:World} {K:PySem.W.Frag} {mg:Str→Option Value} {base:Heap} {f:Addr} {cdv:Value} {A:Around} {outer:List Env} {s:Shared} {H:Hp} {EX:XK} {G:Gx} {E:AExc→A0→AH→Prop} {d j:Nat} (Z:Blt K w mg) (O__law_same:Ok P w K mg base "_law_same" W6 j 2 A2A (upc (m__law_same d))) (hr:Room (max j 0) (A.deeper (envOfC "_law_same" (defScope W6) s.heap.objs.size f cdv))) (gk:G.K=K) (tk:Takes (bx P w K mg base A5r "_law_same" (defScope W6) f cdv A outer s H EX) (cW G E)):
    ASs (bx P w K mg base A5r "_law_same" (defScope W6) f cdv A outer s H EX) G (defBody W6) (A5q d E):=by
  subst gk
  have gk:G.K=G.K:=rfl
  have sc:=B1h
  have hu:=hr.units
  exact (D4 (N5 (C1s (A5 (pv 1)) A00) (D3 (K6 (C2m (A5 (pv 0)) A00))) O6)
    (D4 (N5 (v3 (N2 call_isi u2 rfl Z.n_isinstance p8 (G0 (A5 (pv 1)) (G0 (u8 rfl Z.n_bool A8u) K2)))) (D3 (K6 (A2U (N2 call_isi u2 rfl Z.n_isinstance p8 (G0 (A5 (pv 0)) (G0 (u8 rfl Z.n_bool A8u) K2))) (A27 (A3P gk hu (A5 (pv 0)) (A5 (pv 1))))))) O6)
    (D4 (N5 (v3 (N2 call_isi u2 rfl Z.n_isinstance p8 (G0 (A5 (pv 1)) (G0 (u8 rfl Z.n_int B4N) K2)))) (D3 (K6 (A2U (N2 call_isi u2 rfl Z.n_isinstance p8 (G0 (A5 (pv 0)) (G0 (u8 rfl Z.n_int B4N) K2))) (A2U (C2A (N2 call_isi u2 rfl Z.n_isinstance p8 (G0 (A5 (pv 0)) (G0 (u8 rfl Z.n_bool A8u) K2)))) (A27 (A3P gk hu (A5 (pv 0)) (A5 (pv 1)))))))) O6)
    (D4 (N5 (v3 (N2 call_isi u2 rfl Z.n_isinstance p8 (G0 (A5 (pv 1)) (G0 (u8 rfl Z.n_str B4R) K2)))) (D3 (K6 (A2U (N2 call_isi u2 rfl Z.n_isinstance p8 (G0 (A5 (pv 0)) (G0 (u8 rfl Z.n_str B4R) K2))) (A27 (A3P gk hu (A5 (pv 0)) (A5 (pv 1))))))) O6)
    (D4 (N5 (AW.ap (A4x (A0X gk hu (N2 call_isi u2 rfl Z.n_isinstance p8 (G0 (A5 (pv 1)) (G0 (u8 rfl Z.n_tuple A8e) K2))) (N2 call_isi u2 rfl Z.n_isinstance p8 (G0 (A5 (pv 0)) (G0 (u8 rfl Z.n_tuple A8e) K2)))) (A4n (A0X gk hu (N2 call_isi u2 rfl Z.n_isinstance p8 (G0 (A5 (pv 1)) (G0 (u8 rfl Z.n_list A2O) K2))) (N2 call_isi u2 rfl Z.n_isinstance p8 (G0 (A5 (pv 0)) (G0 (u8 rfl Z.n_list A2O) K2))))))) (D3 (K6 A3Q)) O6)
    (D4 (N5 (A0X gk hu (N2 call_len Y4 rfl Z.n_len U8 (G0 (A5 (pv 0)) K2)) (N2 call_len Y4 rfl Z.n_len U8 (G0 (A5 (pv 1)) K2))) (D3 (K6 A3Q)) O6)
    (D3 (K6 (N2 (cr_all rfl) B4L rfl Z.n_all B4j (G0 (A6r (own:=[("_law_at",2)]) rfl sc.nd (B2E rfl Z.n_range (G0 (N2 call_len Y4 rfl Z.n_len U8 (G0 (A5 (pv 1)) K2)) K2)) (blkOk_by (by first | (show blkC A5r (defScope W6) _ _=true;decide+kernel) | rfl)) (by decide) (fun _ _ _ _ _=> (O0 (i:=2) sc.nd rfl (by first | exact .inl rfl | exact .inr rfl))) (fun _ _ _ _ _=> A29) (fun _ _ _ _ _=> (A3 (R5 gk O__law_same A8N hr (by omega) rfl A2H (C1 (A3 (L9 gk (A5 (pv 0)) (A5 (pv 2)) (fun _ _=> rfl))) (C1 (A3 (L9 gk (A5 (pv 1)) (A5 (pv 2)) (fun _ _=> rfl))) D2)))))) K2))))))))))
theorem B1v {P:Program} {w:World} {K:PySem.W.Frag} {mg:Str→Option Value} {base:Heap} {f:Addr} {cdv:Value} {A:Around} {outer:List Env} {s:Shared} {H:Hp} {EX:XK} {G:Gx} {E:AExc→A0→AH→Prop} {fl:Addr} {sp:B8} (Z:Blt K w mg) (hr:Room 0 (A.deeper (envOfC "_law_word" (defScope X6) s.heap.objs.size f cdv))) (gk:G.K=K) (tk:Takes (bx P w K mg base A5x "_law_word" (defScope X6) f cdv A outer s H EX) (cW G E)) (hL:LamHas (bx P w K mg base A5x "_law_word" (defScope X6) f cdv A outer s H EX) G fl 0 sp):
    ASs (bx P w K mg base A5x "_law_word" (defScope X6) f cdv A outer s H EX) G (defBody X6) (A2t fl sp E):=by
  subst gk
  have gk:G.K=G.K:=rfl
  have sc:=A8I
  have hu:=hr.units
  exact (D4 (P7 (A3 A00) (O0 (i:=1) sc.nd rfl (by first | exact .inl rfl | exact .inr rfl)))
    (D4 (P7 (A3 D8) (O0 (i:=2) sc.nd rfl (by first | exact .inl rfl | exact .inr rfl)))
    (D4 (B4h gk rfl rfl sc.nd tk (fun pn xe G E gk gl tk=> by have hL:=hL.to gl pn xe;exact (D3 (P7 (A3 (B3U hL gk rfl (i:=0) rfl (by first | exact .inl rfl | exact .inr (.inl rfl) | exact .inr (.inr rfl)) tk)) (O0 (i:=1) sc.nd rfl (by first | exact .inl rfl | exact .inr rfl))))) (HdA.cons rfl rfl rfl Z.h_HideError Z.x_HideError rfl (by first | exact .inl rfl | exact .inr rfl) (by first | exact .inl rfl | exact .inr rfl) (by decide) (fun G gk=> (Y6 gk Z.f_word rfl (by first | exact .inl rfl | exact .inr (.inl rfl) | exact .inr (.inr rfl)))) rfl rfl rfl rfl (HdA.cons rfl rfl rfl Z.h_Missing Z.x_Missing rfl (by first | exact .inl rfl | exact .inr rfl) (by first | exact .inl rfl | exact .inr rfl) (by decide) (fun G gk=> (Y6 gk Z.f_word rfl (by first | exact .inl rfl | exact .inr (.inl rfl) | exact .inr (.inr rfl)))) rfl rfl rfl rfl (HdA.cons rfl rfl rfl Z.h_NothingLeft Z.x_NothingLeft rfl (by first | exact .inl rfl | exact .inr rfl) (by first | exact .inl rfl | exact .inr rfl) (by decide) (fun G gk=> (Y6 gk Z.f_word rfl (by first | exact .inl rfl | exact .inr (.inl rfl) | exact .inr (.inr rfl)))) rfl rfl rfl rfl HdA.nil))))
    (D3 (K6 (M7 (B7 (A3 (A5 (pv 1))) (B7 (A3 (A5 (pv 2))) D7))))))))
theorem B7D {P:Program} {w:World} {K:PySem.W.Frag} {mg:Str→Option Value} {base:Heap} {f:Addr} {cdv:Value} {A:Around} {outer:List Env} {s:Shared} {H:Hp} {EX:XK} {G:Gx} {E:AExc→A0→AH→Prop} (Z:Blt K w mg) (O__law_take:Ok P w K mg base "_law_take" U5 1 2 A0m (upc U4)) (hr:Room 1 (A.deeper (envOfC "_law_sizes" (defScope X4) s.heap.objs.size f cdv))) (gk:G.K=K) (tk:Takes (bx P w K mg base A5h "_law_sizes" (defScope X4) f cdv A outer s H EX) (cW G E)):
    ASs (bx P w K mg base A5h "_law_sizes" (defScope X4) f cdv A outer s H EX) G (defBody X4) (A5j E):=by
  subst gk
  have gk:G.K=G.K:=rfl
  have sc:=B1b
  have hu:=hr.units
  exact (D3 (K6 (A2v call_tuple_of C1e rfl Z.n_tuple A8e (G0 (A6r (own:=[("_law_mcask",3)]) rfl sc.nd (B2E rfl Z.n_range (G0 (T4 gk ae_int (R5 gk O__law_take A5v hr (by decide) rfl tk (C1 (A3 (A5 (pv 0))) (C1 (A3 (A5 (pv 1))) D2)))) K2)) (blkOk_by (by first | (show blkC A5h (defScope X4) _ _=true;decide+kernel) | rfl)) (by decide) (fun _ _ _ _ _=> (O0 (i:=3) sc.nd rfl (by first | exact .inl rfl | exact .inr rfl))) (fun _ _ _ _ _=> A29) (fun _ _ _ _ _=> (A3 (T4 gk ae_int (R5 gk O__law_take A5v hr (by decide) rfl A2H (C1 (A3 (A5 (pv 0))) (C1 (A3 (A5 (pv 2))) D2))))))) K2))))
theorem B6Z {P:Program} {w:World} {K:PySem.W.Frag} {mg:Str→Option Value} {base:Heap} {f:Addr} {cdv:Value} {A:Around} {outer:List Env} {s:Shared} {H:Hp} {EX:XK} {G:Gx} {E:AExc→A0→AH→Prop} (Z:Blt K w mg) (O__law_sizes:Ok P w K mg base "_law_sizes" X4 2 3 A4G (upc A17)) (O__law_pick:Ok P w K mg base "_law_pick" b6 2 2 A4J (upc A19)) (hr:Room 2 (A.deeper (envOfC "_law_any_sizes" (defScope Z6) s.heap.objs.size f cdv))) (gk:G.K=K) (tk:Takes (bx P w K mg base A7x "_law_any_sizes" (defScope Z6) f cdv A outer s H EX) (cW G E)):
    ASs (bx P w K mg base A7x "_law_any_sizes" (defScope Z6) f cdv A outer s H EX) G (defBody Z6) (A5V E):=by
  subst gk
  have gk:G.K=G.K:=rfl
  have sc:=B00
  have hu:=hr.units
  exact (D3 (K6 (R5 gk O__law_sizes B7H hr (by decide) rfl tk (C1 (A3 (A5 (pv 0))) (C1 (A3 ae_int) (C1 (A3 (R5 gk O__law_pick B7f hr (by decide) rfl tk (C1 (A3 (A5 (pv 0))) (C1 (A3 (P4 (B7 (A3 ae_int) (B7 (A3 ae_int) (B7 (A3 ae_int) (B7 (A3 ae_int) D7)))))) D2)))) D2))))))
theorem A8D {P:Program} {w:World} {K:PySem.W.Frag} {mg:Str→Option Value} {base:Heap} {f:Addr} {cdv:Value} {A:Around} {outer:List Env} {s:Shared} {H:Hp} {EX:XK} {G:Gx} {E:AExc→A0→AH→Prop} {fl:Addr} {sp:B8} (Z:Blt K w mg) (hr:Room 0 (A.deeper (envOfC "_law_field" (defScope X5) s.heap.objs.size f cdv))) (gk:G.K=K) (tk:Takes (bx P w K mg base A5l "_law_field" (defScope X5) f cdv A outer s H EX) (cW G E)) (hL:LamHas (bx P w K mg base A5l "_law_field" (defScope X5) f cdv A outer s H EX) G fl 0 sp):
    ASs (bx P w K mg base A5l "_law_field" (defScope X5) f cdv A outer s H EX) G (defBody X5) (A1w fl sp E):=by
  subst gk
  have gk:G.K=G.K:=rfl
  have sc:=A5i
  have hu:=hr.units
  exact (D4 (P7 (A3 (M7 (B7 (A3 D8) (B7 (A3 A00) D7)))) (O0 (i:=1) sc.nd rfl (by first | exact .inl rfl | exact .inr rfl)))
    (D4 (B4h gk rfl rfl sc.nd tk (fun pn xe G E gk gl tk=> by have hL:=hL.to gl pn xe;exact (D3 (c5 (B3U hL gk rfl (i:=0) rfl (by first | exact .inl rfl | exact .inr (.inl rfl) | exact .inr (.inr rfl)) tk)))) (HdA.cons rfl rfl rfl Z.h_BadRow Z.x_BadRow rfl (by first | exact .inl rfl | exact .inr rfl) (by first | exact .inl rfl | exact .inr rfl) (by decide) (fun G gk=> (A2S (d9 (Y6 gk Z.f_word rfl (by first | exact .inl rfl | exact .inr (.inl rfl) | exact .inr (.inr rfl))) (d9 (A2S (d9 (Y6 gk Z.f_step rfl (by first | exact .inl rfl | exact .inr (.inl rfl) | exact .inr (.inr rfl))) (d9 (Y6 gk Z.f_place rfl (by first | exact .inl rfl | exact .inr (.inl rfl) | exact .inr (.inr rfl))) A2K))) A2K)))) rfl rfl rfl rfl (HdA.cons rfl rfl rfl Z.h_InUse Z.x_InUse rfl (by first | exact .inl rfl | exact .inr rfl) (by first | exact .inl rfl | exact .inr rfl) (by decide) (fun G gk=> (A2S (d9 (Y6 gk Z.f_word rfl (by first | exact .inl rfl | exact .inr (.inl rfl) | exact .inr (.inr rfl))) (d9 (Y6 gk Z.f_name rfl (by first | exact .inl rfl | exact .inr (.inl rfl) | exact .inr (.inr rfl))) A2K)))) rfl rfl rfl rfl (HdA.cons rfl rfl rfl Z.h_NoRound Z.x_NoRound rfl (by first | exact .inl rfl | exact .inr rfl) (by first | exact .inl rfl | exact .inr rfl) (by decide) (fun G gk=> (A2S (d9 (Y6 gk Z.f_word rfl (by first | exact .inl rfl | exact .inr (.inl rfl) | exact .inr (.inr rfl))) (d9 (Y6 gk Z.f_name rfl (by first | exact .inl rfl | exact .inr (.inl rfl) | exact .inr (.inr rfl))) A2K)))) rfl rfl rfl rfl (HdA.cons rfl rfl rfl Z.h_Taken Z.x_Taken rfl (by first | exact .inl rfl | exact .inr rfl) (by first | exact .inl rfl | exact .inr rfl) (by decide) (fun G gk=> (A2S (d9 (Y6 gk Z.f_word rfl (by first | exact .inl rfl | exact .inr (.inl rfl) | exact .inr (.inr rfl))) (d9 (Y6 gk Z.f_name rfl (by first | exact .inl rfl | exact .inr (.inl rfl) | exact .inr (.inr rfl))) A2K)))) rfl rfl rfl rfl (HdA.cons rfl rfl rfl Z.h_TooLong Z.x_TooLong rfl (by first | exact .inl rfl | exact .inr rfl) (by first | exact .inl rfl | exact .inr rfl) (by decide) (fun G gk=> (A2S (d9 (Y6 gk Z.f_word rfl (by first | exact .inl rfl | exact .inr (.inl rfl) | exact .inr (.inr rfl))) (d9 (Y6 gk Z.f_most rfl (by first | exact .inl rfl | exact .inr (.inl rfl) | exact .inr (.inr rfl))) A2K)))) rfl rfl rfl rfl (HdA.cons rfl rfl rfl Z.h_TooMany Z.x_TooMany rfl (by first | exact .inl rfl | exact .inr rfl) (by first | exact .inl rfl | exact .inr rfl) (by decide) (fun G gk=> (A2S (d9 (Y6 gk Z.f_word rfl (by first | exact .inl rfl | exact .inr (.inl rfl) | exact .inr (.inr rfl))) (d9 (Y6 gk Z.f_most rfl (by first | exact .inl rfl | exact .inr (.inl rfl) | exact .inr (.inr rfl))) A2K)))) rfl rfl rfl rfl HdA.nil)))))))
    (D3 (K6 (A5 (pv 1))))))
theorem B6N {P:Program} {w:World} {K:PySem.W.Frag} {mg:Str→Option Value} {base:Heap} {f:Addr} {cdv:Value} {A:Around} {outer:List Env} {s:Shared} {H:Hp} {EX:XK} {G:Gx} {E:AExc→A0→AH→Prop} (Z:Blt K w mg) (O_is_name:Ok P w K mg base "is_name" X7 1 1 A4P (upc A2D)) (R_BadName:XkOk P w K mg base "BadName" "bad name" []) (R_Taken:XkOk P w K mg base "Taken" "taken" ["name"]) (R_TooMany:XkOk P w K mg base "TooMany" "too many" ["most"]) (hr:Room 2 (A.deeper (envOfC (("Book":Str)++"."++"look_new") (defScope Z3) s.heap.objs.size f cdv))) (gk:G.K=K) (tk:Takes (bx P w K mg base A7y (("Book":Str)++"."++"look_new") (defScope Z3) f cdv A outer s H EX) (cW G E)):
    ASs (bx P w K mg base A7y (("Book":Str)++"."++"look_new") (defScope Z3) f cdv A outer s H EX) G (defBody Z3) (A5Q E):=by
  subst gk
  have gk:G.K=G.K:=rfl
  have sc:=B0y
  have hu:=hr.units
  exact (D4 (N5 (A2V (v3 (R5 gk O_is_name B8n hr (by decide) rfl tk (C1 (A3 (A5 (pv 1))) D2)))) (D3 (B8V R_BadName gk rfl tk hr (by decide) rfl)) O6)
    (D4 (N5 (C2S hu (A3 (A5 (pv 1))) (f8 gk Z.fo_Book_written (A5 (pv 0)))) (D3 (A1U R_Taken gk rfl tk hr (by decide) rfl (C1 (A3 (A5 (pv 1))) D2))) O6)
    (D3 (N5 (A99 (N2 call_lenD B3E rfl Z.n_len U8 (G0 (f8 gk Z.fo_Book_written (A5 (pv 0))) K2)) (k8 rfl Z.c_MOST_ROUNDS)) (D3 (A1U R_TooMany gk rfl tk hr (by decide) rfl (C1 (A3 (k8 rfl Z.c_MOST_ROUNDS)) D2))) O6))))
theorem B6K {P:Program} {w:World} {K:PySem.W.Frag} {mg:Str→Option Value} {base:Heap} {f:Addr} {cdv:Value} {A:Around} {outer:List Env} {s:Shared} {H:Hp} {EX:XK} {G:Gx} {E:AExc→A0→AH→Prop} (Z:Blt K w mg) (O_is_call:Ok P w K mg base "is_call" T1 1 1 r9 (upc N1)) (hr:Room 1 (A.deeper (envOfC (("Book":Str)++"."++"laid_out") (defScope Z4) s.heap.objs.size f cdv))) (gk:G.K=K) (tk:Takes (bx P w K mg base A7w (("Book":Str)++"."++"laid_out") (defScope Z4) f cdv A outer s H EX) (cW G E)):
    ASs (bx P w K mg base A7w (("Book":Str)++"."++"laid_out") (defScope Z4) f cdv A outer s H EX) G (defBody Z4) (A5S E):=by
  subst gk
  have gk:G.K=G.K:=rfl
  have sc:=B03
  have hu:=hr.units
  exact (D4 (A9S (i:=2) sc.nd rfl (by first | exact .inl rfl | exact .inr rfl) (P4 D7))
    (D4 (B3l (passes_of rfl) rfl (B3f gk (A5 (pv 1))) (O0 (i:=3) sc.nd rfl (by first | exact .inl rfl | exact .inr rfl)) (D3 (N5 (v3 (R5 gk O_is_call A4R hr (by decide) rfl tk (C1 (A3 (A5 (pv 3))) D2))) (D3 (c5 (C1v (A5 (pv 2)) (A8n (A6Z hu (f8 gk Z.fo_Book_laid (A5 (pv 0))) (A3 (L9 gk (A5 (pv 3)) ae_int (fun _ _=> rfl))) (fun _ _=> rfl)) (L9 gk (A5 (pv 3)) ae_int (fun _ _=> rfl)))))) (D3 (c5 (A94 gk A8T PySem.F.plainAttrs_list PySem.F.slot_list_append PySem.F.type_list_append mt_append (A5 (pv 2)) (B7 (A3 (A5 (pv 3))) D7)))))))
    (D3 (K6 (A5 (pv 2))))))
theorem B62 {P:Program} {w:World} {K:PySem.W.Frag} {mg:Str→Option Value} {base:Heap} {f:Addr} {cdv:Value} {A:Around} {outer:List Env} {s:Shared} {H:Hp} {EX:XK} {G:Gx} {E:AExc→A0→AH→Prop} (Z:Blt K w mg) (R_NoRound:XkOk P w K mg base "NoRound" "no round" ["name"]) (hr:Room 2 (A.deeper (envOfC (("Book":Str)++"."++"there") (defScope T0) s.heap.objs.size f cdv))) (gk:G.K=K) (tk:Takes (bx P w K mg base A75 (("Book":Str)++"."++"there") (defScope T0) f cdv A outer s H EX) (cW G E)):
    ASs (bx P w K mg base A75 (("Book":Str)++"."++"there") (defScope T0) f cdv A outer s H EX) G (defBody T0) (A5T E):=by
  subst gk
  have gk:G.K=G.K:=rfl
  have sc:=B1H
  have hu:=hr.units
  exact (D4 (N5 (B98 hu (A3 (A5 (pv 1))) (f8 gk Z.fo_Book_written (A5 (pv 0)))) (D3 (A1U R_NoRound gk rfl tk hr (by decide) rfl (C1 (A3 (A5 (pv 1))) D2))) O6)
    (D3 (K6 (A6Z hu (f8 gk Z.fo_Book_written (A5 (pv 0))) (A3 (A5 (pv 1))) (fun _ _=> rfl)))))
theorem B6F {P:Program} {w:World} {K:PySem.W.Frag} {mg:Str→Option Value} {base:Heap} {f:Addr} {cdv:Value} {A:Around} {outer:List Env} {s:Shared} {H:Hp} {EX:XK} {G:Gx} {E:AExc→A0→AH→Prop} (Z:Blt K w mg) (O_is_call:Ok P w K mg base "is_call" T1 1 1 r9 (upc N1)) (O_call_fault:Ok P w K mg base "call_fault" b4 1 1 A4C (upc A0k)) (O_fault_of:Ok P w K mg base "fault_of" b9 2 2 A4O (upc q9)) (O_Book__there:OkM P w K mg base "Book" "there" T0 3 2 o9 [] (upc P6)) (R_BadRow:XkOk P w K mg base "BadRow" "bad row" ["step","place"]) (hr:Room 3 (A.deeper (envOfC (("Book":Str)++"."++"look_step") (defScope Z2) s.heap.objs.size f cdv))) (gk:G.K=K) (tk:Takes (bx P w K mg base A7v (("Book":Str)++"."++"look_step") (defScope Z2) f cdv A outer s H EX) (cW G E)):
    ASs (bx P w K mg base A7v (("Book":Str)++"."++"look_step") (defScope Z2) f cdv A outer s H EX) G (defBody Z2) (A5P E):=by
  subst gk
  have gk:G.K=G.K:=rfl
  have sc:=B0w
  have hu:=hr.units
  exact (D4 (P7 (A3 (A4y (v3 (R5 gk O_is_call A4R hr (by decide) rfl tk (C1 (A3 (A5 (pv 2))) D2))) (R5 gk O_call_fault B7P hr (by decide) rfl tk (C1 (A3 (A5 (pv 2))) D2)) (R5 gk O_fault_of B8R hr (by decide) rfl tk (C1 (A3 (f8 gk Z.fo_Book_casks (A5 (pv 0)))) (C1 (A3 (A5 (pv 2))) D2))))) (O0 (i:=3) sc.nd rfl (by first | exact .inl rfl | exact .inr rfl)))
    (D4 (N5 (B3I (A5 (pv 3)) A00) (D3 (A1U R_BadRow gk rfl tk hr (by decide) rfl (C1 (A3 (A5 (pv 1))) (C1 (A3 (A5 (pv 3))) D2)))) O6)
    (D3 (N5 (v3 (R5 gk O_is_call A4R hr (by decide) rfl tk (C1 (A3 (A5 (pv 2))) D2))) (D3 (c5 (M4 gk O_Book__there A5d hr (by decide) tk (A5 (pv 0)) (C1 (A3 (L9 gk (A5 (pv 2)) ae_int (fun _ _=> rfl))) D2)))) O6))))
theorem B6p {P:Program} {w:World} {K:PySem.W.Frag} {mg:Str→Option Value} {base:Heap} {f:Addr} {cdv:Value} {A:Around} {outer:List Env} {s:Shared} {H:Hp} {EX:XK} {G:Gx} {E:AExc→A0→AH→Prop} (Z:Blt K w mg) (O_is_call:Ok P w K mg base "is_call" T1 1 1 r9 (upc N1)) (hr:Room 1 (A.deeper (envOfC (("Book":Str)++"."++"length") (defScope X3) s.heap.objs.size f cdv))) (gk:G.K=K) (tk:Takes (bx P w K mg base A5e (("Book":Str)++"."++"length") (defScope X3) f cdv A outer s H EX) (cW G E)):
    ASs (bx P w K mg base A5e (("Book":Str)++"."++"length") (defScope X3) f cdv A outer s H EX) G (defBody X3) (A5b E):=by
  subst gk
  have gk:G.K=G.K:=rfl
  have sc:=B1C
  have hu:=hr.units
  exact (D3 (K6 (N2 (C0A rfl) C0z rfl Z.n_sum C13 (G0 (C0h (own:=[("step",2)]) rfl sc.nd (B3f gk (A5 (pv 1))) (blkOk_by (by first | (show blkC A5e (defScope X3) _ _=true;decide+kernel) | rfl)) (by decide) (fun _ _ _ _ _=> (O0 (i:=2) sc.nd rfl (by first | exact .inl rfl | exact .inr rfl))) (fun _ _ _ _ _=> A29) (fun _ _ _ _ _=> (A3 (A4y (v3 (R5 gk O_is_call A4R hr (by decide) rfl A2H (C1 (A3 (A5 (pv 2))) D2))) (l9 gk (L9 gk (A5 (pv 2)) ae_int (fun _ _=> rfl)) (N2 call_len Y4 rfl Z.n_len U8 (G0 (A6Z hu (f8 gk Z.fo_Book_laid (A5 (pv 0))) (A3 (L9 gk (A5 (pv 2)) ae_int (fun _ _=> rfl))) (fun _ _=> rfl)) K2))) ae_int)))) K2))))
theorem B64 {P:Program} {w:World} {K:PySem.W.Frag} {mg:Str→Option Value} {base:Heap} {f:Addr} {cdv:Value} {A:Around} {outer:List Env} {s:Shared} {H:Hp} {EX:XK} {G:Gx} {E:AExc→A0→AH→Prop} (Z:Blt K w mg) (O_Book__look_new:OkM P w K mg base "Book" "look_new" Z3 3 2 A3w [] (upc A1O)) (O_Book__look_step:OkM P w K mg base "Book" "look_step" Z2 4 3 A3n [] (upc A1N)) (O_Book__length:OkM P w K mg base "Book" "length" X3 2 2 A34 [] (upc A1R)) (O_Book__laid_out:OkM P w K mg base "Book" "laid_out" Z4 2 2 A3x [] (upc A1P)) (R_TooLong:XkOk P w K mg base "TooLong" "too long" ["most"]) (hr:Room 4 (A.deeper (envOfC (("Book":Str)++"."++"write") (defScope W3) s.heap.objs.size f cdv))) (gk:G.K=K) (tk:Takes (bx P w K mg base A73 (("Book":Str)++"."++"write") (defScope W3) f cdv A outer s H EX) (cW G E)):
    ASs (bx P w K mg base A73 (("Book":Str)++"."++"write") (defScope W3) f cdv A outer s H EX) G (defBody W3) (A5W E):=by
  subst gk
  have gk:G.K=G.K:=rfl
  have sc:=B1O
  have hu:=hr.units
  exact (D4 (c5 (M4 gk O_Book__look_new B6G hr (by decide) tk (A5 (pv 0)) (C1 (A3 (A5 (pv 1))) D2)))
    (D4 (B3l (passes_of rfl) rfl (C2Z gk rfl Z.n_enumerate (A5 (pv 2))) (A9A gk rfl (A20 (O0 (i:=3) sc.nd rfl (by first | exact .inl rfl | exact .inr rfl)) (A20 (O0 (i:=4) sc.nd rfl (by first | exact .inl rfl | exact .inr rfl)) A8o))) (D3 (c5 (M4 gk O_Book__look_step B6B hr (by decide) tk (A5 (pv 0)) (C1 (A3 (A5 (pv 3))) (C1 (A3 (A5 (pv 4))) D2))))))
    (D4 (N5 (C33 (M4 gk O_Book__length B6h hr (by decide) tk (A5 (pv 0)) (C1 (A3 (A5 (pv 2))) D2)) (k8 rfl Z.c_MOST_FLAT)) (D3 (A1U R_TooLong gk rfl tk hr (by decide) rfl (C1 (A3 (k8 rfl Z.c_MOST_FLAT)) D2))) O6)
    (D4 (B38 hu (A3 (A2v call_list_of A6f rfl Z.n_list A2O (G0 (A5 (pv 2)) K2))) (f8 gk Z.fo_Book_written (A5 (pv 0))) (A3 (A5 (pv 1))))
    (D3 (B38 hu (A3 (M4 gk O_Book__laid_out B6E hr (by decide) tk (A5 (pv 0)) (C1 (A3 (A5 (pv 2))) D2))) (f8 gk Z.fo_Book_laid (A5 (pv 0))) (A3 (A5 (pv 1)))))))))
theorem B6m {P:Program} {w:World} {K:PySem.W.Frag} {mg:Str→Option Value} {base:Heap} {f:Addr} {cdv:Value} {A:Around} {outer:List Env} {s:Shared} {H:Hp} {EX:XK} {G:Gx} {E:AExc→A0→AH→Prop} (Z:Blt K w mg) (O_Book__there:OkM P w K mg base "Book" "there" T0 3 2 o9 [] (upc P6)) (O_is_call:Ok P w K mg base "is_call" T1 1 1 r9 (upc N1)) (hr:Room 3 (A.deeper (envOfC (("Book":Str)++"."++"callers") (defScope V5) s.heap.objs.size f cdv))) (gk:G.K=K) (tk:Takes (bx P w K mg base A5Y (("Book":Str)++"."++"callers") (defScope V5) f cdv A outer s H EX) (cW G E)):
    ASs (bx P w K mg base A5Y (("Book":Str)++"."++"callers") (defScope V5) f cdv A outer s H EX) G (defBody V5) (A5Z E):=by
  subst gk
  have gk:G.K=G.K:=rfl
  have sc:=B1A
  have hu:=hr.units
  exact (D4 (c5 (M4 gk O_Book__there A5d hr (by decide) tk (A5 (pv 0)) (C1 (A3 (A5 (pv 1))) D2)))
    (D4 (A9S (i:=2) sc.nd rfl (by first | exact .inl rfl | exact .inr rfl) (P4 D7))
    (D4 (B9s gk (passes_of rfl) rfl sc.nd Z.fo_Book_written (pv 0) (pg_name (i:=3) sc.nd rfl (by first | exact .inl rfl | exact .inr rfl)) (pg_name (i:=4) sc.nd rfl (by first | exact .inl rfl | exact .inr rfl)) (fun G' gk'=> by have gk:=gk';exact (D3 (N5 (v3 (N2 (cr_any rfl) (Eq.mpr (congrArg (fun K=> CallA K _ _) gk) C2a) rfl Z.n_any C2b (G0 (A6r (own:=[("step",5)]) rfl sc.nd (B4n gk (A3 (A5 (pv 4)))) (blkOk_by (by first | (show blkC A5Y (defScope V5) _ _=true;decide+kernel) | rfl)) (by decide) (fun _ _ _ _ _=> (O0 (i:=5) sc.nd rfl (by first | exact .inl rfl | exact .inr rfl))) (fun _ _ _ _ _=> A29) (fun _ _ _ _ _=> (A3 (A2U (R5 gk O_is_call A4R hr (by decide) rfl A2H (C1 (A3 (A5 (pv 5))) D2)) (A27 (A3P gk hu (L9 gk (A5 (pv 5)) ae_int (fun _ _=> rfl)) (A5 (pv 1)))))))) K2))) (D3 (c5 (A94 gk A8T PySem.F.plainAttrs_list PySem.F.slot_list_append PySem.F.type_list_append mt_append (A5 (pv 2)) (B7 (A3 (A5 (pv 3))) D7)))) O6))))
    (D3 (K6 (A5 (pv 2)))))))
theorem B68 {P:Program} {w:World} {K:PySem.W.Frag} {mg:Str→Option Value} {base:Heap} {f:Addr} {cdv:Value} {A:Around} {outer:List Env} {s:Shared} {H:Hp} {EX:XK} {G:Gx} {E:AExc→A0→AH→Prop} (Z:Blt K w mg) (O_Book__callers:OkM P w K mg base "Book" "callers" V5 4 2 A1x [] (upc Z7)) (R_InUse:XkOk P w K mg base "InUse" "in use" ["name"]) (hr:Room 4 (A.deeper (envOfC (("Book":Str)++"."++"drop") (defScope W4) s.heap.objs.size f cdv))) (gk:G.K=K) (tk:Takes (bx P w K mg base A78 (("Book":Str)++"."++"drop") (defScope W4) f cdv A outer s H EX) (cW G E)):
    ASs (bx P w K mg base A78 (("Book":Str)++"."++"drop") (defScope W4) f cdv A outer s H EX) G (defBody W4) (A5n E):=by
  subst gk
  have gk:G.K=G.K:=rfl
  have sc:=B1X
  have hu:=hr.units
  exact (D4 (P7 (A3 (M4 gk O_Book__callers B0x hr (by decide) tk (A5 (pv 0)) (C1 (A3 (A5 (pv 1))) D2))) (O0 (i:=2) sc.nd rfl (by first | exact .inl rfl | exact .inr rfl)))
    (D4 (N5 (A0X gk hu (A5 (pv 2)) (P4 D7)) (D3 (A1U R_InUse gk rfl tk hr (by decide) rfl (C1 (A3 (L9 gk (A5 (pv 2)) ae_int (fun _ _=> rfl))) D2))) O6)
    (D4 (B3W (f8 gk Z.fo_Book_written (A5 (pv 0))) (A3 (A5 (pv 1))))
    (D3 (B3W (f8 gk Z.fo_Book_laid (A5 (pv 0))) (A3 (A5 (pv 1))))))))
theorem B65 {P:Program} {w:World} {K:PySem.W.Frag} {mg:Str→Option Value} {base:Heap} {f:Addr} {cdv:Value} {A:Around} {outer:List Env} {s:Shared} {H:Hp} {EX:XK} {G:Gx} {E:AExc→A0→AH→Prop} (Z:Blt K w mg) (O_Book__there:OkM P w K mg base "Book" "there" T0 3 2 o9 [] (upc P6)) (hr:Room 3 (A.deeper (envOfC (("Book":Str)++"."++"steps") (defScope W2) s.heap.objs.size f cdv))) (gk:G.K=K) (tk:Takes (bx P w K mg base A72 (("Book":Str)++"."++"steps") (defScope W2) f cdv A outer s H EX) (cW G E)):
    ASs (bx P w K mg base A72 (("Book":Str)++"."++"steps") (defScope W2) f cdv A outer s H EX) G (defBody W2) (A5R E):=by
  subst gk
  have gk:G.K=G.K:=rfl
  have sc:=B1K
  have hu:=hr.units
  exact (D3 (K6 (A2v call_list_of A6f rfl Z.n_list A2O (G0 (M4 gk O_Book__there A5d hr (by decide) tk (A5 (pv 0)) (C1 (A3 (A5 (pv 1))) D2)) K2))))
theorem B7N {P:Program} {w:World} {K:PySem.W.Frag} {mg:Str→Option Value} {base:Heap} {f:Addr} {cdv:Value} {A:Around} {outer:List Env} {s:Shared} {H:Hp} {EX:XK} {G:Gx} {E:AExc→A0→AH→Prop} (Z:Blt K w mg) (O_Book__there:OkM P w K mg base "Book" "there" T0 3 2 o9 [] (upc P6)) (hr:Room 3 (A.deeper (envOfC (("Book":Str)++"."++"flat") (defScope W5) s.heap.objs.size f cdv))) (gk:G.K=K) (tk:Takes (bx P w K mg base A79 (("Book":Str)++"."++"flat") (defScope W5) f cdv A outer s H EX) (cW G E)):
    ASs (bx P w K mg base A79 (("Book":Str)++"."++"flat") (defScope W5) f cdv A outer s H EX) G (defBody W5) (A5k E):=by
  subst gk
  have gk:G.K=G.K:=rfl
  have sc:=B1S
  have hu:=hr.units
  exact (D4 (c5 (M4 gk O_Book__there A5d hr (by decide) tk (A5 (pv 0)) (C1 (A3 (A5 (pv 1))) D2)))
    (D3 (K6 (A2v call_list_of A6f rfl Z.n_list A2O (G0 (A6Z hu (f8 gk Z.fo_Book_laid (A5 (pv 0))) (A3 (A5 (pv 1))) (fun _ _=> rfl)) K2)))))
theorem B7U {P:Program} {w:World} {K:PySem.W.Frag} {mg:Str→Option Value} {base:Heap} {f:Addr} {cdv:Value} {A:Around} {outer:List Env} {s:Shared} {H:Hp} {EX:XK} {G:Gx} (Z:Blt K w mg) (O_Book__write:OkM P w K mg base "Book" "write" W3 5 3 A13 [] (upc G8)) (O_Book__drop:OkM P w K mg base "Book" "drop" W4 5 2 A15 [] (upc V6)) (O_Book__steps:OkM P w K mg base "Book" "steps" W2 4 2 A11 [] (upc Q3)) (O_Book__flat:OkM P w K mg base "Book" "flat" W5 4 2 A14 [] (upc R3)) (O_Book__callers:OkM P w K mg base "Book" "callers" V5 4 2 A1x [] (upc Z7)) (lm:MakesL K mg base ("_law_asks"++".<locals>."++"<lambda>") cdv) (hr:Room 6 (A.deeper (envOfC "_law_asks" (defScope M3) s.heap.objs.size f cdv))) (gk:G.K=K):
    ASr (bx P w K mg base R0 "_law_asks" (defScope M3) f cdv A outer s H EX) 6 G (defBody M3) A32:=by
  subst gk
  have gk:G.K=G.K:=rfl
  have sc:=B1m
  have hu:=hr.units
  unfold A32
  refine (B9X (P7 (A3 (T4 gk (l9 gk (P4 (B7 (A3 (M7 (B7 (A3 D8) (B7 (A3 D8) (B7 (A3 ae_int) D7))))) D7)) ae_int) (P4 (B7 (A3 (M7 (B7 (A3 D8) (B7 (A3 D8) (B7 (A3 ae_int) D7))))) D7)))) (O0 (i:=2) sc.nd rfl (by first | exact .inl rfl | exact .inr rfl)))
    (B9d (kl:=5) gk sc.nd rfl (by first | exact .inl rfl | exact .inr rfl) (hr.mono (by decide)) (u0 lm rfl (O7 (by first | (show N6 (defScope M3) _ R0 []=true;decide+kernel) | rfl)) rfl) (A0R rfl (by first | exact .inl rfl | exact .inr (.inl rfl) | exact .inr (.inr rfl)) (u0 lm rfl (O7 (by first | (show N6 (defScope M3) _ R0 []=true;decide+kernel) | rfl)) rfl) (A0R rfl (by first | exact .inl rfl | exact .inr (.inl rfl) | exact .inr (.inr rfl)) (u0 lm rfl (O7 (by first | (show N6 (defScope M3) _ R0 []=true;decide+kernel) | rfl)) rfl) (A0R rfl (by first | exact .inl rfl | exact .inr (.inl rfl) | exact .inr (.inr rfl)) (u0 lm rfl (O7 (by first | (show N6 (defScope M3) _ R0 []=true;decide+kernel) | rfl)) rfl) (A0R rfl (by first | exact .inl rfl | exact .inr (.inl rfl) | exact .inr (.inr rfl)) (u0 lm rfl (O7 (by first | (show N6 (defScope M3) _ R0 []=true;decide+kernel) | rfl)) rfl) (A0R rfl (by first | exact .inl rfl | exact .inr (.inl rfl) | exact .inr (.inr rfl)) (u0 lm rfl (O7 (by first | (show N6 (defScope M3) _ R0 []=true;decide+kernel) | rfl)) rfl) (A0R rfl (by first | exact .inl rfl | exact .inr (.inl rfl) | exact .inr (.inr rfl)) (u0 lm rfl (O7 (by first | (show N6 (defScope M3) _ R0 []=true;decide+kernel) | rfl)) rfl) (A0R rfl (by first | exact .inl rfl | exact .inr (.inl rfl) | exact .inr (.inr rfl)) (u0 lm rfl (O7 (by first | (show N6 (defScope M3) _ R0 []=true;decide+kernel) | rfl)) rfl) (A0R rfl (by first | exact .inl rfl | exact .inr (.inl rfl) | exact .inr (.inr rfl)) (u0 lm rfl (O7 (by first | (show N6 (defScope M3) _ R0 []=true;decide+kernel) | rfl)) rfl) (A0R rfl (by first | exact .inl rfl | exact .inr (.inl rfl) | exact .inr (.inr rfl)) (u0 lm rfl (O7 (by first | (show N6 (defScope M3) _ R0 []=true;decide+kernel) | rfl)) rfl) (A0R rfl (by first | exact .inl rfl | exact .inr (.inl rfl) | exact .inr (.inr rfl)) (u0 lm rfl (O7 (by first | (show N6 (defScope M3) _ R0 []=true;decide+kernel) | rfl)) rfl) (C0x rfl (by first | exact .inl rfl | exact .inr (.inl rfl) | exact .inr (.inr rfl))))))))))))) ?askB (Nat.le_of_ble_eq_true rfl)))
  exact (.cons ⟨(O7 (by first | (show N6 (defScope M3) _ R0 []=true;decide+kernel) | rfl)),fun _ _ _ _ _=> rfl,fun _ _ _ _ _ _ _ _ _ hr gk tk=> by have hu:=hr.units;exact (M4 gk O_Book__write i3 hr (by decide) tk (A5 (pv 0)) (C1 (A3 D8) (C1 (A3 (P4 (B7 (A3 (M7 D7)) D7))) D2)))⟩ (.cons ⟨(O7 (by first | (show N6 (defScope M3) _ R0 []=true;decide+kernel) | rfl)),fun _ _ _ _ _=> rfl,fun _ _ _ _ _ _ _ _ _ hr gk tk=> by have hu:=hr.units;exact (M4 gk O_Book__write i3 hr (by decide) tk (A5 (pv 0)) (C1 (A3 D8) (C1 (A3 (P4 (B7 (A3 (M7 (B7 (A3 D8) (B7 (A3 ae_int) (B7 (A3 ae_int) D7))))) (B7 (A3 (M7 (B7 (A3 D8) (B7 (A3 (A5 (pv 1))) (B7 (A3 ae_int) D7))))) D7)))) D2)))⟩ (.cons ⟨(O7 (by first | (show N6 (defScope M3) _ R0 []=true;decide+kernel) | rfl)),fun _ _ _ _ _=> rfl,fun _ _ _ _ _ _ _ _ _ hr gk tk=> by have hu:=hr.units;exact (M4 gk O_Book__write i3 hr (by decide) tk (A5 (pv 0)) (C1 (A3 D8) (C1 (A3 (P4 (B7 (A3 (M7 (B7 (A3 D8) (B7 (A3 (A5 (pv 1))) (B7 (A3 ae_int) D7))))) (B7 (A3 (M7 (B7 (A3 D8) (B7 (A3 (A5 (pv 1))) (B7 (A3 ae_int) D7))))) D7)))) D2)))⟩ (.cons ⟨(O7 (by first | (show N6 (defScope M3) _ R0 []=true;decide+kernel) | rfl)),fun _ _ _ _ _=> rfl,fun _ _ _ _ _ _ _ _ _ hr gk tk=> by have hu:=hr.units;exact (M4 gk O_Book__write i3 hr (by decide) tk (A5 (pv 0)) (C1 (A3 D8) (C1 (A3 (T4 gk (P4 (B7 (A3 (M7 (B7 (A3 D8) (B7 (A3 ae_int) (B7 (A3 ae_int) D7))))) (B7 (A3 (M7 (B7 (A3 D8) (B7 (A3 ae_int) (B7 (A3 ae_int) D7))))) D7))) (A8n (A5 (pv 2)) ae_int))) D2)))⟩ (.cons ⟨(O7 (by first | (show N6 (defScope M3) _ R0 []=true;decide+kernel) | rfl)),fun _ _ _ _ _=> rfl,fun _ _ _ _ _ _ _ _ _ hr gk tk=> by have hu:=hr.units;exact (M4 gk O_Book__write i3 hr (by decide) tk (A5 (pv 0)) (C1 (A3 D8) (C1 (A3 (P4 (B7 (A3 (M7 (B7 (A3 D8) (B7 (A3 D8) D7)))) D7))) D2)))⟩ (.cons ⟨(O7 (by first | (show N6 (defScope M3) _ R0 []=true;decide+kernel) | rfl)),fun _ _ _ _ _=> rfl,fun _ _ _ _ _ _ _ _ _ hr gk tk=> by have hu:=hr.units;exact (M4 gk O_Book__write i3 hr (by decide) tk (A5 (pv 0)) (C1 (A3 D8) (C1 (A3 (T4 gk (A5 (pv 2)) (P4 (B7 (A3 (M7 (B7 (A3 D8) (B7 (A3 ae_int) (B7 (A3 ae_int) D7))))) D7)))) D2)))⟩ (.cons ⟨(O7 (by first | (show N6 (defScope M3) _ R0 []=true;decide+kernel) | rfl)),fun _ _ _ _ _=> rfl,fun _ _ _ _ _ _ _ _ _ hr gk tk=> by have hu:=hr.units;exact (M4 gk O_Book__drop A74 hr (by decide) tk (A5 (pv 0)) (C1 (A3 D8) D2))⟩ (.cons ⟨(O7 (by first | (show N6 (defScope M3) _ R0 []=true;decide+kernel) | rfl)),fun _ _ _ _ _=> rfl,fun _ _ _ _ _ _ _ _ _ hr gk tk=> by have hu:=hr.units;exact (M4 gk O_Book__drop A74 hr (by decide) tk (A5 (pv 0)) (C1 (A3 (A5 (pv 1))) D2))⟩ (.cons ⟨(O7 (by first | (show N6 (defScope M3) _ R0 []=true;decide+kernel) | rfl)),fun _ _ _ _ _=> rfl,fun _ _ _ _ _ _ _ _ _ hr gk tk=> by have hu:=hr.units;exact (M4 gk O_Book__steps A31 hr (by decide) tk (A5 (pv 0)) (C1 (A3 (A5 (pv 1))) D2))⟩ (.cons ⟨(O7 (by first | (show N6 (defScope M3) _ R0 []=true;decide+kernel) | rfl)),fun _ _ _ _ _=> rfl,fun _ _ _ _ _ _ _ _ _ hr gk tk=> by have hu:=hr.units;exact (M4 gk O_Book__flat A5g hr (by decide) tk (A5 (pv 0)) (C1 (A3 (A5 (pv 1))) D2))⟩ (.cons ⟨(O7 (by first | (show N6 (defScope M3) _ R0 []=true;decide+kernel) | rfl)),fun _ _ _ _ _=> rfl,fun _ _ _ _ _ _ _ _ _ hr gk tk=> by have hu:=hr.units;exact (M4 gk O_Book__callers B0x hr (by decide) tk (A5 (pv 0)) (C1 (A3 (A5 (pv 1))) D2))⟩ .nil)))))))))))
theorem B6a {P:Program} {w:World} {K:PySem.W.Frag} {mg:Str→Option Value} {base:Heap} {f:Addr} {cdv:Value} {A:Around} {outer:List Env} {s:Shared} {H:Hp} {EX:XK} {G:Gx} {E:AExc→A0→AH→Prop} (Z:Blt K w mg) (O_look_sizes:Ok P w K mg base "look_sizes" a9 3 1 A4A (upc A1v)) (hr:Room 3 (A.deeper (envOfC (("Book":Str)++"."++"__init__") (defScope Z5) s.heap.objs.size f cdv))) (gk:G.K=K) (tk:Takes (bx P w K mg base A7z (("Book":Str)++"."++"__init__") (defScope Z5) f cdv A outer s H EX) (cW G E)):
    ASs (bx P w K mg base A7z (("Book":Str)++"."++"__init__") (defScope Z5) f cdv A outer s H EX) G (defBody Z5) (A5U E):=by
  subst gk
  have gk:G.K=G.K:=rfl
  have sc:=B0z
  have hu:=hr.units
  exact (D4 (c5 (R5 gk O_look_sizes B7R hr (by decide) rfl tk (C1 (A3 (A5 (pv 1))) D2)))
    (D4 (P7 (A3 (A5 (pv 1))) (A9Z gk Z.fo_Book_casks (A5 (pv 0))))
    (D4 (P7 (B4B B2s) (A9Z gk Z.fo_Book_written (A5 (pv 0))))
    (D3 (P7 (B4B B2s) (A9Z gk Z.fo_Book_laid (A5 (pv 0))))))))
theorem B61 {P:Program} {w:World} {K:PySem.W.Frag} {mg:Str→Option Value} {base:Heap} {f:Addr} {cdv:Value} {A:Around} {outer:List Env} {s:Shared} {H:Hp} {EX:XK} {G:Gx} {E:AExc→A0→AH→Prop} (Z:Blt K w mg) (hr:Room 0 (A.deeper (envOfC (("Book":Str)++"."++"names") (defScope Z9) s.heap.objs.size f cdv))) (gk:G.K=K) (tk:Takes (bx P w K mg base A76 (("Book":Str)++"."++"names") (defScope Z9) f cdv A outer s H EX) (cW G E)):
    ASs (bx P w K mg base A76 (("Book":Str)++"."++"names") (defScope Z9) f cdv A outer s H EX) G (defBody Z9) (A5f E):=by
  subst gk
  have gk:G.K=G.K:=rfl
  have sc:=B1I
  have hu:=hr.units
  exact (D3 (K6 (A2v (call_list_dK rfl) B9P rfl Z.n_list A2O (G0 (f8 gk Z.fo_Book_written (A5 (pv 0))) K2))))
theorem B6e {P:Program} {w:World} {K:PySem.W.Frag} {mg:Str→Option Value} {base:Heap} {f:Addr} {cdv:Value} {A:Around} {outer:List Env} {s:Shared} {H:Hp} {EX:XK} {G:Gx} {E:AExc→A0→AH→Prop} (Z:Blt K w mg) (hr:Room 0 (A.deeper (envOfC (("Book":Str)++"."++"__len__") (defScope Z8) s.heap.objs.size f cdv))) (gk:G.K=K) (tk:Takes (bx P w K mg base A71 (("Book":Str)++"."++"__len__") (defScope Z8) f cdv A outer s H EX) (cW G E)):
    ASs (bx P w K mg base A71 (("Book":Str)++"."++"__len__") (defScope Z8) f cdv A outer s H EX) G (defBody Z8) (A5a E):=by
  subst gk
  have gk:G.K=G.K:=rfl
  have sc:=B08
  have hu:=hr.units
  exact (D3 (K6 (N2 call_lenD B3E rfl Z.n_len U8 (G0 (f8 gk Z.fo_Book_written (A5 (pv 0))) K2))))
theorem C3B {P:Program} {w:World} {K:PySem.W.Frag} {mg:Str→Option Value} {base:Heap} {f:Addr} {cdv:Value} {A:Around} {outer:List Env} {s:Shared} {H:Hp} {EX:XK} {G:Gx} {E:AExc→A0→AH→Prop} (Z:Blt K w mg) (O__law_open:Ok P w K mg base "_law_open" b8 1 1 A4L (upc A18)) (O__law_any_sizes:Ok P w K mg base "_law_any_sizes" Z6 3 1 A3v (upc A1t)) (O__law_take:Ok P w K mg base "_law_take" U5 1 2 A0m (upc U4)) (O_Book____init__:OkM P w K mg base "Book" "__init__" Z5 4 2 A3r [] (upc A1u)) (O_Book__write:OkM P w K mg base "Book" "write" W3 5 3 A13 [] (upc G8)) (O_Book__flat:OkM P w K mg base "Book" "flat" W5 4 2 A14 [] (upc R3)) (O_Book__steps:OkM P w K mg base "Book" "steps" W2 4 2 A11 [] (upc Q3)) (O_Book__names:OkM P w K mg base "Book" "names" Z9 1 1 A38 [] (upc p9)) (O__law_same:Ok P w K mg base "_law_same" W6 9 2 A2A (upc (m__law_same 8))) (O__law_asks:AkOk P w K mg base "_law_asks" M3 6 7 2 A4M (A0c A1y)) (O_Book__drop:OkM P w K mg base "Book" "drop" W4 5 2 A15 [] (upc V6)) (O_Book____len__:OkM P w K mg base "Book" "__len__" Z8 1 1 A3z [] (upc o8)) {ga__law_word:Addr} {fd__law_word:FuncData} (F__law_word:FunD K "_law_word" "_law_word" (defArgs X6) (defBody X6) (defScope X6) [] [] ga__law_word fd__law_word) (g__law_word:mg "_law_word"=some (.ref ga__law_word)) {ga__law_field:Addr} {fd__law_field:FuncData} (F__law_field:FunD K "_law_field" "_law_field" (defArgs X5) (defBody X5) (defScope X5) [] [] ga__law_field fd__law_field) (g__law_field:mg "_law_field"=some (.ref ga__law_field)) (lm:MakesL K mg base ("law"++".<locals>."++"<lambda>") cdv) (hr:Room 9 (A.deeper (envOfC "law" (defScope T9) s.heap.objs.size f cdv))) (gk:G.K=K) (tk:Takes (bx P w K mg base i6 "law" (defScope T9) f cdv A outer s H EX) (cW G E)):
    ASs (bx P w K mg base i6 "law" (defScope T9) f cdv A outer s H EX) G (defBody T9) (A7H E):=by
  subst gk
  have gk:G.K=G.K:=rfl
  have sc:=B4v
  have hu:=hr.units
  exact (D4 (A9S (i:=1) sc.nd rfl (by first | exact .inl rfl | exact .inr rfl) (R5 gk O__law_open B7o hr (by decide) rfl tk (C1 (A3 (A5 (pv 0))) D2)))
    (D4 (C1B 1 (P7 (A3 (R5 gk O__law_any_sizes B6b hr (by decide) rfl tk (C1 (A3 (A5 (pv 1))) D2))) (O0 (i:=2) sc.nd rfl (by first | exact .inl rfl | exact .inr rfl))))
    (D4 (P7 (A3 (A8n D8 (T4 gk ae_int (R5 gk O__law_take A5v hr (by decide) rfl tk (C1 (A3 (A5 (pv 1))) (C1 (A3 ae_int) D2)))))) (O0 (i:=3) sc.nd rfl (by first | exact .inl rfl | exact .inr rfl)))
    (D4 (P7 (A3 (C0U gk Z.mk_Book O_Book____init__ B6C hr (by decide) rfl tk (C1 (A3 (A5 (pv 2))) D2))) (O0 (i:=4) sc.nd rfl (by first | exact .inl rfl | exact .inr rfl)))
    (D4 (c5 (M4 gk O_Book__write i3 hr (by decide) tk (A5 (pv 4)) (C1 (A3 D8) (C1 (A3 (l9 gk (P4 (B7 (A3 (M7 (B7 (A3 D8) (B7 (A3 ae_int) (B7 (A3 ae_int) D7))))) D7)) ae_int)) D2))))
    (D4 (c5 (M4 gk O_Book__write i3 hr (by decide) tk (A5 (pv 4)) (C1 (A3 D8) (C1 (A3 (P4 (B7 (A3 (M7 (B7 (A3 D8) (B7 (A3 D8) (B7 (A3 ae_int) D7))))) D7))) D2))))
    (D4 (P7 (A3 (P4 (B7 (A3 (B21 gk O_Book__names B1E hr (by decide) tk (A5 (pv 4)))) (B7 (A3 (M4 gk O_Book__steps A31 hr (by decide) tk (A5 (pv 4)) (C1 (A3 D8) D2))) (B7 (A3 (M4 gk O_Book__steps A31 hr (by decide) tk (A5 (pv 4)) (C1 (A3 D8) D2))) (B7 (A3 (M4 gk O_Book__flat A5g hr (by decide) tk (A5 (pv 4)) (C1 (A3 D8) D2))) D7)))))) (O0 (i:=5) sc.nd rfl (by first | exact .inl rfl | exact .inr rfl)))
    (D4 (P7 (A3 (P4 (B7 (A3 (M7 (B7 (A3 D8) (B7 (A3 D8) D7)))) (B7 (A3 (M7 (B7 (A3 D8) (B7 (A3 (A5 (pv 3))) D7)))) (B7 (A3 (M7 (B7 (A3 D8) (B7 (A3 (M7 (B7 (A3 ae_int) (B7 (A3 ae_int) D7)))) D7)))) (B7 (A3 (M7 (B7 (A3 D8) (B7 (A3 (M7 (B7 (A3 ae_int) (B7 (A3 ae_int) D7)))) D7)))) (B7 (A3 (M7 (B7 (A3 D8) (B7 (A3 (M7 (B7 (A3 ae_int) (B7 (A3 (A6h ae_int)) D7)))) D7)))) D7))))))) (O0 (i:=6) sc.nd rfl (by first | exact .inl rfl | exact .inr rfl)))
    (D4 (P7 (A3 (T4 gk (T4 gk (A5 (pv 6)) (P4 (B7 (A3 (M7 (B7 (A3 D8) (B7 (A3 ae_int) D7)))) (B7 (A3 (M7 (B7 (A3 D8) (B7 (A3 D8) D7)))) D7)))) (l9 gk (P4 (B7 (A3 (M7 (B7 (A3 D8) (B7 (A3 (A5 (pv 3))) D7)))) D7)) ae_int))) (O0 (i:=6) sc.nd rfl (by first | exact .inl rfl | exact .inr rfl)))
    (D4 (N5 (A2V (v3 (R5 gk O__law_same A8N hr (by decide) rfl tk (C1 (A3 (C17 (kl:=6) (j:=7) (own:=[("_law_ask",7)]) gk rfl sc.nd (C0i gk O__law_asks B7l hr (by decide) rfl (C1 (A3 (A5 (pv 4))) (C1 (A3 (A5 (pv 3))) D2))) (blkOk_by (by first | (show blkC i6 (defScope T9) _ _=true;decide+kernel) | rfl)) (by decide) (fun _ _ _ _ _ _=> (O0 (i:=7) sc.nd rfl (by first | exact .inl rfl | exact .inr rfl))) (fun _ _ _ _ _ G' fa_ sp_ gk' hF=> by have gk:=gk';exact (A3 (C2G (kg:=6) (i:=7) gk hF F__law_field g__law_field A8A A5i rfl rfl A2H (hr.mono (by decide)) rfl (by first | exact .inl rfl | exact .inr (.inl rfl) | exact .inr (.inr rfl)) (by decide) (fun cdv s H EX G' E' f sp hr gk tk hL=> A8D Z (hr.mono (by decide)) gk tk hL)))))) (C1 (A3 (A5 (pv 6))) D2))))) (D3 (K6 A3Q)) O6)
    (D4 (N5 (A0X gk hu (P4 (B7 (A3 (B21 gk O_Book__names B1E hr (by decide) tk (A5 (pv 4)))) (B7 (A3 (M4 gk O_Book__steps A31 hr (by decide) tk (A5 (pv 4)) (C1 (A3 D8) D2))) (B7 (A3 (M4 gk O_Book__steps A31 hr (by decide) tk (A5 (pv 4)) (C1 (A3 D8) D2))) (B7 (A3 (M4 gk O_Book__flat A5g hr (by decide) tk (A5 (pv 4)) (C1 (A3 D8) D2))) D7))))) (A5 (pv 5))) (D3 (K6 A3Q)) O6)
    (D4 (c5 (M4 gk O_Book__write i3 hr (by decide) tk (A5 (pv 4)) (C1 (A3 D8) (C1 (A3 (P4 (B7 (A3 (M7 (B7 (A3 D8) (B7 (A3 D8) (B7 (A3 ae_int) D7))))) (B7 (A3 (M7 (B7 (A3 D8) (B7 (A3 D8) (B7 (A3 ae_int) D7))))) (B7 (A3 (M7 (B7 (A3 D8) (B7 (A3 D8) (B7 (A3 ae_int) D7))))) D7))))) D2))))
    (D4 (N5 (AW.ap (A4x (A0X gk hu (N2 call_len Y4 rfl Z.n_len U8 (G0 (M4 gk O_Book__flat A5g hr (by decide) tk (A5 (pv 4)) (C1 (A3 D8) D2)) K2)) ae_int) (A4n (A0X gk hu (A50 (ps:=[]) (kg:=6) (kl:=5) gk F__law_field g__law_field A8A A5i rfl rfl tk (hr.mono (by decide)) (A6O gk lm rfl (O7 (by first | (show N6 (defScope T9) _ i6 []=true;decide+kernel) | rfl | decide+kernel)) D2) (O7 (by first | (show N6 (defScope T9) _ i6 []=true;decide+kernel) | rfl | decide+kernel)) (by decide) (fun _ _ _ _ _ us hl=> match us,hl with | [],_=> rfl) (fun _ _ _ _ _ _ _ _ _ hr gk tk=> by have hu:=hr.units;exact (M4 gk O_Book__drop A74 hr (by decide) tk (A5 (pv 4)) (C1 (A3 D8) D2))) (fun cdv s H EX G' E' f sp hr gk tk hL=> A8D Z (hr.mono (by decide)) gk tk hL)) (M7 (B7 (A3 D8) (B7 (A3 D8) D7))))))) (D3 (K6 A3Q)) O6)
    (D4 (B9r (passes_of rfl) (A9m (B3X gk O_Book____len__ B05 hr (by decide) rfl Z.n_len (A5 (pv 4))) ae_int) (D3 (c5 (M4 gk O_Book__write i3 hr (by decide) tk (A5 (pv 4)) (C1 (A3 (T4 gk D8 (L9 gk D8 (B3X gk O_Book____len__ B05 hr (by decide) rfl Z.n_len (A5 (pv 4))) (fun _ _=> rfl)))) (C1 (A3 (P4 D7)) D2))))))
    (D4 (B9E (i:=8) (own:=[("_law_odd",9)]) rfl sc.nd rfl rfl rfl (B4n gk (A3 (P4 (B7 (A3 D8) (B7 (A3 D8) (B7 (A3 D8) (B7 (A3 D8) D7))))))) (blkOk_by (by first | (show blkC i6 (defScope T9) _ _=true;decide+kernel) | rfl)) (by decide) (fun _ _ _ _ _=> (O0 (i:=9) sc.nd rfl (by first | exact .inl rfl | exact .inr rfl))) (fun _ _ _ _ _=> A29) (fun _ _ _ _ _=> (A3 (L9 gk (A50 (ps:=[]) (kg:=6) (kl:=5) gk F__law_word g__law_word B1p A8I rfl rfl A2H (hr.mono (by decide)) (A6O gk lm rfl (O7 (by show N6 _ _ i6 []=true;rfl)) D2) (O7 (by show N6 _ _ i6 []=true;rfl)) (by decide) (fun _ _ _ _ _ us hl=> match us,hl with | [],_=> rfl) (fun _ _ _ _ _ _ _ _ _ hr gk tk=> by have hu:=hr.units;exact (M4 gk O_Book__write i3 hr (by decide) tk (A5 (pv 4)) (C1 (A3 (A5 (pv 9))) (C1 (A3 (P4 (B7 (A3 (M7 D7)) D7))) D2)))) (fun cdv s H EX G' E' f sp hr gk tk hL=> B1v Z (hr.mono (by decide)) gk tk hL)) ae_int (fun _ _=> rfl)))))
    (D4 (c5 (A94 gk A8T PySem.F.plainAttrs_list PySem.F.slot_list_append PySem.F.type_list_append mt_append (A5 (pv 8)) (B7 (A3 (L9 gk (A50 (ps:=[]) (kg:=6) (kl:=5) gk F__law_word g__law_word B1p A8I rfl rfl tk (hr.mono (by decide)) (A6O gk lm rfl (O7 (by first | (show N6 (defScope T9) _ i6 []=true;decide+kernel) | rfl | decide+kernel)) D2) (O7 (by first | (show N6 (defScope T9) _ i6 []=true;decide+kernel) | rfl | decide+kernel)) (by decide) (fun _ _ _ _ _ us hl=> match us,hl with | [],_=> rfl) (fun _ _ _ _ _ _ _ _ _ hr gk tk=> by have hu:=hr.units;exact (M4 gk O_Book__write i3 hr (by decide) tk (A5 (pv 4)) (C1 (A3 D8) (C1 (A3 (P4 (B7 (A3 (M7 D7)) D7))) D2)))) (fun cdv s H EX G' E' f sp hr gk tk hL=> B1v Z (hr.mono (by decide)) gk tk hL)) ae_int (fun _ _=> rfl))) D7)))
    (D4 (N5 (AW.ap (A4x (A0X gk hu (A5 (pv 8)) (T4 gk (l9 gk (P4 (B7 (A3 D8) D7)) ae_int) (P4 (B7 (A3 D8) D7)))) (A4n (A0X gk hu (A50 (ps:=[]) (kg:=6) (kl:=5) gk F__law_field g__law_field A8A A5i rfl rfl tk (hr.mono (by decide)) (A6O gk lm rfl (O7 (by first | (show N6 (defScope T9) _ i6 []=true;decide+kernel) | rfl | decide+kernel)) D2) (O7 (by first | (show N6 (defScope T9) _ i6 []=true;decide+kernel) | rfl | decide+kernel)) (by decide) (fun _ _ _ _ _ us hl=> match us,hl with | [],_=> rfl) (fun _ _ _ _ _ _ _ _ _ hr gk tk=> by have hu:=hr.units;exact (M4 gk O_Book__write i3 hr (by decide) tk (A5 (pv 4)) (C1 (A3 D8) (C1 (A3 (P4 (B7 (A3 (M7 D7)) D7))) D2)))) (fun cdv s H EX G' E' f sp hr gk tk hL=> A8D Z (hr.mono (by decide)) gk tk hL)) (M7 (B7 (A3 D8) (B7 (A3 ae_int) D7))))))) (D3 (K6 A3Q)) O6)
    (D3 (K6 (R5 gk O__law_same A8N hr (by decide) rfl tk (C1 (A3 (P4 (B7 (A3 (k8 rfl Z.c_MOST_ROUNDS)) (B7 (A3 (k8 rfl Z.c_MOST_FLAT)) (B7 (A3 (k8 rfl Z.c_MOST_CALLS)) D7))))) (C1 (A3 (P4 (B7 (A3 ae_int) (B7 (A3 ae_int) (B7 (A3 ae_int) D7))))) D2))))))))))))))))))))))
end Ab
namespace Ab
open PySem PySem.Spec PyProof.Rows L2 RZ
theorem B7O {P:Program} {w:World} {K:PySem.W.Frag} {mg:Str→Option Value} {base:Heap} {f:Addr} {fd:FuncData} (Z:Blt K w mg) (F:FunD K "look_sizes" "look_sizes" (defArgs a9) (defBody a9) (defScope a9) [] [] f fd) (hm:mg "look_sizes"=some (.ref f)) (R_BadSizes:XkOk P w K mg base "BadSizes" "bad sizes" ["cask"]):Ok P w K mg base "look_sizes" a9 3 1 A4A (upc A1v):=
  Ok.mk' upc.m hm F B1V rfl (fun cdv A outer s H EX G E hr gk tk=> B7G Z R_BadSizes hr gk tk) B6j
theorem B7Y {P:Program} {w:World} {K:PySem.W.Frag} {mg:Str→Option Value} {base:Heap} {f:Addr} {fd:FuncData} (Z:Blt K w mg) (F:FunD K "has_count" "has_count" (defArgs b5) (defBody b5) (defScope b5) [] [] f fd) (hm:mg "has_count"=some (.ref f)):Ok P w K mg base "has_count" b5 1 3 A4K (upc A2B):=
  Ok.mk' upc.m hm F B1l rfl (fun cdv A outer s H EX G E hr gk tk=> B7Z Z hr gk tk) B7X
theorem B7m {P:Program} {w:World} {K:PySem.W.Frag} {mg:Str→Option Value} {base:Heap} {f:Addr} {fd:FuncData} (Z:Blt K w mg) (F:FunD K "first_bad" "first_bad" (defArgs b7) (defBody b7) (defScope b7) [] [] f fd) (hm:mg "first_bad"=some (.ref f)):Ok P w K mg base "first_bad" b7 1 3 A4I (upc x8):=
  Ok.mk' upc.m hm F B1n rfl (fun cdv A outer s H EX G E hr gk tk=> B7c Z hr gk tk) B7p
theorem B77 {P:Program} {w:World} {K:PySem.W.Frag} {mg:Str→Option Value} {base:Heap} {f:Addr} {fd:FuncData} (Z:Blt K w mg) (F:FunD K "fault_of" "fault_of" (defArgs b9) (defBody b9) (defScope b9) [] [] f fd) (hm:mg "fault_of"=some (.ref f)) (O_has_count:Ok P w K mg base "has_count" b5 1 3 A4K (upc A2B)) (O_first_bad:Ok P w K mg base "first_bad" b7 1 3 A4I (upc x8)):Ok P w K mg base "fault_of" b9 2 2 A4O (upc q9):=
  Ok.mk' upc.m hm F B16 rfl (fun cdv A outer s H EX G E hr gk tk=> B8H Z O_has_count O_first_bad hr gk tk) B8E
theorem B8a {P:Program} {w:World} {K:PySem.W.Frag} {mg:Str→Option Value} {base:Heap} {f:Addr} {fd:FuncData} (Z:Blt K w mg) (F:FunD K "is_name" "is_name" (defArgs X7) (defBody X7) (defScope X7) [] [] f fd) (hm:mg "is_name"=some (.ref f)):Ok P w K mg base "is_name" X7 1 1 A4P (upc A2D):=
  Ok.mk' upc.m hm F B19 rfl (fun cdv A outer s H EX G E hr gk tk=> B8v Z hr gk tk) B8e
theorem B8w {P:Program} {w:World} {K:PySem.W.Frag} {mg:Str→Option Value} {base:Heap} {f:Addr} {fd:FuncData} (Z:Blt K w mg) (F:FunD K "is_call" "is_call" (defArgs T1) (defBody T1) (defScope T1) [] [] f fd) (hm:mg "is_call"=some (.ref f)):Ok P w K mg base "is_call" T1 1 1 r9 (upc N1):=
  Ok.mk' upc.m hm F B2C rfl (fun cdv A outer s H EX G E hr gk tk=> B8c Z hr gk tk) B8X
theorem B7Q {P:Program} {w:World} {K:PySem.W.Frag} {mg:Str→Option Value} {base:Heap} {f:Addr} {fd:FuncData} (Z:Blt K w mg) (F:FunD K "call_fault" "call_fault" (defArgs b4) (defBody b4) (defScope b4) [] [] f fd) (hm:mg "call_fault"=some (.ref f)):Ok P w K mg base "call_fault" b4 1 1 A4C (upc A0k):=
  Ok.mk' upc.m hm F B1R rfl (fun cdv A outer s H EX G E hr gk tk=> B7E Z hr gk tk) B7S
theorem B7n {P:Program} {w:World} {K:PySem.W.Frag} {mg:Str→Option Value} {base:Heap} {f:Addr} {fd:FuncData} (Z:Blt K w mg) (F:FunD K "_law_open" "_law_open" (defArgs b8) (defBody b8) (defScope b8) [] [] f fd) (hm:mg "_law_open"=some (.ref f)):Ok P w K mg base "_law_open" b8 1 1 A4L (upc A18):=
  Ok.mk' upc.m hm F B1f rfl (fun cdv A outer s H EX G E hr gk tk=> B7r Z hr gk tk) B7y
theorem B7w {P:Program} {w:World} {K:PySem.W.Frag} {mg:Str→Option Value} {base:Heap} {f:Addr} {fd:FuncData} (Z:Blt K w mg) (F:FunD K "_law_take" "_law_take" (defArgs U5) (defBody U5) (defScope U5) [] [] f fd) (hm:mg "_law_take"=some (.ref f)):Ok P w K mg base "_law_take" U5 1 2 A0m (upc U4):=
  Ok.mk' upc.m hm F B1w rfl (fun cdv A outer s H EX G E hr gk tk=> B7x Z hr gk tk) B7g
theorem B7u {P:Program} {w:World} {K:PySem.W.Frag} {mg:Str→Option Value} {base:Heap} {f:Addr} {fd:FuncData} (Z:Blt K w mg) (F:FunD K "_law_pick" "_law_pick" (defArgs b6) (defBody b6) (defScope b6) [] [] f fd) (hm:mg "_law_pick"=some (.ref f)) (O__law_take:Ok P w K mg base "_law_take" U5 1 2 A0m (upc U4)):Ok P w K mg base "_law_pick" b6 2 2 A4J (upc A19):=
  Ok.mk' upc.m hm F B1d rfl (fun cdv A outer s H EX G E hr gk tk=> B7s Z O__law_take hr gk tk) B7z
theorem B1j {P:Program} {w:World} {K:PySem.W.Frag} {mg:Str→Option Value} {base:Heap} {f:Addr} {fd:FuncData} (Z:Blt K w mg) (F:FunD K "_law_same" "_law_same" (defArgs W6) (defBody W6) (defScope W6) [] [] f fd) (hm:mg "_law_same"=some (.ref f)):∀d,Ok P w K mg base "_law_same" W6 (1+d) 2 A2A (upc (m__law_same d))
  | 0=> (C0J (n:=2) (ps:=A2A) hm F).up (by omega) upc.m (fun _ _ _ _ ⟨_,_,_,_,z⟩=> z)
  | d+1=> Ok.mk' (k:=1+d) upc.m hm F B1h rfl (fun cdv A outer s H EX G E hr gk tk=> B7h (d:=d) (j:=1+d) Z (B1j Z F hm d) (hr.mono (by omega)) gk tk) (B7v d)
theorem B7F {P:Program} {w:World} {K:PySem.W.Frag} {mg:Str→Option Value} {base:Heap} {f:Addr} {fd:FuncData} (Z:Blt K w mg) (F:FunD K "_law_sizes" "_law_sizes" (defArgs X4) (defBody X4) (defScope X4) [] [] f fd) (hm:mg "_law_sizes"=some (.ref f)) (O__law_take:Ok P w K mg base "_law_take" U5 1 2 A0m (upc U4)):Ok P w K mg base "_law_sizes" X4 2 3 A4G (upc A17):=
  Ok.mk' upc.m hm F B1b rfl (fun cdv A outer s H EX G E hr gk tk=> B7D Z O__law_take hr gk tk) B7K
theorem B6Q {P:Program} {w:World} {K:PySem.W.Frag} {mg:Str→Option Value} {base:Heap} {f:Addr} {fd:FuncData} (Z:Blt K w mg) (F:FunD K "_law_any_sizes" "_law_any_sizes" (defArgs Z6) (defBody Z6) (defScope Z6) [] [] f fd) (hm:mg "_law_any_sizes"=some (.ref f)) (O__law_sizes:Ok P w K mg base "_law_sizes" X4 2 3 A4G (upc A17)) (O__law_pick:Ok P w K mg base "_law_pick" b6 2 2 A4J (upc A19)):Ok P w K mg base "_law_any_sizes" Z6 3 1 A3v (upc A1t):=
  Ok.mk' upc.m hm F B00 rfl (fun cdv A outer s H EX G E hr gk tk=> B6Z Z O__law_sizes O__law_pick hr gk tk) B6S
theorem B6L {P:Program} {w:World} {K:PySem.W.Frag} {mg:Str→Option Value} {base:Heap} {f:Addr} {fd:FuncData} (Z:Blt K w mg) (O_is_name:Ok P w K mg base "is_name" X7 1 1 A4P (upc A2D)) (R_BadName:XkOk P w K mg base "BadName" "bad name" []) (R_Taken:XkOk P w K mg base "Taken" "taken" ["name"]) (R_TooMany:XkOk P w K mg base "TooMany" "too many" ["most"]) (cl:Cls K (He.ga K "Book")) (M:Meth K (He.ga K "Book") "look_new" f) (F:FunD K "look_new" (("Book":Str)++"."++"look_new") (defArgs Z3) (defBody Z3) (defScope Z3) [] [] f fd):OkM P w K mg base "Book" "look_new" Z3 3 2 A3w [] (upc A1O):=
  OkM.mk' upc.m cl M F B0y rfl (fun cdv A outer s H EX G E hr gk tk=> B6N Z O_is_name R_BadName R_Taken R_TooMany hr gk tk) B59
theorem B6V {P:Program} {w:World} {K:PySem.W.Frag} {mg:Str→Option Value} {base:Heap} {f:Addr} {fd:FuncData} (Z:Blt K w mg) (O_is_call:Ok P w K mg base "is_call" T1 1 1 r9 (upc N1)) (cl:Cls K (He.ga K "Book")) (M:Meth K (He.ga K "Book") "laid_out" f) (F:FunD K "laid_out" (("Book":Str)++"."++"laid_out") (defArgs Z4) (defBody Z4) (defScope Z4) [] [] f fd):OkM P w K mg base "Book" "laid_out" Z4 2 2 A3x [] (upc A1P):=
  OkM.mk' upc.m cl M F B03 rfl (fun cdv A outer s H EX G E hr gk tk=> B6K Z O_is_call hr gk tk) B6O
theorem B66 {P:Program} {w:World} {K:PySem.W.Frag} {mg:Str→Option Value} {base:Heap} {f:Addr} {fd:FuncData} (Z:Blt K w mg) (R_NoRound:XkOk P w K mg base "NoRound" "no round" ["name"]) (cl:Cls K (He.ga K "Book")) (M:Meth K (He.ga K "Book") "there" f) (F:FunD K "there" (("Book":Str)++"."++"there") (defArgs T0) (defBody T0) (defScope T0) [] [] f fd):OkM P w K mg base "Book" "there" T0 3 2 o9 [] (upc P6):=
  OkM.mk' upc.m cl M F B1H rfl (fun cdv A outer s H EX G E hr gk tk=> B62 Z R_NoRound hr gk tk) B6U
theorem B6D {P:Program} {w:World} {K:PySem.W.Frag} {mg:Str→Option Value} {base:Heap} {f:Addr} {fd:FuncData} (Z:Blt K w mg) (O_is_call:Ok P w K mg base "is_call" T1 1 1 r9 (upc N1)) (O_call_fault:Ok P w K mg base "call_fault" b4 1 1 A4C (upc A0k)) (O_fault_of:Ok P w K mg base "fault_of" b9 2 2 A4O (upc q9)) (O_Book__there:OkM P w K mg base "Book" "there" T0 3 2 o9 [] (upc P6)) (R_BadRow:XkOk P w K mg base "BadRow" "bad row" ["step","place"]) (cl:Cls K (He.ga K "Book")) (M:Meth K (He.ga K "Book") "look_step" f) (F:FunD K "look_step" (("Book":Str)++"."++"look_step") (defArgs Z2) (defBody Z2) (defScope Z2) [] [] f fd):OkM P w K mg base "Book" "look_step" Z2 4 3 A3n [] (upc A1N):=
  OkM.mk' upc.m cl M F B0w rfl (fun cdv A outer s H EX G E hr gk tk=> B6F Z O_is_call O_call_fault O_fault_of O_Book__there R_BadRow hr gk tk) B58
theorem B6o {P:Program} {w:World} {K:PySem.W.Frag} {mg:Str→Option Value} {base:Heap} {f:Addr} {fd:FuncData} (Z:Blt K w mg) (O_is_call:Ok P w K mg base "is_call" T1 1 1 r9 (upc N1)) (cl:Cls K (He.ga K "Book")) (M:Meth K (He.ga K "Book") "length" f) (F:FunD K "length" (("Book":Str)++"."++"length") (defArgs X3) (defBody X3) (defScope X3) [] [] f fd):OkM P w K mg base "Book" "length" X3 2 2 A34 [] (upc A1R):=
  OkM.mk' upc.m cl M F B1C rfl (fun cdv A outer s H EX G E hr gk tk=> B6p Z O_is_call hr gk tk) B6u
theorem B60 {P:Program} {w:World} {K:PySem.W.Frag} {mg:Str→Option Value} {base:Heap} {f:Addr} {fd:FuncData} (Z:Blt K w mg) (O_Book__look_new:OkM P w K mg base "Book" "look_new" Z3 3 2 A3w [] (upc A1O)) (O_Book__look_step:OkM P w K mg base "Book" "look_step" Z2 4 3 A3n [] (upc A1N)) (O_Book__length:OkM P w K mg base "Book" "length" X3 2 2 A34 [] (upc A1R)) (O_Book__laid_out:OkM P w K mg base "Book" "laid_out" Z4 2 2 A3x [] (upc A1P)) (R_TooLong:XkOk P w K mg base "TooLong" "too long" ["most"]) (cl:Cls K (He.ga K "Book")) (M:Meth K (He.ga K "Book") "write" f) (F:FunD K "write" (("Book":Str)++"."++"write") (defArgs W3) (defBody W3) (defScope W3) [] [] f fd):OkM P w K mg base "Book" "write" W3 5 3 A13 [] (upc G8):=
  OkM.mk' upc.m cl M F B1O rfl (fun cdv A outer s H EX G E hr gk tk=> B64 Z O_Book__look_new O_Book__look_step O_Book__length O_Book__laid_out R_TooLong hr gk tk) B6J
theorem B6g {P:Program} {w:World} {K:PySem.W.Frag} {mg:Str→Option Value} {base:Heap} {f:Addr} {fd:FuncData} (Z:Blt K w mg) (O_Book__there:OkM P w K mg base "Book" "there" T0 3 2 o9 [] (upc P6)) (O_is_call:Ok P w K mg base "is_call" T1 1 1 r9 (upc N1)) (cl:Cls K (He.ga K "Book")) (M:Meth K (He.ga K "Book") "callers" f) (F:FunD K "callers" (("Book":Str)++"."++"callers") (defArgs V5) (defBody V5) (defScope V5) [] [] f fd):OkM P w K mg base "Book" "callers" V5 4 2 A1x [] (upc Z7):=
  OkM.mk' upc.m cl M F B1A rfl (fun cdv A outer s H EX G E hr gk tk=> B6m Z O_Book__there O_is_call hr gk tk) B6l
theorem B7A {P:Program} {w:World} {K:PySem.W.Frag} {mg:Str→Option Value} {base:Heap} {f:Addr} {fd:FuncData} (Z:Blt K w mg) (O_Book__callers:OkM P w K mg base "Book" "callers" V5 4 2 A1x [] (upc Z7)) (R_InUse:XkOk P w K mg base "InUse" "in use" ["name"]) (cl:Cls K (He.ga K "Book")) (M:Meth K (He.ga K "Book") "drop" f) (F:FunD K "drop" (("Book":Str)++"."++"drop") (defArgs W4) (defBody W4) (defScope W4) [] [] f fd):OkM P w K mg base "Book" "drop" W4 5 2 A15 [] (upc V6):=
  OkM.mk' upc.m cl M F B1X rfl (fun cdv A outer s H EX G E hr gk tk=> B68 Z O_Book__callers R_InUse hr gk tk) B7C
theorem B6z {P:Program} {w:World} {K:PySem.W.Frag} {mg:Str→Option Value} {base:Heap} {f:Addr} {fd:FuncData} (Z:Blt K w mg) (O_Book__there:OkM P w K mg base "Book" "there" T0 3 2 o9 [] (upc P6)) (cl:Cls K (He.ga K "Book")) (M:Meth K (He.ga K "Book") "steps" f) (F:FunD K "steps" (("Book":Str)++"."++"steps") (defArgs W2) (defBody W2) (defScope W2) [] [] f fd):OkM P w K mg base "Book" "steps" W2 4 2 A11 [] (upc Q3):=
  OkM.mk' upc.m cl M F B1K rfl (fun cdv A outer s H EX G E hr gk tk=> B65 Z O_Book__there hr gk tk) B6M
theorem B69 {P:Program} {w:World} {K:PySem.W.Frag} {mg:Str→Option Value} {base:Heap} {f:Addr} {fd:FuncData} (Z:Blt K w mg) (O_Book__there:OkM P w K mg base "Book" "there" T0 3 2 o9 [] (upc P6)) (cl:Cls K (He.ga K "Book")) (M:Meth K (He.ga K "Book") "flat" f) (F:FunD K "flat" (("Book":Str)++"."++"flat") (defArgs W5) (defBody W5) (defScope W5) [] [] f fd):OkM P w K mg base "Book" "flat" W5 4 2 A14 [] (upc R3):=
  OkM.mk' upc.m cl M F B1S rfl (fun cdv A outer s H EX G E hr gk tk=> B7N Z O_Book__there hr gk tk) B7L
theorem B72 {P:Program} {w:World} {K:PySem.W.Frag} {mg:Str→Option Value} {base:Heap} {f:Addr} {fd:FuncData} (Z:Blt K w mg) (O_Book__write:OkM P w K mg base "Book" "write" W3 5 3 A13 [] (upc G8)) (O_Book__drop:OkM P w K mg base "Book" "drop" W4 5 2 A15 [] (upc V6)) (O_Book__steps:OkM P w K mg base "Book" "steps" W2 4 2 A11 [] (upc Q3)) (O_Book__flat:OkM P w K mg base "Book" "flat" W5 4 2 A14 [] (upc R3)) (O_Book__callers:OkM P w K mg base "Book" "callers" V5 4 2 A1x [] (upc Z7)) (F:FunD K "_law_asks" "_law_asks" (defArgs M3) (defBody M3) (defScope M3) [] [] f fd) (hm:mg "_law_asks"=some (.ref f)) (lm:∀cdv,A3F K f cdv→MakesL K mg base ("_law_asks"++".<locals>."++"<lambda>") cdv):AkOk P w K mg base "_law_asks" M3 6 7 2 A4M (A0c A1y):=
  AkOk.mk' C1P C3y hm F B1m rfl lm (fun cdv A outer s H EX G lm hr gk=> B7U Z O_Book__write O_Book__drop O_Book__steps O_Book__flat O_Book__callers lm hr gk) B6v
theorem B6T {P:Program} {w:World} {K:PySem.W.Frag} {mg:Str→Option Value} {base:Heap} {f:Addr} {fd:FuncData} (Z:Blt K w mg) (O_look_sizes:Ok P w K mg base "look_sizes" a9 3 1 A4A (upc A1v)) (cl:Cls K (He.ga K "Book")) (M:Meth K (He.ga K "Book") "__init__" f) (F:FunD K "__init__" (("Book":Str)++"."++"__init__") (defArgs Z5) (defBody Z5) (defScope Z5) [] [] f fd):OkM P w K mg base "Book" "__init__" Z5 4 2 A3r [] (upc A1u):=
  OkM.mk' upc.m cl M F B0z rfl (fun cdv A outer s H EX G E hr gk tk=> B6a Z O_look_sizes hr gk tk) B6R
theorem B6y {P:Program} {w:World} {K:PySem.W.Frag} {mg:Str→Option Value} {base:Heap} {f:Addr} {fd:FuncData} (Z:Blt K w mg) (cl:Cls K (He.ga K "Book")) (M:Meth K (He.ga K "Book") "names" f) (F:FunD K "names" (("Book":Str)++"."++"names") (defArgs Z9) (defBody Z9) (defScope Z9) [] [] f fd):OkM P w K mg base "Book" "names" Z9 1 1 A38 [] (upc p9):=
  OkM.mk' upc.m cl M F B1I rfl (fun cdv A outer s H EX G E hr gk tk=> B61 Z hr gk tk) B67
theorem B6f {P:Program} {w:World} {K:PySem.W.Frag} {mg:Str→Option Value} {base:Heap} {f:Addr} {fd:FuncData} (Z:Blt K w mg) (cl:Cls K (He.ga K "Book")) (M:Meth K (He.ga K "Book") "__len__" f) (F:FunD K "__len__" (("Book":Str)++"."++"__len__") (defArgs Z8) (defBody Z8) (defScope Z8) [] [] f fd):OkM P w K mg base "Book" "__len__" Z8 1 1 A3z [] (upc o8):=
  OkM.mk' upc.m cl M F B08 rfl (fun cdv A outer s H EX G E hr gk tk=> B6e Z hr gk tk) B6d
theorem o_law {P:Program} {w:World} {K:PySem.W.Frag} {mg:Str→Option Value} {base:Heap} {f:Addr} {fd:FuncData} (Z:Blt K w mg) (O__law_open:Ok P w K mg base "_law_open" b8 1 1 A4L (upc A18)) (O__law_any_sizes:Ok P w K mg base "_law_any_sizes" Z6 3 1 A3v (upc A1t)) (O__law_take:Ok P w K mg base "_law_take" U5 1 2 A0m (upc U4)) (O_Book____init__:OkM P w K mg base "Book" "__init__" Z5 4 2 A3r [] (upc A1u)) (O_Book__write:OkM P w K mg base "Book" "write" W3 5 3 A13 [] (upc G8)) (O_Book__flat:OkM P w K mg base "Book" "flat" W5 4 2 A14 [] (upc R3)) (O_Book__steps:OkM P w K mg base "Book" "steps" W2 4 2 A11 [] (upc Q3)) (O_Book__names:OkM P w K mg base "Book" "names" Z9 1 1 A38 [] (upc p9)) (O__law_same:Ok P w K mg base "_law_same" W6 9 2 A2A (upc (m__law_same 8))) (O__law_asks:AkOk P w K mg base "_law_asks" M3 6 7 2 A4M (A0c A1y)) (O_Book__drop:OkM P w K mg base "Book" "drop" W4 5 2 A15 [] (upc V6)) (O_Book____len__:OkM P w K mg base "Book" "__len__" Z8 1 1 A3z [] (upc o8)) {ga__law_word:Addr} {fd__law_word:FuncData} (F__law_word:FunD K "_law_word" "_law_word" (defArgs X6) (defBody X6) (defScope X6) [] [] ga__law_word fd__law_word) (g__law_word:mg "_law_word"=some (.ref ga__law_word)) {ga__law_field:Addr} {fd__law_field:FuncData} (F__law_field:FunD K "_law_field" "_law_field" (defArgs X5) (defBody X5) (defScope X5) [] [] ga__law_field fd__law_field) (g__law_field:mg "_law_field"=some (.ref ga__law_field)) (F:FunD K "law" "law" (defArgs T9) (defBody T9) (defScope T9) [] [] f fd) (hm:mg "law"=some (.ref f)) (lm:∀cdv,A3F K f cdv→MakesL K mg base ("law"++".<locals>."++"<lambda>") cdv):Ok P w K mg base "law" T9 10 1 A65 (upc m_law):=
  Ok.mkL upc.m hm F B4v rfl lm (fun cdv A outer s H EX G E lm hr gk tk=> C3B Z O__law_open O__law_any_sizes O__law_take O_Book____init__ O_Book__write O_Book__flat O_Book__steps O_Book__names O__law_same O__law_asks O_Book__drop O_Book____len__ F__law_word g__law_word F__law_field g__law_field lm hr gk tk) C3f
end Ab
namespace Ab
open PySem PySem.Spec PyProof.Rows L2 RZ
theorem hFacts {P:Program} {w:World} {K:PySem.W.Frag} {h:Heap} {mg:Str→Option Value} {f:Addr} (X:K.In h) (G:h.Ns mainGlobals mg) (hfa:mg ("law":Str)=some (.ref f)) (c:He.SaysD hFa hFn K) (x:hEx K=true):
    ∃fd:FuncData,(∀(s:Shared) (v:Value),BindsTo s fd ⟨[v],[]⟩ [("_law_script",v)])∧∀base:Heap,(∀p∈(g9 K).map (·.1),LamX.TabB base mg p.1 p.2)→FnOk P w K mg base (L2.CX P w) 10 f fd A65 (R9 K 1 (upc m_law)):=by
  obtain ⟨fd__wall,F__wall⟩:=c.def_ 0 (d:=B3F) rfl
  have g__wall:=He.glo_ok X G (c.fact 0 (f:= .glo "_wall") rfl)
  obtain ⟨fd_look_sizes,F_look_sizes⟩:=c.def_ 1 (d:=B1T) rfl
  have g_look_sizes:=He.glo_ok X G (c.fact 1 (f:= .glo "look_sizes") rfl)
  obtain ⟨fd_has_count,F_has_count⟩:=c.def_ 2 (d:=B1t) rfl
  have g_has_count:=He.glo_ok X G (c.fact 2 (f:= .glo "has_count") rfl)
  obtain ⟨fd_first_bad,F_first_bad⟩:=c.def_ 3 (d:=B1s) rfl
  have g_first_bad:=He.glo_ok X G (c.fact 3 (f:= .glo "first_bad") rfl)
  obtain ⟨fd_fault_of,F_fault_of⟩:=c.def_ 4 (d:=B13) rfl
  have g_fault_of:=He.glo_ok X G (c.fact 4 (f:= .glo "fault_of") rfl)
  obtain ⟨fd_is_name,F_is_name⟩:=c.def_ 5 (d:=B2O) rfl
  have g_is_name:=He.glo_ok X G (c.fact 5 (f:= .glo "is_name") rfl)
  obtain ⟨fd_is_call,F_is_call⟩:=c.def_ 6 (d:=B2B) rfl
  have g_is_call:=He.glo_ok X G (c.fact 6 (f:= .glo "is_call") rfl)
  obtain ⟨fd_call_fault,F_call_fault⟩:=c.def_ 7 (d:=B1Z) rfl
  have g_call_fault:=He.glo_ok X G (c.fact 7 (f:= .glo "call_fault") rfl)
  obtain ⟨fd__law_open,F__law_open⟩:=c.def_ 8 (d:=B1i) rfl
  have g__law_open:=He.glo_ok X G (c.fact 8 (f:= .glo "_law_open") rfl)
  obtain ⟨fd__law_take,F__law_take⟩:=c.def_ 9 (d:=B1e) rfl
  have g__law_take:=He.glo_ok X G (c.fact 9 (f:= .glo "_law_take") rfl)
  obtain ⟨fd__law_pick,F__law_pick⟩:=c.def_ 10 (d:=B1o) rfl
  have g__law_pick:=He.glo_ok X G (c.fact 10 (f:= .glo "_law_pick") rfl)
  obtain ⟨fd__law_same,F__law_same⟩:=c.def_ 11 (d:=B1g) rfl
  have g__law_same:=He.glo_ok X G (c.fact 11 (f:= .glo "_law_same") rfl)
  obtain ⟨fd__law_word,F__law_word⟩:=c.def_ 12 (d:=B1u) rfl
  have g__law_word:=He.glo_ok X G (c.fact 12 (f:= .glo "_law_word") rfl)
  obtain ⟨fd__law_sizes,F__law_sizes⟩:=c.def_ 13 (d:=B1P) rfl
  have g__law_sizes:=He.glo_ok X G (c.fact 13 (f:= .glo "_law_sizes") rfl)
  obtain ⟨fd__law_any_sizes,F__law_any_sizes⟩:=c.def_ 14 (d:=B04) rfl
  have g__law_any_sizes:=He.glo_ok X G (c.fact 14 (f:= .glo "_law_any_sizes") rfl)
  obtain ⟨fd__law_field,F__law_field⟩:=c.def_ 15 (d:=B1Y) rfl
  have g__law_field:=He.glo_ok X G (c.fact 15 (f:= .glo "_law_field") rfl)
  obtain ⟨fd__law_asks,F__law_asks⟩:=c.def_ 16 (d:=B1x) rfl
  have g__law_asks:=He.glo_ok X G (c.fact 16 (f:= .glo "_law_asks") rfl)
  obtain ⟨fd_law,F_law⟩:=c.def_ 17 (d:=B4o) rfl
  have g_law:=He.glo_ok X G (c.fact 17 (f:= .glo "law") rfl)
  unfold hEx at x
  simp only [Bool.and_eq_true] at x
  have h_BadName:=He.glo_ok X G (c.fact 40 (f:= .glo "BadName") rfl)
  obtain ⟨fdi_BadName,Fi_BadName⟩:=c.def_ 18 (d:=B1y) rfl
  have h_BadRow:=He.glo_ok X G (c.fact 41 (f:= .glo "BadRow") rfl)
  obtain ⟨fdi_BadRow,Fi_BadRow⟩:=c.def_ 19 (d:=B2L) rfl
  have h_BadSizes:=He.glo_ok X G (c.fact 42 (f:= .glo "BadSizes") rfl)
  obtain ⟨fdi_BadSizes,Fi_BadSizes⟩:=c.def_ 20 (d:=B1k) rfl
  have h_InUse:=He.glo_ok X G (c.fact 43 (f:= .glo "InUse") rfl)
  obtain ⟨fdi_InUse,Fi_InUse⟩:=c.def_ 21 (d:=B2o) rfl
  have h_NoRound:=He.glo_ok X G (c.fact 44 (f:= .glo "NoRound") rfl)
  obtain ⟨fdi_NoRound,Fi_NoRound⟩:=c.def_ 22 (d:=B18) rfl
  have h_NothingLeft:=He.glo_ok X G (c.fact 45 (f:= .glo "NothingLeft") rfl)
  obtain ⟨fdi_NothingLeft,Fi_NothingLeft⟩:=c.def_ 23 (d:=B1D) rfl
  have h_Taken:=He.glo_ok X G (c.fact 46 (f:= .glo "Taken") rfl)
  obtain ⟨fdi_Taken,Fi_Taken⟩:=c.def_ 24 (d:=B2u) rfl
  have h_TooLong:=He.glo_ok X G (c.fact 47 (f:= .glo "TooLong") rfl)
  obtain ⟨fdi_TooLong,Fi_TooLong⟩:=c.def_ 25 (d:=B12) rfl
  have h_TooMany:=He.glo_ok X G (c.fact 48 (f:= .glo "TooMany") rfl)
  obtain ⟨fdi_TooMany,Fi_TooMany⟩:=c.def_ 26 (d:=B10) rfl
  have h_HideError:=He.glo_ok X G (c.fact 49 (f:= .glo "HideError") rfl)
  have h_Missing:=He.glo_ok X G (c.fact 50 (f:= .glo "Missing") rfl)
  have cl_Book:Cls K (He.ga K "Book"):=He.cls_ok (c.fact 52 (f:= .cls "Book") rfl)
  have go_Book:=He.glo_ok X G (c.fact 51 (f:= .glo "Book") rfl)
  obtain ⟨fd_Book__look_new,F_Book__look_new⟩:=c.def_ 27 (d:=B01) rfl
  have M_Book__look_new:=He.meth_ok (c.fact 56 (f:= .meth "Book" "look_new") rfl)
  obtain ⟨fd_Book__laid_out,F_Book__laid_out⟩:=c.def_ 28 (d:=B06) rfl
  have M_Book__laid_out:=He.meth_ok (c.fact 57 (f:= .meth "Book" "laid_out") rfl)
  obtain ⟨fd_Book__there,F_Book__there⟩:=c.def_ 29 (d:=B1N) rfl
  have M_Book__there:=He.meth_ok (c.fact 58 (f:= .meth "Book" "there") rfl)
  obtain ⟨fd_Book__look_step,F_Book__look_step⟩:=c.def_ 30 (d:=B0v) rfl
  have M_Book__look_step:=He.meth_ok (c.fact 59 (f:= .meth "Book" "look_step") rfl)
  obtain ⟨fd_Book__length,F_Book__length⟩:=c.def_ 31 (d:=B1F) rfl
  have M_Book__length:=He.meth_ok (c.fact 60 (f:= .meth "Book" "length") rfl)
  obtain ⟨fd_Book__write,F_Book__write⟩:=c.def_ 32 (d:=B1J) rfl
  have M_Book__write:=He.meth_ok (c.fact 61 (f:= .meth "Book" "write") rfl)
  obtain ⟨fd_Book__callers,F_Book__callers⟩:=c.def_ 33 (d:=B07) rfl
  have M_Book__callers:=He.meth_ok (c.fact 62 (f:= .meth "Book" "callers") rfl)
  obtain ⟨fd_Book__drop,F_Book__drop⟩:=c.def_ 34 (d:=B1U) rfl
  have M_Book__drop:=He.meth_ok (c.fact 63 (f:= .meth "Book" "drop") rfl)
  obtain ⟨fd_Book__steps,F_Book__steps⟩:=c.def_ 35 (d:=B1G) rfl
  have M_Book__steps:=He.meth_ok (c.fact 64 (f:= .meth "Book" "steps") rfl)
  obtain ⟨fd_Book__flat,F_Book__flat⟩:=c.def_ 36 (d:=B1Q) rfl
  have M_Book__flat:=He.meth_ok (c.fact 65 (f:= .meth "Book" "flat") rfl)
  obtain ⟨fd_Book____init__,F_Book____init__⟩:=c.def_ 37 (d:=B02) rfl
  have M_Book____init__:=He.meth_ok (c.fact 66 (f:= .meth "Book" "__init__") rfl)
  obtain ⟨fd_Book__names,F_Book__names⟩:=c.def_ 38 (d:=B1M) rfl
  have M_Book__names:=He.meth_ok (c.fact 67 (f:= .meth "Book" "names") rfl)
  obtain ⟨fd_Book____len__,F_Book____len__⟩:=c.def_ 39 (d:=B09) rfl
  have M_Book____len__:=He.meth_ok (c.fact 68 (f:= .meth "Book" "__len__") rfl)
  have Z:Blt K w mg:=⟨He.free_ok X G (c.fact 18 (f:= .free "all") rfl),
    He.free_ok X G (c.fact 19 (f:= .free "any") rfl),
    He.free_ok X G (c.fact 20 (f:= .free "bool") rfl),
    He.free_ok X G (c.fact 21 (f:= .free "enumerate") rfl),
    He.free_ok X G (c.fact 22 (f:= .free "int") rfl),
    He.free_ok X G (c.fact 23 (f:= .free "isinstance") rfl),
    He.free_ok X G (c.fact 24 (f:= .free "len") rfl),
    He.free_ok X G (c.fact 25 (f:= .free "list") rfl),
    He.free_ok X G (c.fact 26 (f:= .free "range") rfl),
    He.free_ok X G (c.fact 27 (f:= .free "str") rfl),
    He.free_ok X G (c.fact 28 (f:= .free "sum") rfl),
    He.free_ok X G (c.fact 29 (f:= .free "tuple") rfl),
    He.int_ok X G (c.fact 30 (f:= .int "GREAT" 1000000000000000000000000000000) rfl),
    He.str_ok X G (c.fact 31 (f:= .str "LETTERS" ("abcdefghijklmnopqrstuvwxyz":Str)) rfl),
    He.int_ok X G (c.fact 32 (f:= .int "LONGEST" 8) rfl),
    He.int_ok X G (c.fact 33 (f:= .int "MOST_CALLS" 9) rfl),
    He.int_ok X G (c.fact 34 (f:= .int "MOST_CASKS" 6) rfl),
    He.int_ok X G (c.fact 35 (f:= .int "MOST_FLAT" 200) rfl),
    He.int_ok X G (c.fact 36 (f:= .int "MOST_ROUNDS" 12) rfl),
    He.int_ok X G (c.fact 37 (f:= .int "MOST_SIZE" 40) rfl),
    ⟨_,_,He.glo_ok X G (c.fact 38 (f:= .glo "PATHS") rfl),fun H=> He.tupB_ok x.1.1.1.1.1.1.1.1.1.1.1.1.1.1.1.1.1.1.1.1.1.1.1.1.1.1.1 H,fun H=> .cons .str (.cons .str (.nil))⟩,
    ⟨_,_,He.glo_ok X G (c.fact 39 (f:= .glo "PLAIN") rfl),fun H=> He.tupB_ok x.1.1.1.1.1.1.1.1.1.1.1.1.1.1.1.1.1.1.1.1.1.1.1.1.1.1.2 H,fun H=> .cons .str (.cons .str (.cons .str (.nil)))⟩,
    h_BadRow,
    h_HideError,
    h_InUse,
    h_Missing,
    h_NoRound,
    h_NothingLeft,
    h_Taken,
    h_TooLong,
    h_TooMany,
    A0x x.1.1.1.1.1.1.1.1.1.1.1.1.1.2,
    A0x x.1.1.1.1.1.1.1.1.1.1.1.1.2,
    A0x x.1.1.1.1.1.1.1.1.1.1.1.2,
    A0x x.1.1.1.1.1.1.1.1.1.1.2,
    A0x x.1.1.1.1.1.1.1.1.1.2,
    A0x x.1.1.1.1.1.1.1.1.2,
    A0x x.1.1.1.1.1.1.1.2,
    A0x x.1.1.1.1.1.1.2,
    A0x x.1.1.1.1.1.2,
    A4m x.1.1.1.1.2,
    A4m x.1.1.1.2,
    A4m x.1.1.2,
    A4m x.1.2,
    A4m x.2,
    ⟨cl_Book,He.noat_ok (c.fact 53 (f:= .noat "Book" "casks") rfl)⟩,
    ⟨cl_Book,He.noat_ok (c.fact 54 (f:= .noat "Book" "laid") rfl)⟩,
    ⟨cl_Book,He.noat_ok (c.fact 55 (f:= .noat "Book" "written") rfl)⟩,
    ⟨go_Book,(He.mkr_ok (c.fact 69 (f:= .mkr "Book") rfl)).makes,(He.mkr_ok (c.fact 69 (f:= .mkr "Book") rfl)).kp⟩⟩
  have e:=hfa.symm.trans g_law
  cases e
  have b:=FunD.bindsA (ps:=A65) F_law fun _ _ _ _ _ _ us hl=> match us,hl with | [_],_=> rfl
  refine ⟨fd_law,fun s v=> b s [v] rfl,fun base TBs=> ?_⟩
  have R_BadName:XkOk P w K mg base "BadName" "bad name" []:=xk0 (A05 x.1.1.1.1.1.1.1.1.1.1.1.1.1.1.1.1.1.1.1.1.1.1.2) h_BadName Fi_BadName B8N (fun _ _ _ _ _ _ us hl=> match us,hl with | [_],_=> rfl)
  have R_BadRow:XkOk P w K mg base "BadRow" "bad row" ["step","place"]:=xk2 (A05 x.1.1.1.1.1.1.1.1.1.1.1.1.1.1.1.1.1.1.1.1.1.2) h_BadRow Fi_BadRow B8i (fun _ _ _ _ _ _ us hl=> match us,hl with | [_,_,_],_=> rfl)
  have R_BadSizes:XkOk P w K mg base "BadSizes" "bad sizes" ["cask"]:=xk1 (A05 x.1.1.1.1.1.1.1.1.1.1.1.1.1.1.1.1.1.1.1.1.2) h_BadSizes Fi_BadSizes B7j (fun _ _ _ _ _ _ us hl=> match us,hl with | [_,_],_=> rfl)
  have R_InUse:XkOk P w K mg base "InUse" "in use" ["name"]:=xk1 (A05 x.1.1.1.1.1.1.1.1.1.1.1.1.1.1.1.1.1.1.1.2) h_InUse Fi_InUse B9v (fun _ _ _ _ _ _ us hl=> match us,hl with | [_,_],_=> rfl)
  have R_NoRound:XkOk P w K mg base "NoRound" "no round" ["name"]:=xk1 (A05 x.1.1.1.1.1.1.1.1.1.1.1.1.1.1.1.1.1.1.2) h_NoRound Fi_NoRound B8F (fun _ _ _ _ _ _ us hl=> match us,hl with | [_,_],_=> rfl)
  have R_NothingLeft:XkOk P w K mg base "NothingLeft" "nothing left" []:=xk0 (A05 x.1.1.1.1.1.1.1.1.1.1.1.1.1.1.1.1.1.2) h_NothingLeft Fi_NothingLeft B6t (fun _ _ _ _ _ _ us hl=> match us,hl with | [_],_=> rfl)
  have R_Taken:XkOk P w K mg base "Taken" "taken" ["name"]:=xk1 (A05 x.1.1.1.1.1.1.1.1.1.1.1.1.1.1.1.1.2) h_Taken Fi_Taken B9f (fun _ _ _ _ _ _ us hl=> match us,hl with | [_,_],_=> rfl)
  have R_TooLong:XkOk P w K mg base "TooLong" "too long" ["most"]:=xk1 (A05 x.1.1.1.1.1.1.1.1.1.1.1.1.1.1.1.2) h_TooLong Fi_TooLong B8B (fun _ _ _ _ _ _ us hl=> match us,hl with | [_,_],_=> rfl)
  have R_TooMany:XkOk P w K mg base "TooMany" "too many" ["most"]:=xk1 (A05 x.1.1.1.1.1.1.1.1.1.1.1.1.1.1.2) h_TooMany Fi_TooMany B8P (fun _ _ _ _ _ _ us hl=> match us,hl with | [_,_],_=> rfl)
  have O__law_open:=B7n (P:=P) (w:=w) (base:=base) Z F__law_open g__law_open
  have O__law_take:=B7w (P:=P) (w:=w) (base:=base) Z F__law_take g__law_take
  have O__law_sizes:=B7F (P:=P) (w:=w) (base:=base) Z F__law_sizes g__law_sizes O__law_take
  have O__law_pick:=B7u (P:=P) (w:=w) (base:=base) Z F__law_pick g__law_pick O__law_take
  have O__law_any_sizes:=B6Q (P:=P) (w:=w) (base:=base) Z F__law_any_sizes g__law_any_sizes O__law_sizes O__law_pick
  have O_look_sizes:=B7O (P:=P) (w:=w) (base:=base) Z F_look_sizes g_look_sizes R_BadSizes
  have O_Book____init__:=B6T (P:=P) (w:=w) (base:=base) Z O_look_sizes cl_Book M_Book____init__ F_Book____init__
  have O_is_name:=B8a (P:=P) (w:=w) (base:=base) Z F_is_name g_is_name
  have O_Book__look_new:=B6L (P:=P) (w:=w) (base:=base) Z O_is_name R_BadName R_Taken R_TooMany cl_Book M_Book__look_new F_Book__look_new
  have O_is_call:=B8w (P:=P) (w:=w) (base:=base) Z F_is_call g_is_call
  have O_call_fault:=B7Q (P:=P) (w:=w) (base:=base) Z F_call_fault g_call_fault
  have O_has_count:=B7Y (P:=P) (w:=w) (base:=base) Z F_has_count g_has_count
  have O_first_bad:=B7m (P:=P) (w:=w) (base:=base) Z F_first_bad g_first_bad
  have O_fault_of:=B77 (P:=P) (w:=w) (base:=base) Z F_fault_of g_fault_of O_has_count O_first_bad
  have O_Book__there:=B66 (P:=P) (w:=w) (base:=base) Z R_NoRound cl_Book M_Book__there F_Book__there
  have O_Book__look_step:=B6D (P:=P) (w:=w) (base:=base) Z O_is_call O_call_fault O_fault_of O_Book__there R_BadRow cl_Book M_Book__look_step F_Book__look_step
  have O_Book__length:=B6o (P:=P) (w:=w) (base:=base) Z O_is_call cl_Book M_Book__length F_Book__length
  have O_Book__laid_out:=B6V (P:=P) (w:=w) (base:=base) Z O_is_call cl_Book M_Book__laid_out F_Book__laid_out
  have O_Book__write:=B60 (P:=P) (w:=w) (base:=base) Z O_Book__look_new O_Book__look_step O_Book__length O_Book__laid_out R_TooLong cl_Book M_Book__write F_Book__write
  have O_Book__flat:=B69 (P:=P) (w:=w) (base:=base) Z O_Book__there cl_Book M_Book__flat F_Book__flat
  have O_Book__steps:=B6z (P:=P) (w:=w) (base:=base) Z O_Book__there cl_Book M_Book__steps F_Book__steps
  have O_Book__names:=B6y (P:=P) (w:=w) (base:=base) Z cl_Book M_Book__names F_Book__names
  have O__law_same:=B1j (P:=P) (w:=w) (base:=base) Z F__law_same g__law_same 8
  have O_Book__callers:=B6g (P:=P) (w:=w) (base:=base) Z O_Book__there O_is_call cl_Book M_Book__callers F_Book__callers
  have O_Book__drop:=B7A (P:=P) (w:=w) (base:=base) Z O_Book__callers R_InUse cl_Book M_Book__drop F_Book__drop
  have lm__law_asks:=B20 (x:=("_law_asks",none)) (q:="_law_asks") x.1.1.1.1.1.1.1.1.1.1.1.1.1.1.1.1.1.1.1.1.1.1.1.1.1.2 x.1.1.1.1.1.1.1.1.1.1.1.1.1.1.1.1.1.1.1.1.1.1.1.2 TBs
  have O__law_asks:=B72 (P:=P) (w:=w) (base:=base) Z O_Book__write O_Book__drop O_Book__steps O_Book__flat O_Book__callers F__law_asks g__law_asks lm__law_asks
  have O_Book____len__:=B6f (P:=P) (w:=w) (base:=base) Z cl_Book M_Book____len__ F_Book____len__
  have lm_law:=B20 (x:=("law",none)) (q:="law") x.1.1.1.1.1.1.1.1.1.1.1.1.1.1.1.1.1.1.1.1.1.1.1.1.2 x.1.1.1.1.1.1.1.1.1.1.1.1.1.1.1.1.1.1.1.1.1.1.1.2 TBs
  have O_law:=o_law (P:=P) (w:=w) (base:=base) Z O__law_open O__law_any_sizes O__law_take O_Book____init__ O_Book__write O_Book__flat O_Book__steps O_Book__names O__law_same O__law_asks O_Book__drop O_Book____len__ F__law_word g__law_word F__law_field g__law_field F_law g_law lm_law
  obtain ⟨f2,fd2,hm2,FD2,F2⟩:=O_law.ex
  have e2:=hm2.symm.trans g_law
  cases e2
  have e3:fd2=fd_law:=FunD.one FD2 F_law
  rw [←e3]
  exact F2
end Ab
open PySem PySem.W PySem.Calls PyProof.Rows
theorem PySem.Challenge.cw_hidelater_k26_what_a_book_refuses_holds : PySem.Challenge.rw_hidelater_k26_what_a_book_refuses.Holds := by
  w_on;o_law
  refine HandSHeadRun.head_any (r:=OpenLaw.row PySem.Challenge.rw_hidelater_k26_what_a_book_refuses) (q:=view (OpenLaw.row PySem.Challenge.rw_hidelater_k26_what_a_book_refuses).prog [44]) (H:=Ab.hHk) (ob:=Ab.hOb) (M:=5000) (loose:=Ab.hNms) (d:=HandSHeadRun.topDef (OpenLaw.row PySem.Challenge.rw_hidelater_k26_what_a_book_refuses).prog 44) (kwd:=[]) Ab.hOb_eq
    (by kernel_rfl) (fun s=> by kernel_rfl) Ab.hRun (by kernel_rfl) (by kernel_rfl) (by kernel_rfl) (by rfl) (by first | assumption | decide+kernel) (by decide+kernel) ⟨rfl,rfl,rfl,rfl,rfl,by decide+kernel⟩ ?hw ?hc
  case hw=> w_witness2
  case hc=>
    refine Ab.walk_end (l:=PySem.Challenge.rw_hidelater_k26_what_a_book_refuses) (j:=10) (y:="_law_script") rfl (by kernel_rfl) ⟨rfl,by decide,by decide⟩ ?F
    intro w mg fa h Y G hmg0
    obtain ⟨K,KX,⟨c,ex⟩,no,te⟩:=Y
    have hmg:mg ("law":PySem.Str)=some (.ref fa):=by
      have e:(HandSHeadRun.topDef (OpenLaw.row PySem.Challenge.rw_hidelater_k26_what_a_book_refuses).prog 44).name=("law":PySem.Str):=by kernel_rfl
      rw [←e]
      exact hmg0
    obtain ⟨fd,hb,hF⟩:=Ab.hFacts (P:=(PySem.Challenge.rw_hidelater_k26_what_a_book_refuses).prog) (w:=w) KX G hmg c ex
    exact ⟨K,fd,Ab.upc Ab.m_law,KX,no,te,Ab.law_says,hb,hF⟩
