import PyProof.Rows.All
import Wide.All
import OpenK.AllK
import Wide.FinOn
import HandS.ForExc
import HandS.ForMost
import HandS.Defaults
import HandS.Lambda
import HandS.HeadHook1
import KE.DataEq
import HandS.TupAny
import HandS.IsInst
import HandS.Wide
import HandS.TupMul
import HandS.Codes
import HandS.Zip
import PyProof.CollectIter
import PyProof.WalksMore
import KE.GoesEnum
import KE.GoesZip
import KE.KItemsList
import HandS.Conv
import HandS.TryOnly
import HandS.SortInts
import HandS.Dict
import HandS.Head0
import HandS.Head1
import HandS.Head2
import HandS.HeadEnd
import HandS.HeadHook2
import HandS.HeadHook4
import HandS.HeadWalk
import HandS.EndTab
import HandS.ExcInit
import HandS.ExcField
import KE.KMinKey
import HandS.SortKw
import HandS.NoneIn
import KE.KDictDisplayH
import HandS.Style
import HandS.SetFor
import HandS.CallSlots
import HandS.WordsDict
import HandS.DictComp
import HandS.Iter
import HandS.OwnEq
import KE.KFmtOwn
import PyProof.InstNe
import HandS.MakeKwOnly
import HandS.FStr
import KE.KEqDict
import PyProof.NeKinds
import HandS.Small
import HandS.Finally
import HandS.More
import HandS.Text
import HandS.RaiseMore
import HandS.MapJoin
import HandS.HeadHook3
import KE.KIntText
import KE.IntTextText
import PySem.Challenge.RW_hidelater_k28_books_and_their_twins
set_option Elab.async false
set_option linter.all false
set_option maxRecDepth 100000
set_option maxHeartbeats 0
namespace Ab
open PySem PySem.Spec PyProof.Rows L2
inductive W where
  | non | bl (b:Bool) | int (i:Int) | str (x:Str) | tup (xs:List W) | lst (xs:List W) | dct (ks vs:List W) | ref (a:Addr) | ty (n:String) | emp
instance:Inhabited W:=⟨.non⟩
def A1L:W→Option Key
  | .int i=> some (.inl i)
  | .str x=> some (.inr x)
  | _=> none
def B7A:List W→Option (List Key)
  | []=> some []
  | w::ws=> match A1L w,B7A ws with
    | some k,some ks=> some (k::ks)
    | _,_=> none
def B1h:W→Option (List Key)
  | .tup ws=> B7A ws
  | _=> none
def Imm:HO→Prop
  | .tup _=> True
  | .frz _ _=> True
  | _=> False
def LsF (H:Hp) (a:Addr) (vs:List V):Prop:=∃o,H a=some (.frz o (.lst vs))
theorem LsF.sq {K:PySem.W.Frag} {H:Hp} {a:Addr} {vs:List V} (h:LsF H a vs):SqL K H a vs:=let ⟨o,h⟩:=h;.inl (.inr ⟨o,h⟩)
def TqT (K:PySem.W.Frag) (H:Hp) (a:Addr) (xs:List V):Prop:=
  H a=some (.tup xs)∨xs≠[]∧∃(o:Obj) (its:Array Value) (n:Nat),K.lookup a=some o∧o.cls= .type "tuple"∧o.data= .seq its n∧its.size≤sizeLine∧Vals xs its.toList
theorem TqT.sq {K:PySem.W.Frag} {H:Hp} {a:Addr} {xs:List V} (h:TqT K H a xs):SqT K H a xs:=h.imp .inl (·.2)
theorem C3b {K:PySem.W.Frag} {a:Addr} {vs:List V} (ne:vs≠[]) (h:∀H,SqT K H a vs) (H:Hp):TqT K H a vs:=by
  rcases h (fun _=> none) with (h | ⟨o,h⟩) | h
  · cases h
  · cases h
  · exact .inr ⟨ne,h⟩
def EmpK (K:PySem.W.Frag) (a:Addr):Prop:=∃(o:Obj) (its:Array Value) (n:Nat),K.lookup a=some o∧o.cls= .type "tuple"∧o.data= .seq its n∧its.size≤sizeLine∧Vals [] its.toList
mutual
def Rep (K:PySem.W.Frag) (H:Hp):W→V→Prop
  | .non,v=> v= .non
  | .bl b,v=> v= .bl b
  | .int i,v=> v= .int i
  | .str x,v=> v= .str x
  | .tup ws,v=> ∃a vs,v= .ref a∧TqT K H a vs∧RepL K H ws vs
  | .lst ws,v=> ∃a vs,v= .ref a∧LsF H a vs∧RepL K H ws vs
  | .dct ks ws,v=> ∃a,v= .ref a∧((∃o kvs,H a=some (.frz o (.dK kvs))∧ks.map A1L=kvs.map (fun p=> some p.1)∧RepL K H ws (kvs.map (·.2)))∨
      ∃o kvs,H a=some (.frz o (.dT kvs))∧(∃r,ks= .lst []::r∧r.map B1h=kvs.map (fun p=> some p.1))∧RepL K H ws (.non::kvs.map (·.2)))
  | .ref a,v=> v= .ref a
  | .ty n,v=> v= .ty n
  | .emp,v=> ∃a,v= .ref a∧EmpK K a
def RepL (K:PySem.W.Frag) (H:Hp):List W→List V→Prop
  | [],vs=> vs=[]
  | w::ws,vs=> ∃v r,vs=v::r∧Rep K H w v∧RepL K H ws r
end
def Keeps (H H':Hp):Prop:=∀a o,H a=some o→Imm o→H' a=some o
theorem Keeps.refl (H:Hp):Keeps H H:=fun _ _ h _=> h
theorem Keeps.trans {H H1 H2:Hp} (a:Keeps H H1) (b:Keeps H1 H2):Keeps H H2:=fun p o h i=> b p o (a p o h i) i
theorem Keeps.tqT {K:PySem.W.Frag} {H H':Hp} (k:Keeps H H') {a:Addr} {vs:List V} (h:TqT K H a vs):TqT K H' a vs:=h.imp (fun e=> k _ _ e trivial) id
theorem Keeps.sqT {K:PySem.W.Frag} {H H':Hp} (k:Keeps H H') {a:Addr} {vs:List V} (h:SqT K H a vs):SqT K H' a vs:=by
  rcases h with (h | ⟨o,h⟩) | h
  · exact .inl (.inl (k _ _ h trivial))
  · exact .inl (.inr ⟨o,k _ _ h trivial⟩)
  · exact .inr h
theorem Keeps.lsF {H H':Hp} (k:Keeps H H') {a:Addr} {vs:List V} (h:LsF H a vs):LsF H' a vs:=let ⟨o,h⟩:=h;⟨o,k _ _ h trivial⟩
mutual
theorem Rep.mono {K:PySem.W.Frag} {H H':Hp} (k:Keeps H H'):∀(w:W) (v:V),Rep K H w v→Rep K H' w v
  | .non,_,h=> by simpa only [Rep] using h
  | .bl _,_,h=> by simpa only [Rep] using h
  | .int _,_,h=> by simpa only [Rep] using h
  | .str _,_,h=> by simpa only [Rep] using h
  | .ref _,_,h=> by simpa only [Rep] using h
  | .ty _,_,h=> by simpa only [Rep] using h
  | .emp,_,h=> by simpa only [Rep] using h
  | .tup ws,v,h=> by
    simp only [Rep] at h ⊢
    obtain ⟨a,vs,e,s,r⟩:=h
    exact ⟨a,vs,e,k.tqT s,RepL.mono k ws vs r⟩
  | .lst ws,v,h=> by
    simp only [Rep] at h ⊢
    obtain ⟨a,vs,e,s,r⟩:=h
    exact ⟨a,vs,e,k.lsF s,RepL.mono k ws vs r⟩
  | .dct ks ws,v,h=> by
    simp only [Rep] at h ⊢
    obtain ⟨a,e,⟨o,kvs,s,t,r⟩ | ⟨o,kvs,s,t,r⟩⟩:=h
    · exact ⟨a,e,.inl ⟨o,kvs,k _ _ s trivial,t,RepL.mono k ws _ r⟩⟩
    · exact ⟨a,e,.inr ⟨o,kvs,k _ _ s trivial,t,RepL.mono k ws _ r⟩⟩
theorem RepL.mono {K:PySem.W.Frag} {H H':Hp} (k:Keeps H H'):∀(ws:List W) (vs:List V),RepL K H ws vs→RepL K H' ws vs
  | [],vs,h=> by simpa only [RepL] using h
  | w::ws,vs,h=> by
    simp only [RepL] at h ⊢
    obtain ⟨v,r,e,a,b⟩:=h
    exact ⟨v,r,e,Rep.mono k w v a,RepL.mono k ws r b⟩
end
section
variable {K:PySem.W.Frag} {H:Hp}
theorem Rep.of_int {i:Int} {v:V} (h:Rep K H (.int i) v):v= .int i:=by simpa only [Rep] using h
theorem Rep.of_str {i:Str} {v:V} (h:Rep K H (.str i) v):v= .str i:=by simpa only [Rep] using h
theorem Rep.of_bl {i:Bool} {v:V} (h:Rep K H (.bl i) v):v= .bl i:=by simpa only [Rep] using h
theorem Rep.of_non {v:V} (h:Rep K H .non v):v= .non:=by simpa only [Rep] using h
theorem Rep.of_ref {a:Addr} {v:V} (h:Rep K H (.ref a) v):v= .ref a:=by simpa only [Rep] using h
theorem Rep.of_ty {n:String} {v:V} (h:Rep K H (.ty n) v):v= .ty n:=by simpa only [Rep] using h
theorem Rep.of_tupT {ws:List W} {v:V} (h:Rep K H (.tup ws) v):∃a vs,v= .ref a∧TqT K H a vs∧RepL K H ws vs:=by simpa only [Rep] using h
theorem Rep.of_tup {ws:List W} {v:V} (h:Rep K H (.tup ws) v):∃a vs,v= .ref a∧SqT K H a vs∧RepL K H ws vs:=let ⟨a,vs,e,s,r⟩:=h.of_tupT;⟨a,vs,e,s.sq,r⟩
theorem Rep.of_lst {ws:List W} {v:V} (h:Rep K H (.lst ws) v):∃a vs,v= .ref a∧LsF H a vs∧RepL K H ws vs:=by simpa only [Rep] using h
theorem Rep.int {i:Int}:Rep K H (.int i) (.int i):=by simp only [Rep]
theorem Rep.str {i:Str}:Rep K H (.str i) (.str i):=by simp only [Rep]
theorem Rep.bl {i:Bool}:Rep K H (.bl i) (.bl i):=by simp only [Rep]
theorem Rep.non:Rep K H .non .non:=by simp only [Rep]
theorem Rep.ref {a:Addr}:Rep K H (.ref a) (.ref a):=by simp only [Rep]
theorem Rep.emp {a:Addr} (e:EmpK K a):Rep K H .emp (.ref a):=by simp only [Rep];exact ⟨a,rfl,e⟩
theorem Rep.of_emp {v:V} (h:Rep K H .emp v):∃a,v= .ref a∧EmpK K a:=by simpa only [Rep] using h
theorem EmpK.sq {a:Addr} (e:EmpK K a):SqT K H a []:=by
  obtain ⟨o,its,n,h1,h2,h3,h4,h5⟩:=e
  exact .inr ⟨o,its,n,h1,h2,h3,h4,h5⟩
theorem Rep.ty {n:String}:Rep K H (.ty n) (.ty n):=by simp only [Rep]
theorem Rep.tup {ws:List W} {a:Addr} {vs:List V} (s:TqT K H a vs) (r:RepL K H ws vs):Rep K H (.tup ws) (.ref a):=by
  simp only [Rep];exact ⟨a,vs,rfl,s,r⟩
theorem Rep.lst {ws:List W} {a:Addr} {vs:List V} (s:LsF H a vs) (r:RepL K H ws vs):Rep K H (.lst ws) (.ref a):=by
  simp only [Rep];exact ⟨a,vs,rfl,s,r⟩
theorem RepL.nil:RepL K H [] []:=by simp only [RepL]
theorem RepL.cons {w:W} {ws:List W} {v:V} {vs:List V} (a:Rep K H w v) (b:RepL K H ws vs):RepL K H (w::ws) (v::vs):=by
  simp only [RepL];exact ⟨v,vs,rfl,a,b⟩
theorem RepL.of_nil {vs:List V} (h:RepL K H [] vs):vs=[]:=by simpa only [RepL] using h
theorem RepL.of_cons {w:W} {ws:List W} {vs:List V} (h:RepL K H (w::ws) vs):∃v r,vs=v::r∧Rep K H w v∧RepL K H ws r:=by simpa only [RepL] using h
theorem RepL.length:∀{ws:List W} {vs:List V},RepL K H ws vs→ws.length=vs.length
  | [],vs,h=> by rw [h.of_nil];rfl
  | w::ws,vs,h=> by
    obtain ⟨v,r,e,_,t⟩:=h.of_cons
    rw [e,List.length_cons,List.length_cons,t.length]
theorem RepL.get:∀{ws:List W} {vs:List V} {i:Nat} {w:W},RepL K H ws vs→ws[i]? =some w→∃v,vs[i]? =some v∧Rep K H w v
  | [],_,_,_,_,e=> by simp at e
  | w::ws,vs,0,x,h,e=> by
    obtain ⟨v,r,rfl,a,_⟩:=h.of_cons
    simp at e;subst e;exact ⟨v,rfl,a⟩
  | w::ws,vs,i+1,x,h,e=> by
    obtain ⟨v,r,rfl,_,t⟩:=h.of_cons
    obtain ⟨u,h1,h2⟩:=t.get (i:=i) (by simpa using e)
    exact ⟨u,by simpa using h1,h2⟩
theorem RepL.append:∀{ws xs:List W} {vs us:List V},RepL K H ws vs→RepL K H xs us→RepL K H (ws++xs) (vs++us)
  | [],xs,vs,us,h,g=> by rw [h.of_nil];exact g
  | w::ws,xs,vs,us,h,g=> by
    obtain ⟨v,r,rfl,a,t⟩:=h.of_cons
    exact .cons a (t.append g)
theorem RepL.set:∀{ws:List W} {vs:List V} (i:Nat) {w:W} {v:V},RepL K H ws vs→Rep K H w v→RepL K H (ws.set i w) (vs.set i v)
  | [],vs,i,w,v,h,g=> by rw [h.of_nil];exact .nil
  | x::ws,vs,0,w,v,h,g=> by
    obtain ⟨u,r,rfl,a,t⟩:=h.of_cons
    exact .cons g t
  | x::ws,vs,i+1,w,v,h,g=> by
    obtain ⟨u,r,rfl,a,t⟩:=h.of_cons
    exact .cons a (t.set i g)
theorem RepL.take:∀{ws:List W} {vs:List V} (n:Nat),RepL K H ws vs→RepL K H (ws.take n) (vs.take n)
  | _,_,0,_=> .nil
  | [],vs,n+1,h=> by rw [h.of_nil];exact .nil
  | w::ws,vs,n+1,h=> by
    obtain ⟨v,r,rfl,a,t⟩:=h.of_cons
    exact .cons a (t.take n)
theorem RepL.drop:∀{ws:List W} {vs:List V} (n:Nat),RepL K H ws vs→RepL K H (ws.drop n) (vs.drop n)
  | _,_,0,h=> h
  | [],vs,n+1,h=> by rw [h.of_nil];exact .nil
  | w::ws,vs,n+1,h=> by
    obtain ⟨v,r,rfl,a,t⟩:=h.of_cons
    exact t.drop n
theorem RepL.eraseIdx:∀{ws:List W} {vs:List V} (i:Nat),RepL K H ws vs→RepL K H (ws.eraseIdx i) (vs.eraseIdx i)
  | [],vs,i,h=> by rw [h.of_nil];exact .nil
  | w::ws,vs,0,h=> by
    obtain ⟨v,r,rfl,a,t⟩:=h.of_cons
    exact t
  | w::ws,vs,i+1,h=> by
    obtain ⟨v,r,rfl,a,t⟩:=h.of_cons
    exact .cons a (t.eraseIdx i)
theorem RepL.rep {ws:List W} {vs:List V} (h:RepL K H ws vs):∀k:Nat,RepL K H (List.replicate k ws).flatten (List.replicate k vs).flatten
  | 0=> .nil
  | k+1=> by
    rw [List.replicate_succ,List.replicate_succ,List.flatten_cons,List.flatten_cons]
    exact h.append (h.rep k)
theorem RepL.ints {ns:List Int}:RepL K H (ns.map W.int) (ns.map V.int):=by
  induction ns with
  | nil=> exact .nil
  | cons n r ih=> exact .cons .int ih
theorem RepL.of_ints {ns:List Int} {vs:List V} (h:RepL K H (ns.map W.int) vs):vs=ns.map V.int:=by
  induction ns generalizing vs with
  | nil=> exact h.of_nil
  | cons n r ih=>
    obtain ⟨v,t,rfl,a,b⟩:=h.of_cons
    rw [a.of_int,ih b];rfl
theorem RepL.of_bls {ns:List Bool} {vs:List V} (h:RepL K H (ns.map W.bl) vs):vs=ns.map V.bl:=by
  induction ns generalizing vs with
  | nil=> exact h.of_nil
  | cons n r ih=>
    obtain ⟨v,t,rfl,a,b⟩:=h.of_cons
    rw [a.of_bl,ih b];rfl
end
inductive Cont where
  | seq (ws:List W) | map (kvs:List (W×W))
def Cont.fz:Cont→W
  | .seq ws=> .lst ws
  | .map kvs=> .dct (kvs.map (·.1)) (kvs.map (·.2))
inductive AO where
  | cont (c:Cont) | ins (C:Str) (fs:List (Str×W))
abbrev AH:=Addr→Option AO
inductive SV where
  | val (w:W) | own (c:Cont)
abbrev A1:=List (Option SV)
def CRep (K:PySem.W.Frag) (H:Hp) (p:Addr):Cont→Prop
  | .seq ws=> ∃vs,H p=some (.lst vs)∧RepL K H ws vs
  | .map kvs=> (∃ks,H p=some (.dK ks)∧(kvs.map (·.1)).map A1L=ks.map (fun q=> some q.1)∧RepL K H (kvs.map (·.2)) (ks.map (·.2)))∨
      ∃ks,H p=some (.dT ks)∧(∃r,kvs.map (·.1)= .lst []::r∧r.map B1h=ks.map (fun q=> some q.1))∧RepL K H (kvs.map (·.2)) (.non::ks.map (·.2))
def FRep (K:PySem.W.Frag) (H:Hp) (fs:List (Str×W)) (vs:List (Str×V)):Prop:=fs.map (·.1)=vs.map (·.1)∧RepL K H (fs.map (·.2)) (vs.map (·.2))
def ORep (K:PySem.W.Frag) (H:Hp) (a:Addr):AO→Prop
  | .cont c=> CRep K H a c
  | .ins C fs=> ∃dx vs,H a=some (.ins (He.ga K C) dx vs)∧FRep K H fs vs
def Mu:HO→Prop
  | .lst _=> True
  | .dK _=> True
  | .dT _=> True
  | .ins _ _ _=> True
  | _=> False
theorem Mu.mut {o:HO} (h:Mu o):Mut (some o):=by cases o <;> first | trivial | exact h.elim
def NT (o:HO):Prop:=∀ps,o≠ .tbl ps
theorem Mu.nt {o:HO} (h:Mu o):NT o:=fun _ e=> by subst e;exact h
theorem Imm.nt {o:HO} (h:Imm o):NT o:=fun _ e=> by subst e;exact h
def B6y:Addr:=builtinsNs
def cs1 (K:PySem.W.Frag) (p:Addr×Obj):Option ((Addr×Addr)×Str):=match p.2.data with
  | .fields vs=> (match vs.getD 11 .none,vs.getD 1 .none with
    | .ref P,.str q _=> some ((p.1,P),q++".<locals>."++"<lambda>")
    | _,_=> none)
  | _=> none
def A2q (K:PySem.W.Frag):List ((Addr×Addr)×Str):=((K.dropWhile fun p=> decide (p.1≠B6y)).tail).filterMap (cs1 K)
def A6E (K:PySem.W.Frag):List (Addr×Str):=(A2q K).map fun p=> (p.1.2,p.2)
abbrev TabsK (K:PySem.W.Frag) (H:Hp):Prop:=LamX.Tabs (A6E K) H
theorem TabsK.keep {K:PySem.W.Frag} {H H':Hp} (t:TabsK K H) (k:∀a o,H a=some o→(¬Mu o)→H' a=some o):TabsK K H':=fun p hp=> by
  obtain ⟨ps,h1,h2,h3⟩:=t p hp
  refine ⟨ps,k _ _ h1 (fun z=> z),h2,fun pos cv hc=> ?_⟩
  obtain ⟨c,e1,e2⟩:=h3 pos cv hc
  exact ⟨c,e1,k _ _ e2 (fun z=> z)⟩
theorem TabsK.upd {K:PySem.W.Frag} {H:Hp} {p:Addr} {u:HO} (t:TabsK K H) (n:∀o,H p=some o→Mu o):TabsK K (upd H p u):=t.keep fun a o e m=> by
  have ne:a≠p:=fun z=> m (n o (z▸e))
  rw [upd_ne ne];exact e
theorem Mu.imm {o:HO} (h:Mu o):¬Imm o:=by cases o <;> first | exact h.elim | (intro z;exact z)
theorem CRep.there {K:PySem.W.Frag} {H:Hp} {p:Addr} {c:Cont} (h:CRep K H p c):∃o,H p=some o∧Mu o:=by
  cases c with
  | seq ws=> obtain ⟨vs,e,_⟩:=h;exact ⟨_,e,trivial⟩
  | map kvs=>
    rcases h with ⟨ks,e,_⟩ | ⟨ks,e,_⟩
    · exact ⟨_,e,trivial⟩
    · exact ⟨_,e,trivial⟩
theorem CRep.mu_at {K:PySem.W.Frag} {H:Hp} {p:Addr} {c:Cont} {o:HO} (h:CRep K H p c) (e:H p=some o):Mu o:=by
  obtain ⟨u,e',m⟩:=h.there
  rw [e] at e';cases e';exact m
theorem ORep.there {K:PySem.W.Frag} {H:Hp} {p:Addr} {o:AO} (h:ORep K H p o):∃u,H p=some u∧Mu u:=by
  cases o with
  | cont c=> exact CRep.there h
  | ins C fs=> obtain ⟨dx,vs,e,_⟩:=h;exact ⟨_,e,trivial⟩
theorem CRep.mono {K:PySem.W.Frag} {H H':Hp} (k:Keeps H H') {p:Addr} (s:H' p=H p) {c:Cont} (h:CRep K H p c):CRep K H' p c:=by
  cases c with
  | seq ws=> obtain ⟨vs,e,r⟩:=h;exact ⟨vs,s.trans e,RepL.mono k _ _ r⟩
  | map kvs=>
    rcases h with ⟨ks,e,t,r⟩ | ⟨ks,e,t,r⟩
    · exact .inl ⟨ks,s.trans e,t,RepL.mono k _ _ r⟩
    · exact .inr ⟨ks,s.trans e,t,RepL.mono k _ _ r⟩
theorem ORep.mono {K:PySem.W.Frag} {H H':Hp} (k:Keeps H H') {p:Addr} (s:H' p=H p) {o:AO} (h:ORep K H p o):ORep K H' p o:=by
  cases o with
  | cont c=> exact CRep.mono k s h
  | ins C fs=> obtain ⟨dx,vs,e,t,r⟩:=h;exact ⟨dx,vs,s.trans e,t,RepL.mono k _ _ r⟩
structure AExc where
  n:Str
  fs:List (Str×W)
structure Gx where
  K:PySem.W.Frag
  h0:AH
  H0:Hp
def OwnAt (env:A1) (σ:L2.St) (p:Addr):Prop:=∃(i:Nat) (c:Cont),env[i]? =some (some (SV.own c))∧σ[i]? =some (some (V.ref p))
structure BS (G:Gx) (env:A1) (h:AH) (σ:L2.St) (H:Hp):Prop where
  len:env.length=σ.length
  val:∀(i:Nat) (w:W),env[i]? =some (some (SV.val w))→∃v,σ[i]? =some (some v)∧Rep G.K H w v
  own:∀(i:Nat) (c:Cont),env[i]? =some (some (SV.own c))→∃p,σ[i]? =some (some (V.ref p))∧CRep G.K H p c∧h p=none∧G.H0 p=none
  uni:∀(i j:Nat) (c c':Cont) (p:Addr),env[i]? =some (some (SV.own c))→env[j]? =some (some (SV.own c'))→σ[i]? =some (some (V.ref p))→σ[j]? =some (some (V.ref p))→i=j
  hp:∀a o,h a=some o→ORep G.K H a o
  fr:∀p o,G.H0 p=some o→G.h0 p=none→NT o→H p=some o
  ext:∀a o,h a=some o→G.h0 a=none→G.H0 a=none
  tr:∀p o,G.H0 p=some o→∃u,H p=some u
  tabs:TabsK G.K H
structure Xt (env:A1) (h:AH) (σ:L2.St) (H:Hp) (env':A1) (h':AH) (H':Hp):Prop where
  fr:∀p o,H p=some o→h p=none→¬OwnAt env σ p→NT o→H' p=some o
  hn:∀p o,h' p=some o→h p=none→H p=none
  th:∀p o,H p=some o→∃o',H' p=some o'
  sl:∀(i:Nat) (c':Cont),env'[i]? =some (some (SV.own c'))→∃c,env[i]? =some (some (SV.own c))
section
variable {G:Gx} {env env' env2:A1} {h h' h2:AH} {σ:L2.St} {H H' H2:Hp}
theorem BS.imm (S:BS G env h σ H) {p:Addr} {o:HO} (e:H p=some o) (i:Imm o):h p=none∧¬OwnAt env σ p:=by
  refine ⟨?_,fun ⟨j,c,a,b⟩=> ?_⟩
  · cases q:h p with
    | none=> rfl
    | some u=>
      obtain ⟨o',e',m⟩:=(S.hp p u q).there
      rw [e] at e';cases e'
      exact absurd i m.imm
  · obtain ⟨p',b',cr,_⟩:=S.own j c a
    rw [b] at b';cases b'
    obtain ⟨o',e',m⟩:=cr.there
    rw [e] at e';cases e'
    exact absurd i m.imm
theorem Xt.keeps (x:Xt env h σ H env' h' H') (S:BS G env h σ H):Keeps H H':=fun p o e i=> x.fr p o e (S.imm e i).1 (S.imm e i).2 i.nt
theorem Xt.refl:Xt env h σ H env h H:=⟨fun _ _ e _ _ _=> e,fun p o e n=> (by rw [n] at e;cases e),fun _ o e=> ⟨o,e⟩,fun i c e=> ⟨c,e⟩⟩
theorem Xt.own (x:Xt env h σ H env' h' H') {p:Addr} (o:OwnAt env' σ p):OwnAt env σ p:=by
  obtain ⟨i,c,e1,e2⟩:=o
  obtain ⟨c0,z⟩:=x.sl i c e1
  exact ⟨i,c0,z,e2⟩
theorem Xt.trans (a:Xt env h σ H env' h' H') (b:Xt env' h' σ H' env2 h2 H2):Xt env h σ H env2 h2 H2:=by
  refine ⟨fun p o e n w nt=> ?_,fun p o e n=> ?_,fun p o e=> ?_,fun i c e=> ?_⟩
  · refine b.fr p o (a.fr p o e n w nt) ?_ (fun q=> w (a.own q)) nt
    cases q:h' p with
    | none=> rfl
    | some u=> rw [a.hn p u q n] at e;cases e
  · cases q:h' p with
    | none=>
      have z:=b.hn p o e q
      cases q2:H p with
      | none=> rfl
      | some u=>
        obtain ⟨o',e'⟩:=a.th p u q2
        rw [z] at e';cases e'
    | some u=> exact a.hn p u q n
  · obtain ⟨o',e'⟩:=a.th p o e
    exact b.th p o' e'
  · obtain ⟨c1,z⟩:=b.sl i c e
    exact a.sl i c1 z
end
end Ab
namespace Ab
open PySem PySem.Spec PyProof.Rows L2
inductive RV where
  | val (w:W) | own (c:Cont) | slot (i:Nat)
inductive Vw where
  | wv (x:W) | cv (x:Cont) | bad
def B1X:Option (Option SV)→Vw
  | some (some (.val w))=> .wv w
  | some (some (.own c))=> .cv c
  | _=> .bad
def viewW (h:AH):W→Vw
  | .ref a=> match h a with
    | some (.cont c)=> .cv c
    | _=> .wv (.ref a)
  | w=> .wv w
def view (env:A1) (h:AH):RV→Vw
  | .val w=> viewW h w
  | .own c=> .cv c
  | .slot i=> B1X env[i]?
def Vw.toW:Vw→W
  | .wv w=> w
  | .cv c=> c.fz
  | .bad=> .non
def RvRep (G:Gx) (env:A1) (h:AH) (σ:L2.St) (H:Hp):RV→V→Prop
  | .val w,v=> Rep G.K H w v
  | .own c,v=> ∃p,v= .ref p∧CRep G.K H p c∧h p=none∧G.H0 p=none∧¬OwnAt env σ p
  | .slot i,v=> σ[i]? =some (some v)
def VR (K:PySem.W.Frag) (H:Hp):Vw→V→Prop
  | .wv w,v=> Rep K H w v
  | .cv c,v=> ∃p,v= .ref p∧CRep K H p c
  | .bad,_=> True
section
variable {G:Gx} {env env':A1} {h h':AH} {σ:L2.St} {H H':Hp}
theorem VR.viewW (S:BS G env h σ H) {w:W} {v:V} (x:Rep G.K H w v):VR G.K H (viewW h w) v:=by
  cases w with
  | ref a=>
    have e:v= .ref a:=Rep.of_ref x
    subst e
    show VR G.K H (match h a with
      | some (.cont c)=> .cv c
      | _=> .wv (.ref a)) _
    cases q:h a with
    | none=> exact x
    | some o=>
      cases o with
      | cont c=> exact ⟨a,rfl,S.hp a _ q⟩
      | ins C fs=> exact x
  | _=> exact x
theorem RvRep.vr (S:BS G env h σ H) {r:RV} {v:V} (x:RvRep G env h σ H r v):VR G.K H (view env h r) v:=by
  cases r with
  | val w=> exact VR.viewW S x
  | own c=> obtain ⟨p,e,c,_⟩:=x;exact ⟨p,e,c⟩
  | slot i=>
    have e1:σ[i]? =some (some v):=x
    show VR G.K H (B1X env[i]?) v
    cases e2:env[i]? with
    | none=> trivial
    | some o=>
      cases o with
      | none=> trivial
      | some sv=>
        cases sv with
        | val w=>
          obtain ⟨u,e3,r⟩:=S.val i w e2
          rw [e1] at e3;cases e3
          exact r
        | own c=>
          obtain ⟨p,e3,r,_⟩:=S.own i c e2
          rw [e1] at e3;cases e3
          exact ⟨p,rfl,r⟩
theorem RvRep.xt (S:BS G env h σ H) (x:Xt env h σ H env' h' H') {r:RV} {v:V} (a:RvRep G env h σ H r v):RvRep G env' h' σ H' r v:=by
  cases r with
  | val w=> exact Rep.mono (x.keeps S) w v a
  | own c=>
    obtain ⟨p,e,c,n,n0,no⟩:=a
    obtain ⟨o,eo,_⟩:=c.there
    refine ⟨p,e,c.mono (x.keeps S) ((x.fr p o eo n no (c.mu_at eo).nt).trans eo.symm),?_,n0,fun q=> no (x.own q)⟩
    cases q:h' p with
    | none=> rfl
    | some u=> rw [x.hn p u q n] at eo;cases eo
  | slot i=> exact a
def New (H H':Hp):Prop:=∀p o,H p=some o→H' p=some o
theorem New.refl (H:Hp):New H H:=fun _ _ e=> e
theorem New.upd {p:Addr} {o:HO} (n:H p=none):New H (upd H p o):=fun q u e=> by rw [upd_ne (ne_of_none e n)];exact e
theorem New.keeps (n:New H H'):Keeps H H':=fun p o e _=> n p o e
theorem New.xt (n:New H H'):Xt env h σ H env h H':=⟨fun p o e _ _ _=> n p o e,fun p o e q=> (by rw [q] at e;cases e),fun p o e=> ⟨o,n p o e⟩,fun i c e=> ⟨c,e⟩⟩
theorem New.bs (n:New H H') (S:BS G env h σ H):BS G env h σ H' where
  len:=S.len
  val:=fun i w e=> let ⟨v,a,b⟩:=S.val i w e;⟨v,a,Rep.mono n.keeps w v b⟩
  own:=fun i c e=> by
    obtain ⟨p,a,b,d,f⟩:=S.own i c e
    obtain ⟨o,eo,_⟩:=b.there
    exact ⟨p,a,b.mono n.keeps ((n p o eo).trans eo.symm),d,f⟩
  uni:=S.uni
  hp:=fun a o e=> by
    obtain ⟨u,eu,_⟩:=(S.hp a o e).there
    exact (S.hp a o e).mono n.keeps ((n a u eu).trans eu.symm)
  fr:=fun p o e q t=> n p o (S.fr p o e q t)
  ext:=S.ext
  tr:=fun p o e=> let ⟨u,q⟩:=S.tr p o e;⟨u,n p u q⟩
  tabs:=S.tabs.keep fun a o e _=> n a o e
end
abbrev AT:=A1→AH→(RV→A1→AH→Prop)→Prop
abbrev D5:=A1→AH→(W→A1→AH→Prop)→Prop
abbrev I6:=A1→AH→(List W→A1→AH→Prop)→Prop
abbrev L8:=A1→AH→(Bool→A1→AH→Prop)→Prop
def B9 {α:Type} (t:A1→AH→(α→A1→AH→Prop)→Prop):Prop:=∀env h Q Q',(∀r e k,Q r e k→Q' r e k)→t env h Q→t env h Q'
def R3 (H:Hp):RV→V→Prop
  | .own _,v=> ∀p,v= .ref p→H p=none
  | _,_=> True
def cE (G:Gx) (t:AT):TE:=fun σ H Q=> ∃env h,BS G env h σ H∧t env h fun r env' h'=> ∀v H',BS G env' h' σ H'→Xt env h σ H env' h' H'→RvRep G env' h' σ H' r v→R3 H r v→Q v H'
def cV (G:Gx) (t:D5):TE:=fun σ H Q=> ∃env h,BS G env h σ H∧t env h fun w env' h'=> ∀v H',BS G env' h' σ H'→Xt env h σ H env' h' H'→Rep G.K H' w v→Q v H'
def cA (G:Gx) (t:I6):TA:=fun σ H Q=> ∃env h,BS G env h σ H∧t env h fun ws env' h'=> ∀vs H',BS G env' h' σ H'→Xt env h σ H env' h' H'→RepL G.K H' ws vs→Q vs H'
def cT (G:Gx) (t:L8):TT:=fun σ H Q=> ∃env h,BS G env h σ H∧t env h fun b env' h'=> ∀H',BS G env' h' σ H'→Xt env h σ H env' h' H'→Q b H'
structure AE (X:Cx) (G:Gx) (e:Expr) (t:AT):Prop where
  mono:B9 t
  pe:PE X e (cE G t)
structure AV (X:Cx) (G:Gx) (e:Expr) (t:D5):Prop where
  mono:B9 t
  pe:PE X e (cV G t)
structure AA (X:Cx) (G:Gx) (es:List Expr) (t:I6):Prop where
  mono:B9 t
  pa:PA X es (cA G t)
structure AP (X:Cx) (G:Gx) (e:Expr) (t:L8):Prop where
  mono:B9 t
  pt:PT X e (cT G t)
theorem PE.imp {X:Cx} {e:Expr} {t t':TE} (h:PE X e t) (i:∀σ H Q,t' σ H Q→t σ H Q):PE X e t':=⟨fun pins s σ H Q I q=> h.run pins s σ H Q I (i σ H Q q)⟩
theorem PA.imp {X:Cx} {e:List Expr} {t t':TA} (h:PA X e t) (i:∀σ H Q,t' σ H Q→t σ H Q):PA X e t':=⟨fun pos pins s σ H Q I q=> h.run pos pins s σ H Q I (i σ H Q q)⟩
theorem PT.imp {X:Cx} {e:Expr} {t t':TT} (h:PT X e t) (i:∀σ H Q,t' σ H Q→t σ H Q):PT X e t':=⟨fun pins s σ H Q I q=> h.run pins s σ H Q I (i σ H Q q)⟩
theorem PS.imp {X:Cx} {e:Stmt} {t t':TS} (h:PS X e t) (i:∀D σ H,t' D σ H→t D σ H):PS X e t':=⟨fun pins s σ H Q I q=> h.run pins s σ H Q I (i Q σ H q)⟩
theorem PSs.imp {X:Cx} {e:List Stmt} {t t':TS} (h:PSs X e t) (i:∀D σ H,t' D σ H→t D σ H):PSs X e t':=⟨fun pins s σ H Q I q=> h.run pins s σ H Q I (i Q σ H q)⟩
section
variable {X:Cx} {G:Gx}
def aVar (i:Nat):AT:=fun env h Q=> match env[i]? with
  | some (some (.val w))=> Q (.val w) env h
  | some (some (.own _))=> Q (.slot i) env h
  | _=> False
def aC (w:W):AT:=fun env h Q=> Q (.val w) env h
theorem aVar.mono {i:Nat}:B9 (aVar i):=fun env h Q Q' k q=> by
  unfold aVar at q ⊢
  split at q
  · exact k _ _ _ q
  · exact k _ _ _ q
  · exact q
theorem aC.mono {w:W}:B9 (aC w):=fun env h Q Q' k q=> k _ _ _ q
theorem A2 {e:Expr} {i:Nat} (h:PE X e (tVar i)):AE X G e (aVar i):=by
  refine ⟨aVar.mono,PE.imp h fun σ H Q ⟨env,k,S,q⟩=> ?_⟩
  unfold aVar at q
  split at q
  · rename_i w e
    obtain ⟨v,e1,r⟩:=S.val i w e
    exact ⟨v,e1,q v H S .refl r trivial⟩
  · rename_i c e
    obtain ⟨p,e1,r⟩:=S.own i c e
    exact ⟨_,e1,q _ H S .refl e1 trivial⟩
  · exact q.elim
theorem A2j {e:Expr} {w:W} {v:V} (h:PE X e (tC v)) (r:∀H,Rep G.K H w v):AE X G e (aC w):=
  ⟨aC.mono,PE.imp h fun σ H Q ⟨env,k,S,q⟩=> q v H S .refl (r H) trivial⟩
theorem ae_int {i j pos}:AE X G (.Constant (.int i) j pos) (aC (.int i)):=A2j pe_int fun _=> .int
theorem A2d {i j pos}:AE X G (.Constant (.bool i) j pos) (aC (.bl i)):=A2j pe_bl fun _=> .bl
theorem A3Z {j pos}:AE X G (.Constant .none j pos) (aC .non):=A2j pe_non fun _=> .non
theorem Q7 {i j pos}:AE X G (.Constant (.str i) j pos) (aC (.str i)):=A2j pe_str fun _=> .str
def aFz (t:AT):D5:=fun env h Q=> t env h fun r env' h'=> match r with
  | .val w=> Q w env' h'
  | .own c=> Q c.fz env' h'
  | .slot i=> match env'[i]? with
    | some (some (.val w))=> Q w env' h'
    | some (some (.own c))=> Q c.fz (env'.set i (some (.val c.fz))) h'
    | _=> False
theorem aFz.mono {t:AT} (m:B9 t):B9 (aFz t):=fun env h Q Q' k q=> by
  refine m env h _ _ (fun r e g z=> ?_) q
  cases r with
  | val w=> exact k _ _ _ z
  | own c=> exact k _ _ _ z
  | slot i=>
    show match e[i]? with
      | some (some (.val w))=> Q' w e g
      | some (some (.own c))=> Q' c.fz (e.set i (some (.val c.fz))) g
      | _=> False
    have z:match e[i]? with
      | some (some (.val w))=> Q w e g
      | some (some (.own c))=> Q c.fz (e.set i (some (.val c.fz))) g
      | _=> False:=z
    split at z
    · exact k _ _ _ z
    · exact k _ _ _ z
    · exact z
theorem B6I {K:PySem.W.Frag} {H:Hp} {p:Addr} {c:Cont} (r:CRep K H p c) (hp:∃u,H p=some u∧Mu u):∃u,H p=some u∧Mu u∧∀od,Rep K (upd H p (.frz od u)) c.fz (.ref p):=by
  have keep:∀(u:HO) (od:Obj),H p=some u→Mu u→Keeps H (upd H p (.frz od u)):=fun u od e m q o e' i=> by
    have n:q≠p:=fun z=> by rw [z,e] at e';cases e';exact m.imm i
    rw [upd_ne n];exact e'
  cases c with
  | seq ws=>
    obtain ⟨vs,e,r⟩:=r
    refine ⟨_,e,trivial,fun od=> ?_⟩
    exact .lst ⟨od,upd_same⟩ (RepL.mono (keep _ od e trivial) _ _ r)
  | map kvs=>
    rcases r with ⟨ks,e,t,r⟩ | ⟨ks,e,t,r⟩
    · refine ⟨_,e,trivial,fun od=> ?_⟩
      show Rep K _ (.dct _ _) _
      simp only [Rep]
      exact ⟨p,rfl,.inl ⟨od,ks,upd_same,t,RepL.mono (keep _ od e trivial) _ _ r⟩⟩
    · refine ⟨_,e,trivial,fun od=> ?_⟩
      show Rep K _ (.dct _ _) _
      simp only [Rep]
      exact ⟨p,rfl,.inr ⟨od,ks,upd_same,t,RepL.mono (keep _ od e trivial) _ _ r⟩⟩
theorem BS.freeze {env env':A1} {h:AH} {σ:L2.St} {H:Hp} (S:BS G env h σ H) {p:Addr} {u:HO} (od:Obj) (e:H p=some u) (m:Mu u) (n:h p=none) (n0:G.H0 p=none)
    (len:env'.length=env.length)
    (v':∀(i:Nat) (w:W),env'[i]? =some (some (SV.val w))→env[i]? =some (some (SV.val w))∨∃v,σ[i]? =some (some v)∧Rep G.K (upd H p (.frz od u)) w v)
    (o':∀(i:Nat) (c:Cont),env'[i]? =some (some (SV.own c))→env[i]? =some (some (SV.own c))∧σ[i]? ≠some (some (V.ref p))):BS G env' h σ (upd H p (.frz od u)):=by
  have keep:Keeps H (upd H p (.frz od u)):=fun q o e' i=> by
    have n:q≠p:=fun z=> by rw [z,e] at e';cases e';exact m.imm i
    rw [upd_ne n];exact e'
  refine ⟨len.trans S.len,fun i w z=> ?_,fun i c z=> ?_,fun i j c c' q a b=> ?_,fun a o z=> ?_,fun q o z y t=> ?_,S.ext,fun q o z=> ?_,S.tabs.upd fun o z=> (by rw [e] at z;cases z;exact m)⟩
  · rcases v' i w z with z | z
    · obtain ⟨v,a,b⟩:=S.val i w z
      exact ⟨v,a,Rep.mono keep w v b⟩
    · exact z
  · obtain ⟨z,ne⟩:=o' i c z
    obtain ⟨q,a,b,d,f⟩:=S.own i c z
    have nq:q≠p:=fun y=> ne (by rw [a,y])
    exact ⟨q,a,b.mono keep (upd_ne nq),d,f⟩
  · exact S.uni i j c c' q (o' i c a).1 (o' j c' b).1
  · have na:a≠p:=fun y=> by rw [y,n] at z;cases z
    exact (S.hp a o z).mono keep (upd_ne na)
  · have nq:q≠p:=fun x=> by rw [x,n0] at z;cases z
    rw [upd_ne nq];exact S.fr q o z y t
  · by_cases hq:q=p
    · subst hq;exact ⟨_,upd_same⟩
    · obtain ⟨u',e'⟩:=S.tr q o z
      exact ⟨u',by rw [upd_ne hq];exact e'⟩
theorem Xt.freeze {env env' env2:A1} {h h':AH} {σ:L2.St} {H H1:Hp} {p:Addr} {u:HO} {od:Obj} (x:Xt env h σ H env' h' H1) (e:H1 p=some u) (f:H p=none∨OwnAt env σ p)
    (sl:∀(i:Nat) (c:Cont),env2[i]? =some (some (SV.own c))→env'[i]? =some (some (SV.own c))):Xt env h σ H env2 h' (upd H1 p (.frz od u)):=by
  refine ⟨fun q o e n w t=> ?_,x.hn,fun q o e=> ?_,fun i c e=> x.sl i c (sl i c e)⟩
  · have nq:q≠p:=fun y=> by
      rcases f with f | f
      · rw [y,f] at e;cases e
      · exact w (y▸f)
    rw [upd_ne nq];exact x.fr q o e n w t
  · by_cases hq:q=p
    · subst hq;exact ⟨_,upd_same⟩
    · rw [upd_ne hq];exact x.th q o e
theorem A5p {env:A1} {i j:Nat} {sv sv':SV} (e:env[i]? =some (some sv)):(env.set i (some sv'))[j]? =if j=i then some (some sv') else env[j]? :=by
  have hi:i < env.length:=(List.getElem?_eq_some_iff.mp e).1
  by_cases hj:j=i
  · subst hj;rw [if_pos rfl,List.getElem?_set_self hi]
  · rw [if_neg hj,List.getElem?_set_ne (Ne.symm hj)]
theorem A9x {env env':A1} {h h':AH} {σ:L2.St} {H H1:Hp} {i:Nat} {c:Cont} {pins:List (Addr×Obj)} {s:Shared} (S:BS G env' h' σ H1) (x:Xt env h σ H env' h' H1) (I:Inv X pins σ H1 s) (e:env'[i]? =some (some (.own c))):
    ∃p H2,σ[i]? =some (some (V.ref p))∧Inv X pins σ H2 s∧BS G (env'.set i (some (.val c.fz))) h' σ H2∧Xt env h σ H (env'.set i (some (.val c.fz))) h' H2∧Rep G.K H2 c.fz (.ref p):=by
  obtain ⟨p,es,cr,n,n0⟩:=S.own i c e
  obtain ⟨u,eu,mu,fr⟩:=B6I cr cr.there
  obtain ⟨od,I2⟩:=I.lock eu mu.mut
  refine ⟨p,_,es,I2,S.freeze od eu mu n n0 (by simp) (fun j w z=> ?_) (fun j d z=> ?_),x.freeze eu (.inr ?_) (fun j d z=> ?_),fr od⟩
  · rw [A5p e] at z
    by_cases hj:j=i
    · rw [if_pos hj] at z
      cases z
      exact .inr ⟨_,hj▸es,fr od⟩
    · rw [if_neg hj] at z;exact .inl z
  · rw [A5p e] at z
    by_cases hj:j=i
    · rw [if_pos hj] at z;cases z
    · rw [if_neg hj] at z
      exact ⟨z,fun y=> hj (S.uni j i d c p z e y es)⟩
  · exact x.own ⟨i,c,e,es⟩
  · rw [A5p e] at z
    by_cases hj:j=i
    · rw [if_pos hj] at z;cases z
    · rw [if_neg hj] at z;exact z
theorem C0o {env env':A1} {h h':AH} {σ:L2.St} {H H1:Hp} {c:Cont} {v:V} {pins:List (Addr×Obj)} {s:Shared} (S:BS G env' h' σ H1) (x:Xt env h σ H env' h' H1) (I:Inv X pins σ H1 s) (r:RvRep G env' h' σ H1 (.own c) v) (f:R3 H (.own c) v):
    ∃H2,Inv X pins σ H2 s∧BS G env' h' σ H2∧Xt env h σ H env' h' H2∧Rep G.K H2 c.fz v:=by
  obtain ⟨p,ex,cr,n,n0,no⟩:=r
  obtain ⟨u,eu,mu,fr⟩:=B6I cr cr.there
  obtain ⟨od,I2⟩:=I.lock eu mu.mut
  subst ex
  exact ⟨_,I2,S.freeze od eu mu n n0 rfl (fun i w e=> .inl e) fun i c e=> ⟨e,fun y=> no ⟨i,c,e,y⟩⟩,x.freeze eu (.inl (f p rfl)) fun i c e=> e,fr od⟩
theorem A5 {e:Expr} {t:AT} (a:AE X G e t):AV X G e (aFz t):=by
  refine ⟨aFz.mono a.mono,⟨fun pins s σ H Q I ⟨env,h,S,q⟩=> ?_⟩⟩
  refine thn (a.pe.run pins s σ H (fun v H1=> ∃r env' h',BS G env' h' σ H1∧Xt env h σ H env' h' H1∧RvRep G env' h' σ H1 r v∧R3 H r v∧match r with
    | .val w=> ∀v H',BS G env' h' σ H'→Xt env h σ H env' h' H'→Rep G.K H' w v→Q v H'
    | .own c=> ∀v H',BS G env' h' σ H'→Xt env h σ H env' h' H'→Rep G.K H' c.fz v→Q v H'
    | .slot i=> match env'[i]? with
      | some (some (.val w))=> ∀v H',BS G env' h' σ H'→Xt env h σ H env' h' H'→Rep G.K H' w v→Q v H'
      | some (some (.own c))=> ∀v H',BS G (env'.set i (some (.val c.fz))) h' σ H'→Xt env h σ H (env'.set i (some (.val c.fz))) h' H'→Rep G.K H' c.fz v→Q v H'
      | _=> False) I ⟨env,h,S,a.mono env h _ _ (fun r env' h' z v H1 S1 x1 r1 f1=> ⟨r,env',h',S1,x1,r1,f1,z⟩) q⟩) fun v s1 ⟨x,H1,I1,r1,r,env',h',S1,x1,rr,f1,z⟩=> ?_
  cases r with
  | val w=> exact ⟨x,H1,I1,r1,z x H1 S1 x1 rr⟩
  | own c=>
    obtain ⟨H2,I2,S2,x2,r2⟩:=C0o S1 x1 I1 rr f1
    exact ⟨x,H2,I2,r1,z x H2 S2 x2 r2⟩
  | slot i=>
    have es:σ[i]? =some (some x):=rr
    have z:match env'[i]? with
      | some (some (.val w))=> ∀v H',BS G env' h' σ H'→Xt env h σ H env' h' H'→Rep G.K H' w v→Q v H'
      | some (some (.own c))=> ∀v H',BS G (env'.set i (some (.val c.fz))) h' σ H'→Xt env h σ H (env'.set i (some (.val c.fz))) h' H'→Rep G.K H' c.fz v→Q v H'
      | _=> False:=z
    split at z
    · rename_i w e
      obtain ⟨u,e3,r⟩:=S1.val i w e
      rw [es] at e3;cases e3
      exact ⟨x,H1,I1,r1,z x H1 S1 x1 r⟩
    · rename_i c e
      obtain ⟨p,H2,ep,I2,S2,x2,r2⟩:=A9x S1 x1 I1 e
      rw [es] at ep;cases ep
      exact ⟨_,H2,I2,r1,z _ H2 S2 x2 r2⟩
    · exact z.elim
def aNil:I6:=fun env h Q=> Q [] env h
def aCons (t:D5) (u:I6):I6:=fun env h Q=> t env h fun w env' h'=> u env' h' fun ws env2 h2=> Q (w::ws) env2 h2
theorem aNil.mono:B9 aNil:=fun env h Q Q' k q=> k _ _ _ q
theorem aCons.mono {t:D5} {u:I6} (m:B9 t) (n:B9 u):B9 (aCons t u):=fun env h Q Q' k q=> m env h _ _ (fun w e g z=> n e g _ _ (fun ws e2 g2 z2=> k _ _ _ z2) z) q
theorem K8:AA X G [] aNil:=⟨aNil.mono,PA.imp pa_nil fun σ H Q ⟨env,h,S,q⟩=> q [] H S .refl .nil⟩
theorem C9 {e:Expr} {es:List Expr} {t:D5} {u:I6} (a:AV X G e t) (b:AA X G es u) (hs:starEach (e::es) X.env=(false,eval e X.env)::starEach es X.env:=by rfl):AA X G (e::es) (aCons t u):=by
  refine ⟨aCons.mono a.mono b.mono,PA.imp (pa_cons a.pe b.pa hs) fun σ H Q ⟨env,h,S,q⟩=> ?_⟩
  refine ⟨env,h,S,a.mono env h _ _ (fun w env1 h1 z v H1 S1 x1 r1=> ?_) q⟩
  refine ⟨env1,h1,S1,b.mono env1 h1 _ _ (fun ws env2 h2 z vs H2 S2 x2 r2=> ?_) z⟩
  exact z (v::vs) H2 S2 (x1.trans x2) (.cons (Rep.mono (x2.keeps S1) w v r1) r2)
def aTup (t:I6):AT:=fun env h Q=> t env h fun ws env' h'=> ws.length≤sizeLine∧Q (.val (.tup ws)) env' h'
def aLst (t:I6):AT:=fun env h Q=> t env h fun ws env' h'=> ws.length≤sizeLine∧Q (.own (.seq ws)) env' h'
theorem aTup.mono {t:I6} (m:B9 t):B9 (aTup t):=fun env h Q Q' k q=> m env h _ _ (fun ws e g z=> ⟨z.1,k _ _ _ z.2⟩) q
theorem aLst.mono {t:I6} (m:B9 t):B9 (aLst t):=fun env h Q Q' k q=> m env h _ _ (fun ws e g z=> ⟨z.1,k _ _ _ z.2⟩) q
section
variable {env:A1} {h:AH} {σ:L2.St} {H:Hp}
theorem BS.noAt (S:BS G env h σ H) {p:Addr} (n:H p=none):h p=none∧G.H0 p=none∧¬OwnAt env σ p:=by
  refine ⟨?_,?_,fun ⟨i,c,e1,e2⟩=> ?_⟩
  · cases q:h p with
    | none=> rfl
    | some u=> obtain ⟨o,e,_⟩:=(S.hp p u q).there;rw [n] at e;cases e
  · cases q:G.H0 p with
    | none=> rfl
    | some o=> obtain ⟨u,e⟩:=S.tr p o q;rw [n] at e;cases e
  · obtain ⟨q,e3,cr,_⟩:=S.own i c e1
    rw [e2] at e3;cases e3
    obtain ⟨o,e,_⟩:=cr.there;rw [n] at e;cases e
theorem n7 {es:List Expr} {t:I6} {x1 pos} (a:AA X G es t):AE X G (.Tuple es x1 pos) (aTup t):=by
  refine ⟨aTup.mono a.mono,PE.imp (pe_tup a.pa) fun σ H Q ⟨env,h,S,q⟩=> ?_⟩
  refine ⟨env,h,S,a.mono env h _ _ (fun ws env1 h1 z vs H1 S1 x1 r1=> ⟨by rw [←r1.length];exact z.1,fun p n=> ?_⟩) q⟩
  have nw:New H1 (upd H1 p (.tup vs)):=New.upd n
  exact z.2 (.ref p) _ (nw.bs S1) (x1.trans nw.xt) (.tup (.inl upd_same) (RepL.mono nw.keeps _ _ r1)) trivial
theorem Xt.fresh {env env':A1} {h':AH} {H':Hp} (x:Xt env h σ H env' h' H') {p:Addr} (n:H' p=none):H p=none:=by
  cases q:H p with
  | none=> rfl
  | some o=> obtain ⟨u,e⟩:=x.th p o q;rw [n] at e;cases e
theorem B0S {env env1:A1} {h h1:AH} {σ:L2.St} {H H1:Hp} {p:Addr} {o:HO} {c:Cont} (S:BS G env1 h1 σ H1) (x:Xt env h σ H env1 h1 H1) (n:H1 p=none) (r:New H1 (upd H1 p o)→CRep G.K (upd H1 p o) p c):
    BS G env1 h1 σ (upd H1 p o)∧Xt env h σ H env1 h1 (upd H1 p o)∧RvRep G env1 h1 σ (upd H1 p o) (.own c) (.ref p)∧R3 H (.own c) (.ref p):=by
  have nw:New H1 (upd H1 p o):=New.upd n
  obtain ⟨a,b,d⟩:=S.noAt n
  exact ⟨nw.bs S,x.trans nw.xt,⟨p,rfl,r nw,a,b,d⟩,fun q e=> by cases e;exact x.fresh n⟩
theorem P5 {es:List Expr} {t:I6} {pos} (a:AA X G es t):AE X G (.List es pos) (aLst t):=by
  refine ⟨aLst.mono a.mono,PE.imp (pe_lst a.pa) fun σ H Q ⟨env,h,S,q⟩=> ?_⟩
  refine ⟨env,h,S,a.mono env h _ _ (fun ws env1 h1 z vs H1 S1 x1 r1=> ⟨by rw [←r1.length];exact z.1,fun p n=> ?_⟩) q⟩
  obtain ⟨S2,x2,r2,f2⟩:=B0S S1 x1 n (o:= .lst vs) (c:= .seq ws) fun nw=> ⟨vs,upd_same,RepL.mono nw.keeps _ _ r1⟩
  exact z.2 _ _ S2 x2 r2 f2
end
end
end Ab
namespace Ab
open PySem PySem.Spec PyProof.Rows L2
def Vw.seq:Vw→Option (List W)
  | .wv (.lst xs)=> some xs
  | .cv (.seq xs)=> some xs
  | _=> none
def Vw.tpl:Vw→Option (List W)
  | .wv (.tup xs)=> some xs
  | _=> none
section
variable {K:PySem.W.Frag} {H:Hp} {a:Vw} {v:V} {xs:List W}
theorem VR.seq (r:VR K H a v) (e:a.seq=some xs):∃p vs,v= .ref p∧Rd H p (.lst vs)∧RepL K H xs vs:=by
  cases a with
  | wv w=>
    cases w with
    | lst ys=>
      cases e
      obtain ⟨p,vs,e1,⟨o,l⟩,r⟩:=Rep.of_lst r
      exact ⟨p,vs,e1,.inr ⟨o,l⟩,r⟩
    | _=> cases e
  | cv c=>
    cases c with
    | seq ys=>
      cases e
      obtain ⟨p,e1,vs,l,r⟩:=r
      exact ⟨p,vs,e1,.inl l,r⟩
    | map _=> cases e
  | bad=> cases e
theorem VR.tplT (r:VR K H a v) (e:a.tpl=some xs):∃p vs,v= .ref p∧TqT K H p vs∧RepL K H xs vs:=by
  cases a with
  | wv w=>
    cases w with
    | tup ys=> cases e;exact Rep.of_tupT r
    | _=> cases e
  | _=> cases e
theorem VR.tpl (r:VR K H a v) (e:a.tpl=some xs):∃p vs,v= .ref p∧SqT K H p vs∧RepL K H xs vs:=let ⟨p,vs,e,s,r⟩:=r.tplT e;⟨p,vs,e,s.sq,r⟩
theorem VR.int {i:Int} (r:VR K H (.wv (.int i)) v):v= .int i:=Rep.of_int (K:=K) (H:=H) r
theorem VR.str {i:Str} (r:VR K H (.wv (.str i)) v):v= .str i:=Rep.of_str (K:=K) (H:=H) r
theorem VR.bl {i:Bool} (r:VR K H (.wv (.bl i)) v):v= .bl i:=Rep.of_bl (K:=K) (H:=H) r
theorem VR.non (r:VR K H (.wv .non) v):v= .non:=Rep.of_non (K:=K) (H:=H) r
end
def OutR (K:PySem.W.Frag) (H:Hp) (Q:RV→Prop) (v:V) (H':Hp):Prop:=
  (H'=H∧∃w,Q (.val w)∧Rep K H w v)∨∃p o,H p=none∧H'=upd H p o∧v= .ref p∧((∃w,Q (.val w)∧Rep K H' w v)∨∃c,Q (.own c)∧CRep K H' p c)
theorem OutR.val {K:PySem.W.Frag} {H:Hp} {Q:RV→Prop} {w:W} {v:V} (q:Q (.val w)) (r:Rep K H w v):OutR K H Q v H:= .inl ⟨rfl,w,q,r⟩
theorem OutR.tup {K:PySem.W.Frag} {H:Hp} {Q:RV→Prop} {ws:List W} {vs:List V} {p:Addr} (n:H p=none) (q:Q (.val (.tup ws))) (r:RepL K H ws vs):OutR K H Q (.ref p) (upd H p (.tup vs)):=
  .inr ⟨p,_,n,rfl,rfl,.inl ⟨_,q,.tup (.inl upd_same) (RepL.mono (New.upd n).keeps _ _ r)⟩⟩
theorem OutR.lst {K:PySem.W.Frag} {H:Hp} {Q:RV→Prop} {ws:List W} {vs:List V} {p:Addr} (n:H p=none) (q:Q (.own (.seq ws))) (r:RepL K H ws vs):OutR K H Q (.ref p) (upd H p (.lst vs)):=
  .inr ⟨p,_,n,rfl,rfl,.inr ⟨_,q,vs,upd_same,RepL.mono (New.upd n).keeps _ _ r⟩⟩
section
variable {G:Gx} {env env1:A1} {h h1:AH} {σ:L2.St} {H H1 H2:Hp}
theorem OutR.end {Q0:RV→Prop} {v:V} (S:BS G env1 h1 σ H1) (x:Xt env h σ H env1 h1 H1) (o:OutR G.K H1 Q0 v H2):
    ∃r,Q0 r∧BS G env1 h1 σ H2∧Xt env h σ H env1 h1 H2∧RvRep G env1 h1 σ H2 r v∧R3 H r v:=by
  rcases o with ⟨rfl,w,q,r⟩ | ⟨p,o,n,rfl,rfl,⟨w,q,r⟩ | ⟨c,q,r⟩⟩
  · exact ⟨_,q,S,x,r,trivial⟩
  · have nw:New H1 (upd H1 p o):=New.upd n
    exact ⟨_,q,nw.bs S,x.trans nw.xt,r,trivial⟩
  · obtain ⟨a,b,c,d⟩:=B0S S x n fun _=> r
    exact ⟨_,q,a,b,c,d⟩
end
abbrev M7:=Vw→Vw→(RV→Prop)→Prop
structure OpA (K:PySem.W.Frag) (r:R2) (o:M7):Prop where
  mono:∀a b Q Q',(∀r,Q r→Q' r)→o a b Q→o a b Q'
  ok:∀a b x y H Q0 Q,VR K H a x→VR K H b y→o a b Q0→(∀v H',OutR K H Q0 v H'→Q v H')→r x y H Q
def aOp2 (o:M7) (ta tb:AT):AT:=fun env h Q=> ta env h fun rx env1 h1=> tb env1 h1 fun ry env2 h2=> o (view env2 h2 rx) (view env2 h2 ry) fun r=> Q r env2 h2
theorem aOp2.mono {K:PySem.W.Frag} {r:R2} {o:M7} (oa:OpA K r o) {ta tb:AT} (a:B9 ta) (b:B9 tb):B9 (aOp2 o ta tb):=fun env h Q Q' k q=>
  a env h _ _ (fun rx e g z=> b e g _ _ (fun ry e2 g2 z2=> oa.mono _ _ _ _ (fun r z3=> k _ _ _ z3) z2) z) q
section
variable {X:Cx} {G:Gx}
theorem A7q {ta tb:AT} {o:M7} {r:R2} (ma:B9 ta) (mb:B9 tb) (oa:OpA G.K r o) {σ:L2.St} {H:Hp} {Q:VK} (q:cE G (aOp2 o ta tb) σ H Q):tOp r (cE G ta) (cE G tb) σ H Q:=by
  obtain ⟨env,h,S,q⟩:=q
  refine ⟨env,h,S,ma env h _ _ (fun rx env1 h1 z x H1 S1 x1 r1 f1=> ?_) q⟩
  refine ⟨env1,h1,S1,mb env1 h1 _ _ (fun ry env2 h2 z2 y H2 S2 x2 r2 f2=> ?_) z⟩
  refine oa.ok _ _ _ _ _ _ _ ((r1.xt S1 x2).vr S2) (r2.vr S2) z2 fun v H3 out=> ?_
  obtain ⟨res,q0,S3,x3,r3,f3⟩:=out.end S2 (x1.trans x2)
  exact q0 v H3 S3 x3 r3 f3
theorem A3l {op:Operator} {r:R2} {o:M7} {a b:Expr} {ta tb:AT} {pos:Pos} (ho:OpR X (binaryOp op) r) (oa:OpA G.K r o) (ha:AE X G a ta) (hb:AE X G b tb):AE X G (.BinOp a op b pos) (aOp2 o ta tb):=
  ⟨aOp2.mono oa ha.mono hb.mono,PE.imp (pe_op ho ha.pe hb.pe) fun _ _ _ q=> A7q ha.mono hb.mono oa q⟩
theorem A4F {op:CmpOp} {r:R2} {o:M7} {a b:Expr} {ta tb:AT} {pos:Pos} (ho:OpR X (compareOp op) r) (oa:OpA G.K r o) (ha:AE X G a ta) (hb:AE X G b tb) (hm:behindInMarks op b=false):AE X G (.Compare a [op] [b] pos) (aOp2 o ta tb):=
  ⟨aOp2.mono oa ha.mono hb.mono,PE.imp (pe_cmpR ho ha.pe hb.pe hm) fun _ _ _ q=> A7q ha.mono hb.mono oa q⟩
end
theorem OpA.or {K:PySem.W.Frag} {r r':R2} {o o':M7} (a:OpA K r o) (b:OpA K r' o'):OpA K (fun x y H Q=> r x y H Q∨r' x y H Q) (fun x y Q=> o x y Q∨o' x y Q):=
  ⟨fun x y Q Q' k q=> q.elim (fun z=> .inl (a.mono x y Q Q' k z)) fun z=> .inr (b.mono x y Q Q' k z),fun x y u v H Q0 Q r1 r2 q k=> q.elim (fun z=> .inl (a.ok x y u v H Q0 Q r1 r2 z k)) fun z=> .inr (b.ok x y u v H Q0 Q r1 r2 z k)⟩
theorem OpA.as {K:PySem.W.Frag} {r:R2} {o o':M7} (a:OpA K r o) (i:∀x y Q,o' x y Q→o x y Q) (m:∀a b Q Q',(∀r,Q r→Q' r)→o' a b Q→o' a b Q'):OpA K r o':=⟨m,fun x y u v H Q0 Q r1 r2 q k=> a.ok x y u v H Q0 Q r1 r2 (i _ _ _ q) k⟩
def oII (C:Int→Int→Prop) (g:Int→Int→W):M7:=fun a b Q=> match a,b with
  | .wv (.int i),.wv (.int j)=> C i j∧Q (.val (g i j))
  | _,_=> False
theorem oII.mono {C:Int→Int→Prop} {g:Int→Int→W} (a b:Vw) (Q Q':RV→Prop) (k:∀r,Q r→Q' r) (q:oII C g a b Q):oII C g a b Q':=by
  unfold oII at q ⊢
  split at q
  · exact ⟨q.1,k _ q.2⟩
  · exact q.elim
theorem oII.get {C:Int→Int→Prop} {g:Int→Int→W} {a b:Vw} {Q:RV→Prop} (q:oII C g a b Q):∃i j,a= .wv (.int i)∧b= .wv (.int j)∧C i j∧Q (.val (g i j)):=by
  unfold oII at q
  split at q
  · exact ⟨_,_,rfl,rfl,q⟩
  · exact q.elim
theorem B0U {K:PySem.W.Frag} {C:Int→Int→Prop} {g:Int→Int→V} {g':Int→Int→W} (hg:∀H i j,Rep K H (g' i j) (g i j)):OpA K (rI C g) (oII C g'):=
  ⟨fun a b Q Q' k q=> oII.mono a b Q Q' k q,fun a b x y H Q0 Q ra rb q k=> by
    obtain ⟨i,j,rfl,rfl,c,q⟩:=q.get
    exact ⟨i,j,ra.int,rb.int,c,k _ _ (.val q (hg H i j))⟩⟩
theorem A34 {K:PySem.W.Frag} {g:Int→Int→V} {g':Int→Int→W} (hg:∀H i j,Rep K H (g' i j) (g i j)):OpA K (rI0 g) (oII (fun _ _=> True) g'):=
  ⟨fun a b Q Q' k q=> oII.mono a b Q Q' k q,fun a b x y H Q0 Q ra rb q k=> by
    obtain ⟨i,j,rfl,rfl,c,q⟩:=q.get
    exact ⟨i,j,ra.int,rb.int,k _ _ (.val q (hg H i j))⟩⟩
def B7O (_ j:Int):Prop:=0 < j
section
variable {X:Cx} {G:Gx} {a b:Expr} {ta tb:AT} {pos:Pos}
theorem A8L (ha:AE X G a ta) (hb:AE X G b tb):AE X G (.BinOp a .Sub b pos) (aOp2 (oII (fun _ _=> True) fun i j=> .int (i - j)) ta tb):=A3l op_sub (A34 fun _ _ _=> .int) ha hb
theorem A2W (ha:AE X G a ta) (hb:AE X G b tb):AE X G (.BinOp a .Mod b pos) (aOp2 (oII B7O fun i j=> .int (i % j)) ta tb):=A3l op_mod (B0U (C:=fun _ j=> 0 < j) fun _ _ _=> .int) ha hb
theorem B0b (ha:AE X G a ta) (hb:AE X G b tb):AE X G (.BinOp a .FloorDiv b pos) (aOp2 (oII CDivW fun i j=> .int (i / j)) ta tb):=A3l op_fdivW (B0U fun _ _ _=> .int) ha hb
theorem C5X (ha:AE X G a ta) (hb:AE X G b tb):AE X G (.Compare a [.Gt] [b] pos) (aOp2 (oII (fun _ _=> True) fun i j=> .bl (decide (j < i))) ta tb):=A4F op_gt (A34 fun _ _ _=> .bl) ha hb (nomark _)
end
end Ab
namespace Ab
open PySem PySem.Spec PyProof.Rows L2
section
variable {X:Cx}
theorem B0i {pins:List (Addr×Obj)} {σ:L2.St} {H:Hp} {s:Shared} {l:Addr} {xs:List V} (I:Inv X pins σ H s) (r:Rd H l (.lst xs)):
    xs.length≤sizeLine∧∃(us:List Value) (n:Nat),Vals xs us∧s.heap.get? l=some { cls:= .type "list",data:= .seq us.toArray n }:=r.ok I.hok
def B65:R2:=fun x y H Q=> ∃l b xs zs,x= .ref l∧y= .ref b∧Rd H l (.lst xs)∧Rd H b (.lst zs)∧xs.length+zs.length≤sizeLine∧∀p,H p=none→Q (.ref p) (upd H p (.lst (xs++zs)))
theorem C3W:OpR X (binaryOp .Add) B65:=fun pins s σ H x y v u Q I rx ry h=> by
  obtain ⟨l,b,xs,zs,rfl,rfl,h1,h2,hz,q⟩:=h
  obtain rfl:v= .ref l:=rx
  obtain rfl:u= .ref b:=ry
  obtain ⟨_,us,n,r1,e1⟩:=B0i I h1
  obtain ⟨_,ws,m,r2,e2⟩:=B0i I h2
  have z:us.toArray.size+ws.toArray.size≤sizeLine:=by
    rw [List.size_toArray,List.size_toArray,←r1.length,←r2.length];exact hz
  have w:=r1.append r2
  refine PySem.P.add_list e1 e2 ?_ z
  rw [show us.toArray++ws.toArray=(us++ws).toArray from by simp]
  refine ⟨.ref _,_,I.lnew (t':=s.toks) w ?_,rfl,q _ I.fresh⟩
  rw [List.length_append];exact hz
end
def B7F:M7:=fun a b Q=> ∃xs ys,a.seq=some xs∧b.seq=some ys∧xs.length+ys.length≤sizeLine∧Q (.own (.seq (xs++ys)))
theorem C2c {K:PySem.W.Frag}:OpA K B65 B7F:=
  ⟨fun a b Q Q' k ⟨xs,ys,e,f,z,q⟩=> ⟨xs,ys,e,f,z,k _ q⟩,fun a b x y H Q0 Q ra rb q k=> by
    obtain ⟨xs,ys,e,f,z,q⟩:=q
    obtain ⟨p,vs,rfl,d1,r1⟩:=ra.seq e
    obtain ⟨p',us,rfl,d2,r2⟩:=rb.seq f
    exact ⟨p,p',vs,us,rfl,rfl,d1,d2,by rw [←r1.length,←r2.length];exact z,fun l n=> k _ _ (.lst n q (r1.append r2))⟩⟩
def B66:M7:=fun a b Q=> ∃xs ys,a.tpl=some xs∧b.tpl=some ys∧xs.length+ys.length≤sizeLine∧Q (.val (.tup (xs++ys)))
theorem C13 {K:PySem.W.Frag}:OpA K (rCatA K) B66:=
  ⟨fun a b Q Q' k ⟨xs,ys,e,f,z,q⟩=> ⟨xs,ys,e,f,z,k _ q⟩,fun a b x y H Q0 Q ra rb q k=> by
    obtain ⟨xs,ys,e,f,z,q⟩:=q
    obtain ⟨p,vs,rfl,d1,r1⟩:=ra.tplT e
    obtain ⟨p',us,rfl,d2,r2⟩:=rb.tplT f
    refine ⟨p,p',vs,us,rfl,rfl,d1.sq,d2.sq,by rw [←r1.length,←r2.length];exact z,fun h0=> ?_,fun _ h0=> ?_,fun _ _ l n=> k _ _ (.tup n q (r1.append r2))⟩
    · have e0:xs=[]:=List.eq_nil_of_length_eq_zero (by rw [r1.length,h0];rfl)
      subst e0
      exact k _ _ (.val q (.tup d2 r2))
    · have e0:ys=[]:=List.eq_nil_of_length_eq_zero (by rw [r2.length,h0];rfl)
      subst e0
      rw [List.append_nil] at q
      exact k _ _ (.val q (.tup d1 r1))⟩
def A8t:M7:=fun a b Q=> match a,b with
  | .wv (.str x),.wv (.str y)=> x.length+y.length≤sizeLine∧Q (.val (.str (x++y)))
  | _,_=> False
theorem C1f {K:PySem.W.Frag}:OpA K (fun x y H Q=> ∃i j,x= .str i∧y= .str j∧i.length+j.length≤sizeLine∧Q (.str (i++j)) H) A8t:=
  ⟨fun a b Q Q' k q=> by
    unfold A8t at q ⊢
    split at q
    · exact ⟨q.1,k _ q.2⟩
    · exact q.elim,fun a b x y H Q0 Q ra rb q k=> by
    unfold A8t at q
    split at q
    · exact ⟨_,_,ra.str,rb.str,q.1,k _ _ (.val q.2 .str)⟩
    · exact q.elim⟩
def oAdd:M7:=fun a b Q=> match a,b with
  | .wv (.int i),.wv (.int j)=> Q (.val (.int (i+j)))
  | .wv (.str x),.wv (.str y)=> x.length+y.length≤sizeLine∧Q (.val (.str (x++y)))
  | .wv (.tup xs),.wv (.tup ys)=> xs.length+ys.length≤sizeLine∧Q (.val (.tup (xs++ys)))
  | .wv (.lst xs),.wv (.lst ys)=> xs.length+ys.length≤sizeLine∧Q (.own (.seq (xs++ys)))
  | .wv (.lst xs),.cv (.seq ys)=> xs.length+ys.length≤sizeLine∧Q (.own (.seq (xs++ys)))
  | .cv (.seq xs),.wv (.lst ys)=> xs.length+ys.length≤sizeLine∧Q (.own (.seq (xs++ys)))
  | .cv (.seq xs),.cv (.seq ys)=> xs.length+ys.length≤sizeLine∧Q (.own (.seq (xs++ys)))
  | _,_=> False
theorem oAdd.as (a b:Vw) (Q:RV→Prop) (q:oAdd a b Q):((oII (fun _ _=> True) (fun i j=> .int (i+j)) a b Q∨A8t a b Q)∨B66 a b Q)∨B7F a b Q:=by
  unfold oAdd at q
  split at q
  · exact .inl (.inl (.inl ⟨trivial,q⟩))
  · exact .inl (.inl (.inr q))
  · exact .inl (.inr ⟨_,_,rfl,rfl,q⟩)
  · exact .inr ⟨_,_,rfl,rfl,q⟩
  · exact .inr ⟨_,_,rfl,rfl,q⟩
  · exact .inr ⟨_,_,rfl,rfl,q⟩
  · exact .inr ⟨_,_,rfl,rfl,q⟩
  · exact q.elim
theorem oAdd.mono (a b:Vw) (Q Q':RV→Prop) (k:∀r,Q r→Q' r) (q:oAdd a b Q):oAdd a b Q':=by
  unfold oAdd at q ⊢
  split at q <;> first | exact ⟨q.1,k _ q.2⟩ | exact k _ q | exact q.elim
section
variable {X:Cx} {G:Gx} {a b c:Expr} {ta tb tc:AT} {pos:Pos}
theorem S9 (gk:G.K=X.K) (ha:AE X G a ta) (hb:AE X G b tb):AE X G (.BinOp a .Add b pos) (aOp2 oAdd ta tb):=
  A3l (((op_add.or op_add_str).or op_catA).or C3W) ((((A34 fun _ _ _=> .int).or C1f).or (gk▸C13)).or C2c |>.as (o':=oAdd) oAdd.as oAdd.mono) ha hb
end
mutual
def W.pd:W→PyData
  | .non=> .none
  | .bl b=> .bool b
  | .int i=> .int i
  | .str x=> .str x
  | .tup xs=> .tuple (W.pds xs)
  | .lst xs=> .list (W.pds xs)
  | .dct _ _=> .none
  | .ref _=> .none
  | .ty _=> .none
  | .emp=> .tuple []
def W.pds:List W→List PyData
  | []=> []
  | x::xs=> x.pd::W.pds xs
end
def W.dat:Nat→W→Bool
  | _,.non=> true
  | _,.bl _=> true
  | _,.int _=> true
  | _,.str _=> true
  | n+1,.tup xs=> xs.all (W.dat n)
  | n+1,.lst xs=> xs.all (W.dat n)
  | n+1,.emp=> true
  | _,_=> false
theorem W.depth_all {n:Nat}:∀xs:List W,(∀x∈xs,x.pd.depth≤n)→PyData.depthAll (W.pds xs)≤n
  | [],_=> Nat.zero_le _
  | x::xs,h=> by
    simp only [W.pds,PyData.depthAll]
    exact Nat.max_le.mpr ⟨h x List.mem_cons_self,W.depth_all xs fun y hy=> h y (List.mem_cons_of_mem _ hy)⟩
theorem W.dat_depth:∀(n:Nat) (w:W),w.dat n=true→w.pd.depth≤n
  | _,.non,_=> by simp only [W.pd,PyData.depth];omega
  | _,.bl _,_=> by simp only [W.pd,PyData.depth];omega
  | _,.int _,_=> by simp only [W.pd,PyData.depth];omega
  | _,.str _,_=> by simp only [W.pd,PyData.depth];omega
  | 0,.tup _,h=> by simp [W.dat] at h
  | 0,.lst _,h=> by simp [W.dat] at h
  | n+1,.tup xs,h=> by
    simp only [W.pd,PyData.depth]
    have z:=W.depth_all xs fun x hx=> W.dat_depth n x (List.all_eq_true.mp (by simpa only [W.dat] using h) x hx)
    omega
  | n+1,.lst xs,h=> by
    simp only [W.pd,PyData.depth]
    have z:=W.depth_all xs fun x hx=> W.dat_depth n x (List.all_eq_true.mp (by simpa only [W.dat] using h) x hx)
    omega
  | n,.dct _ _,h=> by simp [W.dat] at h
  | n,.ref _,h=> by simp [W.dat] at h
  | n,.ty _,h=> by simp [W.dat] at h
  | 0,.emp,h=> by simp [W.dat] at h
  | n+1,.emp,_=> by simp only [W.pd,PyData.depth,PyData.depthAll];omega
mutual
theorem W.pd_plain:∀w:W,w.pd.plain=true
  | .non=> rfl
  | .bl _=> rfl
  | .int _=> rfl
  | .str _=> rfl
  | .tup xs=> by simp only [W.pd,PyData.plain];exact W.pds_plain xs
  | .lst xs=> by simp only [W.pd,PyData.plain];exact W.pds_plain xs
  | .dct _ _=> rfl
  | .ref _=> rfl
  | .ty _=> rfl
  | .emp=> by simp only [W.pd,PyData.plain,PyData.plainAll]
theorem W.pds_plain:∀ws:List W,PyData.plainAll (W.pds ws)=true
  | []=> rfl
  | w::ws=> by simp only [W.pds,PyData.plainAll,Bool.and_eq_true];exact ⟨W.pd_plain w,W.pds_plain ws⟩
end
section
variable {K:PySem.W.Frag} {H:Hp}
theorem x8 {a:Addr} {vs:List V} (h:Rd H a (.lst vs)):SqL K H a vs:= .inl h
theorem RepL.dp {n:Nat} (ih:∀(w:W) (v:V),Rep K H w v→w.dat n=true→Dp K H v w.pd):∀(ws:List W) (vs:List V),RepL K H ws vs→ws.all (W.dat n)=true→DpAll K H vs (W.pds ws)
  | [],vs,r,_=> by rw [r.of_nil];exact .nil
  | w::ws,vs,r,d=> by
    obtain ⟨v,t,rfl,a,b⟩:=r.of_cons
    rw [List.all_cons,Bool.and_eq_true] at d
    exact .cons (ih w v a d.1) (RepL.dp ih ws t b d.2)
theorem Rep.dp:∀(n:Nat) (w:W) (v:V),Rep K H w v→w.dat n=true→Dp K H v w.pd
  | _,.non,_,r,_=> by rw [Rep.of_non (K:=K) (H:=H) r];exact .non
  | _,.bl _,_,r,_=> by rw [Rep.of_bl (K:=K) (H:=H) r];exact .bl _
  | _,.int _,_,r,_=> by rw [Rep.of_int (K:=K) (H:=H) r];exact .int _
  | _,.str _,_,r,_=> by rw [Rep.of_str (K:=K) (H:=H) r];exact .str _
  | n+1,.tup xs,v,r,d=> by
    obtain ⟨a,vs,rfl,s,r⟩:=Rep.of_tup r
    simp only [W.pd]
    exact .tup s (RepL.dp (Rep.dp n) xs vs r (by simpa only [W.dat] using d))
  | n+1,.lst xs,v,r,d=> by
    obtain ⟨a,vs,rfl,⟨o,s⟩,r⟩:=Rep.of_lst r
    simp only [W.pd]
    exact .lst (x8 (.inr ⟨o,s⟩)) (RepL.dp (Rep.dp n) xs vs r (by simpa only [W.dat] using d))
  | 0,.tup _,_,_,d=> by simp [W.dat] at d
  | 0,.lst _,_,_,d=> by simp [W.dat] at d
  | _,.dct _ _,_,_,d=> by simp [W.dat] at d
  | _,.ref _,_,_,d=> by simp [W.dat] at d
  | _,.ty _,_,_,d=> by simp [W.dat] at d
  | 0,.emp,_,_,d=> by simp [W.dat] at d
  | n+1,.emp,v,r,d=> by
    obtain ⟨a,rfl,e⟩:=Rep.of_emp (K:=K) (H:=H) r
    simp only [W.pd]
    exact .tup e.sq .nil
end
theorem VR.dp {K:PySem.W.Frag} {H:Hp} {a:Vw} {v:V} {n:Nat} (r:VR K H a v) (d:a.toW.dat n=true) (nb:a≠ .bad):Dp K H v a.toW.pd:=by
  cases a with
  | wv w=> exact Rep.dp n w v r d
  | bad=> exact absurd rfl nb
  | cv c=>
    cases c with
    | map kvs=> simp [Vw.toW,Cont.fz,W.dat] at d
    | seq ws=>
      obtain ⟨p,rfl,vs,e,r⟩:=r
      have d:(W.lst ws).dat n=true:=d
      cases n with
      | zero=> simp [W.dat] at d
      | succ n=>
        simp only [W.dat] at d
        show Dp K H _ (W.lst ws).pd
        simp only [W.pd]
        exact .lst (x8 (.inl e)) (RepL.dp (Rep.dp n) ws vs r d)
def M8 (a b:W):Bool:=PyData.eqv a.pd b.pd
def Vw.ok:Vw→Bool
  | .bad=> false
  | v=> v.toW.dat 60
theorem Vw.of_ok {a:Vw} (h:a.ok=true):a.toW.dat 60=true∧a≠ .bad:=by
  cases a with
  | bad=> cases h
  | wv w=> exact ⟨h,fun z=> nomatch z⟩
  | cv c=> exact ⟨h,fun z=> nomatch z⟩
def D4 (neg:Bool):M7:=fun a b Q=> a.ok=true∧b.ok=true∧Q (.val (.bl (if neg then !M8 a.toW b.toW else M8 a.toW b.toW)))
def B1f (K:PySem.W.Frag) (neg:Bool):R2:=fun x y H Q=> ∃d e,Dp K H x d∧Dp K H y e∧d.plain=true∧e.plain=true∧d.depth≤60∧Q (.bl (if neg then !PyData.eqv d e else PyData.eqv d e)) H
theorem A8O {K:PySem.W.Frag} {neg:Bool}:OpA K (B1f K neg) (D4 neg):=
  ⟨fun a b Q Q' k ⟨x,y,q⟩=> ⟨x,y,k _ q⟩,fun a b x y H Q0 Q ra rb ⟨da,db,q⟩ k=>
    ⟨_,_,ra.dp (Vw.of_ok da).1 (Vw.of_ok da).2,rb.dp (Vw.of_ok db).1 (Vw.of_ok db).2,W.pd_plain _,W.pd_plain _,W.dat_depth _ _ (Vw.of_ok da).1,k _ _ (.val q .bl)⟩⟩
section
variable {X:Cx} {G:Gx} {a b c:Expr} {ta tb tc:AT} {pos:Pos}
theorem B51 (hu:X.A.units+64 < cLine):OpR X (compareOp .Eq) (B1f X.K false):=fun pins s σ H x y v u Q I rx ry ⟨d,e,hd,he,pd,pe,dp,q⟩=> by
  obtain ⟨as,r1⟩:=Dp.reads I d x v hd rx
  obtain ⟨bs,r2⟩:=Dp.reads I e y u he ry
  have z:=Nat.min_le_left d.depth e.depth
  exact SeqAt.eq_plain r1 r2 pd pe (by omega) ⟨.bl _,H,I,rfl,q⟩
theorem B5u (hu:X.A.units+64 < cLine):OpR X (compareOp .NotEq) (B1f X.K true):=fun pins s σ H x y v u Q I rx ry ⟨d,e,hd,he,pd,pe,dp,q⟩=> by
  obtain ⟨as,r1⟩:=Dp.reads I d x v hd rx
  obtain ⟨bs,r2⟩:=Dp.reads I e y u he ry
  have z:=Nat.min_le_left d.depth e.depth
  exact SeqAt.ne_plain r1 r2 pd pe (by omega) ⟨.bl _,H,I,rfl,q⟩
theorem A1q (gk:G.K=X.K) (hu:X.A.units+64 < cLine) (ha:AE X G a ta) (hb:AE X G b tb):AE X G (.Compare a [.Eq] [b] pos) (aOp2 (D4 false) ta tb):=A4F (B51 hu) (gk▸A8O) ha hb (nomark _)
theorem C5w (gk:G.K=X.K) (hu:X.A.units+64 < cLine) (ha:AE X G a ta) (hb:AE X G b tb):AE X G (.Compare a [.NotEq] [b] pos) (aOp2 (D4 true) ta tb):=A4F (B5u hu) (gk▸A8O) ha hb (nomark _)
end
end Ab
namespace Ab
open PySem PySem.Spec PyProof.Rows L2
def Vw.isNon:Vw→Bool
  | .wv .non=> true
  | _=> false
def O3 (neg:Bool):M7:=fun a b Q=> b= .wv .non∧a≠ .bad∧Q (.val (.bl (if neg then !a.isNon else a.isNon)))
theorem VR.isN {K:PySem.W.Frag} {H:Hp}:∀{a:Vw} {v:V},VR K H a v→a≠ .bad→decide (v= .non)=a.isNon
  | .bad,_,_,nb=> absurd rfl nb
  | .cv c,v,r,_=> by obtain ⟨p,e,_⟩:=r;subst e;rfl
  | .wv .non,v,r,_=> by have e:=r.non;subst e;rfl
  | .wv (.bl b),v,r,_=> by have e:=r.bl;subst e;rfl
  | .wv (.int b),v,r,_=> by have e:=r.int;subst e;rfl
  | .wv (.str b),v,r,_=> by have e:=r.str;subst e;rfl
  | .wv (.tup b),v,r,_=> by obtain ⟨p,vs,e,_⟩:=Rep.of_tup (K:=K) (H:=H) r;subst e;rfl
  | .wv (.lst b),v,r,_=> by obtain ⟨p,vs,e,_⟩:=Rep.of_lst (K:=K) (H:=H) r;subst e;rfl
  | .wv (.ref a),v,r,_=> by have e:=Rep.of_ref (K:=K) (H:=H) r;subst e;rfl
  | .wv (.ty a),v,r,_=> by have e:=Rep.of_ty (K:=K) (H:=H) r;subst e;rfl
  | .wv .emp,v,r,_=> by obtain ⟨a,e,_⟩:=Rep.of_emp (K:=K) (H:=H) r;subst e;rfl
  | .wv (.dct ks vs),v,r,_=> by
    have z:Rep K H (.dct ks vs) v:=r
    simp only [Rep] at z
    obtain ⟨p,e,_⟩:=z;subst e;rfl
theorem B4p {K:PySem.W.Frag}:OpA K (fun x y H Q=> y= .non∧Q (.bl (decide (x= .non))) H) (O3 false):=
  ⟨fun a b Q Q' k ⟨x,y,q⟩=> ⟨x,y,k _ q⟩,fun a b x y H Q0 Q ra rb ⟨e,nb,q⟩ k=> by
    subst e
    refine ⟨rb.non,k _ _ (.val q ?_)⟩
    rw [ra.isN nb]
    exact .bl⟩
theorem C18 {K:PySem.W.Frag}:OpA K (fun x y H Q=> y= .non∧Q (.bl (!decide (x= .non))) H) (O3 true):=
  ⟨fun a b Q Q' k ⟨x,y,q⟩=> ⟨x,y,k _ q⟩,fun a b x y H Q0 Q ra rb ⟨e,nb,q⟩ k=> by
    subst e
    refine ⟨rb.non,k _ _ (.val q ?_)⟩
    rw [ra.isN nb]
    exact .bl⟩
def Vw.items:Vw→Option (List W)
  | .wv (.lst xs)=> some xs
  | .wv (.tup xs)=> some xs
  | .cv (.seq xs)=> some xs
  | _=> none
theorem VR.itemsT {K:PySem.W.Frag} {H:Hp} {a:Vw} {v:V} {xs:List W} (r:VR K H a v) (e:a.items=some xs):∃p vs,v= .ref p∧(Rd H p (.lst vs)∨TqT K H p vs)∧RepL K H xs vs:=by
  cases a with
  | bad=> cases e
  | cv c=>
    cases c with
    | map _=> cases e
    | seq ws=> obtain ⟨p,vs,a,b,c⟩:=r.seq e;exact ⟨p,vs,a,.inl b,c⟩
  | wv w=>
    cases w with
    | lst ws=> obtain ⟨p,vs,a,b,c⟩:=r.seq e;exact ⟨p,vs,a,.inl b,c⟩
    | tup ws=> obtain ⟨p,vs,a,b,c⟩:=r.tplT e;exact ⟨p,vs,a,.inr b,c⟩
    | _=> cases e
theorem VR.items {K:PySem.W.Frag} {H:Hp} {a:Vw} {v:V} {xs:List W} (r:VR K H a v) (e:a.items=some xs):∃p vs,v= .ref p∧(Rd H p (.lst vs)∨SqT K H p vs)∧RepL K H xs vs:=let ⟨p,vs,q,s,r⟩:=r.itemsT e;⟨p,vs,q,s.imp id TqT.sq,r⟩
def y9 (x:W) (xs:List W):Bool:=xs.any fun y=> M8 y x
def Z6 (neg:Bool):M7:=fun a b Q=> ∃xs,b.items=some xs∧a.ok=true∧xs.all (W.dat 60)=true∧Q (.val (.bl (if neg then !y9 a.toW xs else y9 a.toW xs)))
def B1p (K:PySem.W.Frag) (neg:Bool):R2:=fun x y H Q=> ∃p vs d ds,y= .ref p∧(SqL K H p vs∨SqT K H p vs)∧Dp K H x d∧DpAll K H vs ds∧d.plain=true∧PyData.plainAll ds=true∧d.depth≤60∧Q (.bl (if neg then !(ds.any fun y=> PyData.eqv y d) else ds.any fun y=> PyData.eqv y d)) H
theorem B4s (x:W):∀xs:List W,((W.pds xs).any fun y=> PyData.eqv y x.pd)=y9 x xs
  | []=> rfl
  | y::ys=> by
    simp only [W.pds,List.any_cons,y9]
    rw [B4s x ys];rfl
theorem B46 {K:PySem.W.Frag} {neg:Bool}:OpA K (B1p K neg) (Z6 neg):=
  ⟨fun a b Q Q' k ⟨xs,x,y,z,q⟩=> ⟨xs,x,y,z,k _ q⟩,fun a b x y H Q0 Q ra rb ⟨xs,e,da,db,q⟩ k=> by
    obtain ⟨p,vs,rfl,hs,rv⟩:=rb.items e
    refine ⟨p,vs,_,_,rfl,hs.imp_left x8,ra.dp (Vw.of_ok da).1 (Vw.of_ok da).2,RepL.dp (Rep.dp 60) xs vs rv db,W.pd_plain _,W.pds_plain _,W.dat_depth _ _ (Vw.of_ok da).1,k _ _ (.val q ?_)⟩
    rw [B4s]
    exact .bl⟩
section
variable {X:Cx}
theorem B5x {pins:List (Addr×Obj)} {σ:L2.St} {H:Hp} {s:Shared} {p:Addr} {vs:List V} {ds:List PyData} (I:Inv X pins σ H s) (hq:SqL X.K H p vs∨SqT X.K H p vs) (hd:DpAll X.K H vs ds):(∃as,Reads s.heap (.ref p) (.list ds) as)∨∃as,Reads s.heap (.ref p) (.tuple ds) as:=by
  rcases hq with hq | hq
  · exact .inl (Dp.reads I (.list ds) (.ref p) (.ref p) (.lst hq hd) rfl)
  · exact .inr (Dp.reads I (.tuple ds) (.ref p) (.ref p) (.tup hq hd) rfl)
theorem C30 (hu:X.A.units+64 < cLine):OpR X (compareOp .In) (B1p X.K false):=fun pins s σ H x y v u Q I rx ry ⟨p,vs,d,ds,e,hq,hx,hd,pd,pe,dp,q⟩=> by
  subst e
  obtain rfl:u= .ref p:=ry
  obtain ⟨as,r1⟩:=Dp.reads I d x v hx rx
  have z:=Nat.min_le_right (PyData.depthAll ds) d.depth
  rcases B5x I hq hd with ⟨bs,r2⟩ | ⟨bs,r2⟩
  · exact SeqAt.in_list_data r2 r1 pe pd (by omega) ⟨.bl _,H,I,rfl,q⟩
  · exact SeqAt.in_tuple_data r2 r1 pe pd (by omega) ⟨.bl _,H,I,rfl,q⟩
theorem C0r (hu:X.A.units+64 < cLine):OpR X (compareOp .NotIn) (B1p X.K true):=fun pins s σ H x y v u Q I rx ry ⟨p,vs,d,ds,e,hq,hx,hd,pd,pe,dp,q⟩=> by
  subst e
  obtain rfl:u= .ref p:=ry
  obtain ⟨as,r1⟩:=Dp.reads I d x v hx rx
  have z:=Nat.min_le_right (PyData.depthAll ds) d.depth
  rcases B5x I hq hd with ⟨bs,r2⟩ | ⟨bs,r2⟩
  · exact SeqAt.notIn_list_data r2 r1 pe pd (by omega) ⟨.bl _,H,I,rfl,q⟩
  · exact SeqAt.notIn_tuple_data r2 r1 pe pd (by omega) ⟨.bl _,H,I,rfl,q⟩
end
def aTst (t:AT):L8:=fun env h Q=> t env h fun r env' h'=> match view env' h' r with
  | .wv (.bl b)=> Q b env' h'
  | _=> False
theorem aTst.mono {t:AT} (m:B9 t):B9 (aTst t):=fun env h Q Q' k q=> m env h _ _ (fun r e g z=> by
  show match view e g r with
    | .wv (.bl b)=> Q' b e g
    | _=> False
  have z:match view e g r with
    | .wv (.bl b)=> Q b e g
    | _=> False:=z
  split at z
  · exact k _ _ _ z
  · exact z) q
def aAndT (t u:L8):L8:=fun env h Q=> t env h fun b env' h'=> if b=true then u env' h' Q else Q false env' h'
def aOrT (t u:L8):L8:=fun env h Q=> t env h fun b env' h'=> if b=true then Q true env' h' else u env' h' Q
def aNotT (t:L8):L8:=fun env h Q=> t env h fun b env' h'=> Q (!b) env' h'
def aIfE (t:L8) (a b:AT):AT:=fun env h Q=> t env h fun c env' h'=> if c=true then a env' h' Q else b env' h' Q
theorem aAndT.mono {t u:L8} (m:B9 t) (n:B9 u):B9 (aAndT t u):=fun env h Q Q' k q=> m env h _ _ (fun b e g z=> by
  cases b with
  | true=> exact iteT (n e g _ _ k (by simpa using z))
  | false=> exact iteF (k _ _ _ (by simpa using z))) q
theorem aOrT.mono {t u:L8} (m:B9 t) (n:B9 u):B9 (aOrT t u):=fun env h Q Q' k q=> m env h _ _ (fun b e g z=> by
  cases b with
  | true=> exact iteT (k _ _ _ (by simpa using z))
  | false=> exact iteF (n e g _ _ k (by simpa using z))) q
theorem aNotT.mono {t:L8} (m:B9 t):B9 (aNotT t):=fun env h Q Q' k q=> m env h _ _ (fun b e g z=> k _ _ _ z) q
theorem aIfE.mono {t:L8} {a b:AT} (m:B9 t) (n:B9 a) (o:B9 b):B9 (aIfE t a b):=fun env h Q Q' k q=> m env h _ _ (fun c e g z=> by
  cases c with
  | true=> exact iteT (n e g _ _ k (by simpa using z))
  | false=> exact iteF (o e g _ _ k (by simpa using z))) q
section
variable {X:Cx} {G:Gx} {a b c:Expr} {ta tb tc:AT} {t u:L8} {pos:Pos} {rest:List Expr}
theorem C4Y (h:AE X G a ta) (hv:∀t:TE,PE X a t→PT X a (tTest t)):AP X G a (aTst ta):=by
  refine ⟨aTst.mono h.mono,PT.imp (hv _ h.pe) fun σ H Q ⟨env,k,S,q⟩=> ?_⟩
  refine ⟨env,k,S,h.mono env k _ _ (fun r env1 h1 z v H1 S1 x1 r1 f1=> ?_) q⟩
  have r2:=r1.vr S1
  split at z
  · rename_i b e
    rw [e] at r2
    exact ⟨b,r2.bl,z H1 S1 x1⟩
  · exact z.elim
theorem A1f {op:CmpOp} {r:R2} {o:M7} (ho:OpR X (compareOp op) r) (oa:OpA G.K r o) (ha:AE X G a ta) (hb:AE X G b tb) (hm:behindInMarks op b=false):AP X G (.Compare a [op] [b] pos) (aTst (aOp2 o ta tb)):=by
  refine ⟨aTst.mono (aOp2.mono oa ha.mono hb.mono),PT.imp (pt_cmpR ho ha.pe hb.pe hm) fun σ H Q ⟨env,k,S,q⟩=> ?_⟩
  refine A7q ha.mono hb.mono oa ⟨env,k,S,aOp2.mono oa ha.mono hb.mono env k _ _ (fun r env1 h1 z v H1 S1 x1 r1 f1=> ?_) q⟩
  have r2:=r1.vr S1
  split at z
  · rename_i b e
    rw [e] at r2
    exact ⟨b,r2.bl,z H1 S1 x1⟩
  · exact z.elim
theorem A09 (h:AP X G a t):AP X G (.UnaryOp .Not a pos) (aNotT t):=
  ⟨aNotT.mono h.mono,PT.imp (pt_not h.pt) fun σ H Q ⟨env,k,S,q⟩=> ⟨env,k,S,q⟩⟩
structure AW (X:Cx) (G:Gx) (e:Expr) (t:L8):Prop where
  mono:B9 t
  pw:PW X e (cT G t)
theorem PW.imp {e:Expr} {t t':TT} (h:PW X e t) (i:∀σ H Q,t' σ H Q→t σ H Q):PW X e t':=⟨fun w pins s σ H Q I q=> h.run w pins s σ H Q I (i σ H Q q)⟩
theorem AW.ap (h:AW X G a t):AP X G a t:=⟨h.mono,h.pw.pt⟩
theorem A72 (h:AP X G a t):AW X G (.BoolOp .And [a] pos) t:=⟨h.mono,pw_and1 h.pt⟩
theorem A1g (h:AP X G a t):AW X G (.BoolOp .Or [a] pos) t:=⟨h.mono,pw_or1 h.pt⟩
theorem C1Z {σ:L2.St} {H:Hp} {Q:Bool→Hp→Prop} (mt:B9 t) (mu:B9 u) (q:cT G (aAndT t u) σ H Q):tAnd (cT G t) (cT G u) σ H Q:=by
  obtain ⟨env,k,S,q⟩:=q
  refine ⟨env,k,S,mt env k _ _ (fun b env1 h1 z H1 S1 x1=> ?_) q⟩
  cases b with
  | true=>
    rw [if_pos rfl] at z
    exact iteT ⟨env1,h1,S1,mu env1 h1 _ _ (fun c env2 h2 z2 H2 S2 x2=> z2 H2 S2 (x1.trans x2)) z⟩
  | false=>
    rw [if_neg Bool.false_ne_true] at z ⊢
    exact z H1 S1 x1
theorem C2V {σ:L2.St} {H:Hp} {Q:Bool→Hp→Prop} (mt:B9 t) (mu:B9 u) (q:cT G (aOrT t u) σ H Q):tOr (cT G t) (cT G u) σ H Q:=by
  obtain ⟨env,k,S,q⟩:=q
  refine ⟨env,k,S,mt env k _ _ (fun b env1 h1 z H1 S1 x1=> ?_) q⟩
  cases b with
  | false=>
    rw [if_neg Bool.false_ne_true] at z
    exact iteF ⟨env1,h1,S1,mu env1 h1 _ _ (fun c env2 h2 z2 H2 S2 x2=> z2 H2 S2 (x1.trans x2)) z⟩
  | true=>
    rw [if_pos rfl] at z ⊢
    exact z H1 S1 x1
theorem A8d (ha:AP X G a t) (hb:AW X G (.BoolOp .And (b::rest) pos) u):AW X G (.BoolOp .And (a::b::rest) pos) (aAndT t u):=
  ⟨aAndT.mono ha.mono hb.mono,PW.imp (pw_and ha.pt hb.pw) fun _ _ _ q=> C1Z ha.mono hb.mono q⟩
theorem A1k (ha:AP X G a t) (hb:AW X G (.BoolOp .Or (b::rest) pos) u):AW X G (.BoolOp .Or (a::b::rest) pos) (aOrT t u):=
  ⟨aOrT.mono ha.mono hb.mono,PW.imp (pw_or ha.pt hb.pw) fun _ _ _ q=> C2V ha.mono hb.mono q⟩
theorem A6J (hc:AP X G c t) (ha:AE X G a ta) (hb:AE X G b tb):AE X G (.IfExp c a b pos) (aIfE t ta tb):=by
  refine ⟨aIfE.mono hc.mono ha.mono hb.mono,PE.imp (pe_ifExp hc.pt ha.pe hb.pe) fun σ H Q ⟨env,k,S,q⟩=> ?_⟩
  refine ⟨env,k,S,hc.mono env k _ _ (fun d env1 h1 z H1 S1 x1=> ?_) q⟩
  have fin:∀{t:AT},B9 t→t env1 h1 (fun r env2 h2=> ∀v H',BS G env2 h2 σ H'→Xt env k σ H env2 h2 H'→RvRep G env2 h2 σ H' r v→R3 H r v→Q v H')→cE G t σ H1 Q:=fun m y=>
    ⟨env1,h1,S1,m env1 h1 _ _ (fun r env2 h2 z2 v H2 S2 x2 r2 f2=> z2 v H2 S2 (x1.trans x2) r2 (by
      cases r with
      | own c=> exact fun p e=> x1.fresh (f2 p e)
      | _=> trivial)) y⟩
  cases d with
  | true=> exact iteT (fin ha.mono (by simpa using z))
  | false=> exact iteF (fin hb.mono (by simpa using z))
end
end Ab
namespace Ab
open PySem PySem.Spec PyProof.Rows L2
theorem RepL.atI {K:PySem.W.Frag} {H:Hp} {ws:List W} {vs:List V} {i:Int} {w:W} (r:RepL K H ws vs) (e:L2.atI ws i=some w):∃v,L2.atI vs i=some v∧Rep K H w v:=by
  unfold L2.atI at e ⊢
  rw [←r.length]
  cases q:ixN ws.length i with
  | none=> rw [q] at e;cases e
  | some j=>
    rw [q] at e
    exact r.get (i:=j) e
def oIx:M7:=fun a b Q=> match b with
  | .wv (.int i)=> match a with
    | .wv (.str x)=> x.length≤sizeLine∧∃c,L2.atI x.cps.toList i=some c∧Q (.val (.str ⟨#[c]⟩))
    | a=> ∃xs w,a.items=some xs∧L2.atI xs i=some w∧Q (.val w)
  | _=> False
theorem oIx.mono (a b:Vw) (Q Q':RV→Prop) (k:∀r,Q r→Q' r) (q:oIx a b Q):oIx a b Q':=by
  unfold oIx at q ⊢
  split at q
  · split at q
    · obtain ⟨z,c,e,q⟩:=q;exact ⟨z,c,e,k _ q⟩
    · obtain ⟨xs,w,e,f,q⟩:=q;exact ⟨xs,w,e,f,k _ q⟩
  · exact q
theorem B6D {K:PySem.W.Frag}:OpA K (rIx K) oIx:=
  ⟨oIx.mono,fun a b x y H Q0 Q ra rb q k=> by
    unfold oIx at q
    split at q
    · rename_i i
      split at q
      · obtain ⟨z,c,e,q⟩:=q
        exact .inr (.inr ⟨_,i,c,ra.str,rb.int,z,e,k _ _ (.val q .str)⟩)
      · obtain ⟨xs,w,e,f,q⟩:=q
        obtain ⟨p,vs,rfl,hs,rv⟩:=ra.items e
        obtain ⟨v,g,r⟩:=rv.atI f
        rcases hs with hs | hs
        · exact .inl ⟨p,vs,i,v,rfl,rb.int,x8 hs,g,k _ _ (.val q r)⟩
        · exact .inr (.inl ⟨p,vs,i,v,rfl,rb.int,hs,g,k _ _ (.val q r)⟩)
    · exact q.elim⟩
section
variable {X:Cx} {G:Gx} {a b c:Expr} {ta tb tc:AT} {pos:Pos}
theorem J9 (gk:G.K=X.K) (ha:AE X G a ta) (hb:AE X G b tb) (hs:PlainIx b):AE X G (.Subscript a b pos) (aOp2 oIx ta tb):=
  ⟨aOp2.mono (B6D (K:=G.K)) ha.mono hb.mono,PE.imp (pe_ix ix_seq ha.pe hb.pe hs) fun _ _ _ q=> A7q ha.mono hb.mono (gk▸B6D) q⟩
end
abbrev AOT:=A1→AH→(Option Int→A1→AH→Prop)→Prop
def cO (G:Gx) (t:AOT):TO:=fun σ H Q=> ∃env h,BS G env h σ H∧t env h fun o env' h'=> ∀H',BS G env' h' σ H'→Xt env h σ H env' h' H'→Q o H'
structure AOp (X:Cx) (G:Gx) (e:Option Expr) (t:AOT):Prop where
  mono:B9 t
  po:PO X e (cO G t)
def A1a:AOT:=fun env h Q=> Q none env h
def A1u (t:AT):AOT:=fun env h Q=> t env h fun r env' h'=> match view env' h' r with
  | .wv (.int i)=> Q (some i) env' h'
  | _=> False
theorem PO.imp {X:Cx} {e:Option Expr} {t t':TO} (h:PO X e t) (i:∀σ H Q,t' σ H Q→t σ H Q):PO X e t':=⟨fun pins s σ H Q I q=> h.run pins s σ H Q I (i σ H Q q)⟩
section
variable {X:Cx} {G:Gx} {a b c:Expr} {ta tb tc:AT} {pos p2:Pos} {lo hi:Option Expr} {tl th:AOT}
theorem A3S:AOp X G none A1a:=⟨fun env h Q Q' k q=> k _ _ _ q,PO.imp po_none fun σ H Q ⟨env,h,S,q⟩=> q H S .refl⟩
theorem A3Q (ha:AE X G a ta):AOp X G (some a) (A1u ta):=by
  refine ⟨fun env h Q Q' k q=> ha.mono env h _ _ (fun r e g z=> ?_) q,PO.imp (po_some ha.pe) fun σ H Q ⟨env,h,S,q⟩=> ?_⟩
  · split at z
    · exact k _ _ _ z
    · exact z
  · refine ⟨env,h,S,ha.mono env h _ _ (fun r env1 h1 z v H1 S1 x1 r1 f1=> ?_) q⟩
    have r2:=r1.vr S1
    split at z
    · rename_i i e
      rw [e] at r2
      exact ⟨i,r2.int,z H1 S1 x1⟩
    · exact z.elim
def V9 (xs:List W) (lo hi:Option Int):List W:=(xs.drop (HT.sIx xs.length 0 lo)).take (HT.sIx xs.length xs.length hi - HT.sIx xs.length 0 lo)
def oSl (a:Vw) (lo hi:Option Int) (Q:RV→Prop):Prop:=match a with
  | .wv (.str x)=> x.length≤sizeLine∧Q (.val (.str (Txt.slice x lo hi)))
  | .wv (.tup xs)=> Q (.val (.tup (V9 xs lo hi)))
  | .wv (.lst xs)=> Q (.own (.seq (V9 xs lo hi)))
  | .cv (.seq xs)=> Q (.own (.seq (V9 xs lo hi)))
  | _=> False
theorem oSl.mono {a:Vw} {lo hi:Option Int} {Q Q':RV→Prop} (k:∀r,Q r→Q' r) (q:oSl a lo hi Q):oSl a lo hi Q':=by
  unfold oSl at q ⊢
  split at q <;> first | exact ⟨q.1,k _ q.2⟩ | exact k _ q | exact q.elim
def aSl (ta:AT) (tl th:AOT):AT:=fun env h Q=> ta env h fun r env1 h1=> tl env1 h1 fun lo env2 h2=> th env2 h2 fun hi env3 h3=> oSl (view env3 h3 r) lo hi fun r=> Q r env3 h3
theorem RepL.cut {K:PySem.W.Frag} {H:Hp} {ws:List W} {vs:List V} (r:RepL K H ws vs) (lo hi:Option Int):RepL K H (V9 ws lo hi) (cutV vs lo hi):=by
  unfold V9 cutV
  rw [←r.length]
  exact (r.drop _).take _
theorem C0z {ws:List W} {lo hi:Option Int} (h:HT.sIx ws.length 0 lo=0∧HT.sIx ws.length ws.length hi=ws.length):V9 ws lo hi=ws:=by
  unfold V9
  rw [h.1,h.2]
  simp
theorem A3M (gk:G.K=X.K) (ha:AE X G a ta) (hl:AOp X G lo tl) (hu:AOp X G hi th):AE X G (.Subscript a (.Slice lo hi none p2) pos) (aSl ta tl th):=by
  refine ⟨fun env h Q Q' k q=> ha.mono env h _ _ (fun r e g z=> hl.mono e g _ _ (fun l e g z=> hu.mono e g _ _ (fun u e g z=> oSl.mono (fun r q=> k _ _ _ q) z) z) z) q,PE.imp (pe_slice ((C8.sl_txt.or sl_tupA).or sl_list) ha.pe hl.po hu.po) fun σ H Q ⟨env,h,S,q⟩=> ?_⟩
  refine ⟨env,h,S,ha.mono env h _ _ (fun r env1 h1 z v H1 S1 x1 r1 f1=> ?_) q⟩
  refine ⟨env1,h1,S1,hl.mono env1 h1 _ _ (fun l env2 h2 z H2 S2 x2=> ?_) z⟩
  refine ⟨env2,h2,S2,hu.mono env2 h2 _ _ (fun u env3 h3 z H3 S3 x3=> ?_) z⟩
  have rr:=((r1.xt S1 x2).xt S2 x3).vr S3
  have fin:∀{v:V} {H':Hp},OutR G.K H3 (fun r=> ∀v H',BS G env3 h3 σ H'→Xt env h σ H env3 h3 H'→RvRep G env3 h3 σ H' r v→R3 H r v→Q v H') v H'→Q v H':=fun o=> by
    obtain ⟨res,q0,a,b,c,d⟩:=o.end S3 (x1.trans (x2.trans x3))
    exact q0 _ _ a b c d
  unfold oSl at z
  split at z
  · rename_i x e
    rw [e] at rr
    exact .inl (.inl ⟨x,rr.str,z.1,fin (.val z.2 .str)⟩)
  · rename_i xs e
    rw [e] at rr
    obtain ⟨p,vs,rfl,hs,rv⟩:=rr.tplT rfl
    refine .inl (.inr ⟨p,vs,rfl,gk▸hs.sq,fun y=> ?_,fun _ m n=> fin (.tup n z (rv.cut _ _))⟩)
    rw [←rv.length] at y
    rw [C0z y] at z
    exact fin (.val z (.tup hs rv))
  · rename_i xs e
    rw [e] at rr
    obtain ⟨p,vs,rfl,hs,rv⟩:=rr.seq rfl
    exact .inr ⟨p,vs,rfl,x8 hs,fun m n=> fin (.lst n z (rv.cut _ _))⟩
  · rename_i xs e
    rw [e] at rr
    obtain ⟨p,vs,rfl,hs,rv⟩:=rr.seq rfl
    exact .inr ⟨p,vs,rfl,x8 hs,fun m n=> fin (.lst n z (rv.cut _ _))⟩
  · exact z.elim
abbrev X7:=A1→AH→(List RV→A1→AH→Prop)→Prop
inductive RvL (G:Gx) (env:A1) (h:AH) (σ:L2.St) (H:Hp):List RV→List V→Prop where
  | nil:RvL G env h σ H [] []
  | cons {r:RV} {rs:List RV} {v:V} {vs:List V}:RvRep G env h σ H r v→RvL G env h σ H rs vs→RvL G env h σ H (r::rs) (v::vs)
def cR (G:Gx) (t:X7):TA:=fun σ H Q=> ∃env h,BS G env h σ H∧t env h fun rs env' h'=> ∀vs H',BS G env' h' σ H'→Xt env h σ H env' h' H'→RvL G env' h' σ H' rs vs→Q vs H'
structure AR (X:Cx) (G:Gx) (es:List Expr) (t:X7):Prop where
  mono:B9 t
  pa:PA X es (cR G t)
def G9:X7:=fun env h Q=> Q [] env h
def F0 (t:AT) (u:X7):X7:=fun env h Q=> t env h fun r env' h'=> u env' h' fun rs env2 h2=> Q (r::rs) env2 h2
theorem H7:AR X G [] G9:=⟨fun env h Q Q' k q=> k _ _ _ q,PA.imp pa_nil fun σ H Q ⟨env,h,S,q⟩=> q [] H S .refl .nil⟩
theorem F4 {e:Expr} {es:List Expr} {t:AT} {u:X7} (a:AE X G e t) (b:AR X G es u) (hs:starEach (e::es) X.env=(false,eval e X.env)::starEach es X.env:=by rfl):AR X G (e::es) (F0 t u):=by
  refine ⟨fun env h Q Q' k q=> a.mono env h _ _ (fun r e g z=> b.mono e g _ _ (fun rs e2 g2 z2=> k _ _ _ z2) z) q,PA.imp (pa_cons a.pe b.pa hs) fun σ H Q ⟨env,h,S,q⟩=> ?_⟩
  refine ⟨env,h,S,a.mono env h _ _ (fun r env1 h1 z v H1 S1 x1 r1 f1=> ?_) q⟩
  refine ⟨env1,h1,S1,b.mono env1 h1 _ _ (fun rs env2 h2 z vs H2 S2 x2 r2=> ?_) z⟩
  exact z (v::vs) H2 S2 (x1.trans x2) (.cons (r1.xt S1 x2) r2)
inductive VRL (K:PySem.W.Frag) (H:Hp):List Vw→List V→Prop where
  | nil:VRL K H [] []
  | cons {a:Vw} {as:List Vw} {v:V} {vs:List V}:VR K H a v→VRL K H as vs→VRL K H (a::as) (v::vs)
theorem RvL.vrl {env:A1} {h:AH} {σ:L2.St} {H:Hp} (S:BS G env h σ H) {rs:List RV} {vs:List V} (r:RvL G env h σ H rs vs):VRL G.K H (rs.map (view env h)) vs:=by
  induction r with
  | nil=> exact .nil
  | cons a _ ih=> exact .cons (a.vr S) ih
abbrev M3:=List Vw→(RV→Prop)→Prop
structure CallA (K:PySem.W.Frag) (r:List V→Hp→VK→Prop) (o:M3):Prop where
  mono:∀as Q Q',(∀r,Q r→Q' r)→o as Q→o as Q'
  ok:∀as vs H Q0 Q,VRL K H as vs→o as Q0→(∀v H',OutR K H Q0 v H'→Q v H')→r vs H Q
def aCB (o:M3) (t:X7):AT:=fun env h Q=> t env h fun rs env1 h1=> o (rs.map (view env1 h1)) fun r=> Q r env1 h1
theorem CallA.or {K:PySem.W.Frag} {r r':List V→Hp→VK→Prop} {o o':M3} (a:CallA K r o) (b:CallA K r' o'):CallA K (fun vs H Q=> r vs H Q∨r' vs H Q) (fun as Q=> o as Q∨o' as Q):=
  ⟨fun as Q Q' k q=> q.imp (a.mono as Q Q' k) (b.mono as Q Q' k),fun as vs H Q0 Q r q k=> q.imp (fun z=> a.ok as vs H Q0 Q r z k) fun z=> b.ok as vs H Q0 Q r z k⟩
theorem CallA.as {K:PySem.W.Frag} {r:List V→Hp→VK→Prop} {o o':M3} (a:CallA K r o) (i:∀as Q,o' as Q→o as Q) (m:∀as Q Q',(∀r,Q r→Q' r)→o' as Q→o' as Q'):CallA K r o':=⟨m,fun as vs H Q0 Q r q k=> a.ok as vs H Q0 Q r (i _ _ q) k⟩
theorem B48 {r:List V→Hp→VK→Prop} {o:M3} {t:X7} (ca:CallA G.K r o) (m:B9 t) {σ:L2.St} {H:Hp} {Q:VK} (q:cE G (aCB o t) σ H Q):tCB r (cR G t) σ H Q:=by
  obtain ⟨env,h,S,q⟩:=q
  refine ⟨env,h,S,m env h _ _ (fun rs env1 h1 z vs H1 S1 x1 r1=> ?_) q⟩
  refine ca.ok _ _ _ _ _ (r1.vrl S1) z fun v H2 out=> ?_
  obtain ⟨res,q0,a,b,c,d⟩:=out.end S1 x1
  exact q0 v H2 a b c d
theorem aCB.mono {r:List V→Hp→VK→Prop} {o:M3} {t:X7} (ca:CallA G.K r o) (m:B9 t):B9 (aCB o t):=fun env h Q Q' k q=> m env h _ _ (fun rs e g z=> ca.mono _ _ _ (fun r q=> k _ _ _ q) z) q
theorem M0 {id:String} {x:Str} {e:Expr} {es:List Expr} {p:Pos} {r:List V→Hp→VK→Prop} {o:M3} {t:X7} (hc:CallR X (.builtin id) r) (ca:CallA G.K r o) (hg:Gl X x) (hm:X.mg x=none) (hv:bootBuiltins x=some (.builtin id)) (ha:AR X G (e::es) t)
    (hn:x≠"__name__":=by decide) (hdb:(x==("__debug__":Str))=false:=by decide) (he:starEach (e::es) X.env=(false,eval e X.env)::starEach es X.env:=by rfl) (hpl:(backTo pos (starEach es X.env)).any (·.1)=false:=by rfl):
    AE X G (.Call (.Name x p) (e::es) [] pos) (aCB o t):=
  ⟨aCB.mono ca ha.mono,PE.imp (pe_callB hc hg hm hv ha.pa hn hdb he hpl) fun _ _ _ q=> B48 ca ha.mono q⟩
theorem A04 {T:String} {x:Str} {e:Expr} {es:List Expr} {p:Pos} {r:List V→Hp→VK→Prop} {o:M3} {t:X7} (hc:CallR X (.type T) r) (ca:CallA G.K r o) (hg:Gl X x) (hm:X.mg x=none) (hv:bootBuiltins x=some (.type T)) (ha:AR X G (e::es) t)
    (hn:x≠"__name__":=by decide) (hdb:(x==("__debug__":Str))=false:=by decide) (he:starEach (e::es) X.env=(false,eval e X.env)::starEach es X.env:=by rfl) (hpl:(backTo pos (starEach es X.env)).any (·.1)=false:=by rfl):
    AE X G (.Call (.Name x p) (e::es) [] pos) (aCB o t):=
  ⟨aCB.mono ca ha.mono,PE.imp (pe_callTy hc hg hm hv ha.pa hn hdb he hpl) fun _ _ _ q=> B48 ca ha.mono q⟩
end
theorem VRL.one {K:PySem.W.Frag} {H:Hp} {a:Vw} {vs:List V} (r:VRL K H [a] vs):∃v,vs=[v]∧VR K H a v:=by
  cases r with
  | cons r t=> cases t;exact ⟨_,rfl,r⟩
theorem VRL.two {K:PySem.W.Frag} {H:Hp} {a b:Vw} {vs:List V} (r:VRL K H [a,b] vs):∃v u,vs=[v,u]∧VR K H a v∧VR K H b u:=by
  cases r with
  | cons r t=> obtain ⟨u,rfl,q⟩:=t.one;exact ⟨_,u,rfl,r,q⟩
def E5:M3:=fun as Q=> match as with
  | [.wv (.str x)]=> x.length≤sizeLine∧Q (.val (.int x.length))
  | [.wv .emp]=> Q (.val (.int 0))
  | [a]=> ∃xs,a.items=some xs∧Q (.val (.int xs.length))
  | _=> False
theorem R7 {K:PySem.W.Frag}:CallA K (fun xs H Q=> ∃x n,xs=[x]∧LenV K x H n∧Q (.int n) H) E5:=
  ⟨fun as Q Q' k q=> by
    unfold E5 at q ⊢
    split at q
    · exact ⟨q.1,k _ q.2⟩
    · exact k _ q
    · obtain ⟨xs,e,q⟩:=q;exact ⟨xs,e,k _ q⟩
    · exact q,fun as vs H Q0 Q r q k=> by
    unfold E5 at q
    split at q
    · obtain ⟨v,rfl,r1⟩:=r.one
      cases r1.str
      exact ⟨_,_,rfl,⟨q.1,rfl⟩,k _ _ (.val q.2 .int)⟩
    · obtain ⟨v,rfl,r1⟩:=r.one
      obtain ⟨a,rfl,e⟩:=Rep.of_emp (K:=K) (H:=H) r1
      exact ⟨_,0,rfl,.inr ⟨[],e.sq,rfl⟩,k _ _ (.val q .int)⟩
    · obtain ⟨v,rfl,r1⟩:=r.one
      obtain ⟨xs,e,q⟩:=q
      obtain ⟨p,us,rfl,hs,rv⟩:=r1.items e
      refine ⟨_,us.length,rfl,?_,k _ _ (.val q (by rw [rv.length];exact .int))⟩
      rcases hs with hs | hs
      · exact .inl ⟨us,x8 hs,rfl⟩
      · exact .inr ⟨us,hs,rfl⟩
    · exact q.elim⟩
def o2I (g:Int→Int→Int):M3:=fun as Q=> match as with
  | [.wv (.int i),.wv (.int j)]=> Q (.val (.int (g i j)))
  | _=> False
def o1I (g:Int→Int):M3:=fun as Q=> match as with
  | [.wv (.int i)]=> Q (.val (.int (g i)))
  | _=> False
def oInts (g:List Int→(RV→Prop)→Prop):M3:=fun as Q=> match as with
  | [a]=> ∃ns:List Int,a.seq=some (ns.map W.int)∧g ns Q
  | _=> False
theorem oInts.mono {g:List Int→(RV→Prop)→Prop} (m:∀ns Q Q',(∀r,Q r→Q' r)→g ns Q→g ns Q') (as:List Vw) (Q Q':RV→Prop) (k:∀r,Q r→Q' r) (q:oInts g as Q):oInts g as Q':=by
  unfold oInts at q ⊢
  split at q
  · obtain ⟨ns,e,q⟩:=q;exact ⟨ns,e,m _ _ _ k q⟩
  · exact q
theorem oInts.get {K:PySem.W.Frag} {H:Hp} {g:List Int→(RV→Prop)→Prop} {as:List Vw} {vs:List V} {Q:RV→Prop} (r:VRL K H as vs) (q:oInts g as Q):∃p ns,vs=[.ref p]∧SqL K H p (ns.map V.int)∧g ns Q:=by
  unfold oInts at q
  split at q
  · obtain ⟨v,rfl,r1⟩:=r.one
    obtain ⟨ns,e,q⟩:=q
    obtain ⟨p,us,rfl,hs,rv⟩:=r1.seq e
    rw [rv.of_ints] at hs
    exact ⟨p,ns,rfl,x8 hs,q⟩
  · exact q.elim
def oBls (g:List Bool→Bool):M3:=fun as Q=> match as with
  | [a]=> ∃bs:List Bool,a.seq=some (bs.map W.bl)∧Q (.val (.bl (g bs)))
  | _=> False
theorem oBls.mono {g:List Bool→Bool} (as:List Vw) (Q Q':RV→Prop) (k:∀r,Q r→Q' r) (q:oBls g as Q):oBls g as Q':=by
  unfold oBls at q ⊢
  split at q
  · obtain ⟨ns,e,q⟩:=q;exact ⟨ns,e,k _ q⟩
  · exact q
theorem oBls.get {K:PySem.W.Frag} {H:Hp} {g:List Bool→Bool} {as:List Vw} {vs:List V} {Q:RV→Prop} (r:VRL K H as vs) (q:oBls g as Q):∃p bs,vs=[.ref p]∧SqL K H p (bs.map V.bl)∧Q (.val (.bl (g bs))):=by
  unfold oBls at q
  split at q
  · obtain ⟨v,rfl,r1⟩:=r.one
    obtain ⟨ns,e,q⟩:=q
    obtain ⟨p,us,rfl,hs,rv⟩:=r1.seq e
    rw [rv.of_bls] at hs
    exact ⟨p,ns,rfl,x8 hs,q⟩
  · exact q.elim
theorem B6Q {K:PySem.W.Frag}:CallA K (rAny K) (oBls fun bs=> bs.any id):=
  ⟨oBls.mono,fun as vs H Q0 Q r q k=> by
    obtain ⟨p,ns,rfl,hs,q⟩:=oBls.get r q
    exact ⟨p,ns,rfl,hs,k _ _ (.val q .bl)⟩⟩
theorem B0j {K:PySem.W.Frag}:CallA K (rAll K) (oBls fun bs=> bs.all id):=
  ⟨oBls.mono,fun as vs H Q0 Q r q k=> by
    obtain ⟨p,ns,rfl,hs,q⟩:=oBls.get r q
    exact ⟨p,ns,rfl,hs,k _ _ (.val q .bl)⟩⟩
def Z5:M3:=fun as Q=> match as with
  | [a]=> ∃xs,a.items=some xs∧Q (.val (.tup xs))
  | _=> False
theorem B6L {K:PySem.W.Frag}:CallA K (fun xs H Q=> ∃p ys,xs=[.ref p]∧((SqL K H p ys∧∀l,H l=none→Q (.ref l) (upd H l (.tup ys)))∨(SqT K H p ys∧Q (.ref p) H))) Z5:=
  ⟨fun as Q Q' k q=> by
    unfold Z5 at q ⊢
    split at q
    · obtain ⟨xs,e,q⟩:=q;exact ⟨xs,e,k _ q⟩
    · exact q,fun as vs H Q0 Q r q k=> by
    unfold Z5 at q
    split at q
    · obtain ⟨v,rfl,r1⟩:=r.one
      obtain ⟨xs,e,q⟩:=q
      obtain ⟨p,us,rfl,hs,rv⟩:=r1.itemsT e
      refine ⟨p,us,rfl,?_⟩
      rcases hs with hs | hs
      · exact .inl ⟨x8 hs,fun l n=> k _ _ (.tup n q rv)⟩
      · exact .inr ⟨hs.sq,k _ _ (.val q (.tup hs rv))⟩
    · exact q.elim⟩
def O2:M3:=fun as Q=> match as with
  | [a]=> ∃xs,a.items=some xs∧Q (.own (.seq xs))
  | _=> False
theorem A3Y {K:PySem.W.Frag}:CallA K (fun xs H Q=> ∃p ys,xs=[.ref p]∧(SqL K H p ys∨SqT K H p ys)∧∀l,H l=none→Q (.ref l) (upd H l (.lst ys))) O2:=
  ⟨fun as Q Q' k q=> by
    unfold O2 at q ⊢
    split at q
    · obtain ⟨xs,e,q⟩:=q;exact ⟨xs,e,k _ q⟩
    · exact q,fun as vs H Q0 Q r q k=> by
    unfold O2 at q
    split at q
    · obtain ⟨v,rfl,r1⟩:=r.one
      obtain ⟨xs,e,q⟩:=q
      obtain ⟨p,us,rfl,hs,rv⟩:=r1.items e
      exact ⟨p,us,rfl,hs.imp_left x8,fun l n=> k _ _ (.lst n q rv)⟩
    · exact q.elim⟩
def W.tyName:W→Option String
  | .non=> some "NoneType"
  | .bl _=> some "bool"
  | .int _=> some "int"
  | .str _=> some "str"
  | .tup _=> some "tuple"
  | .lst _=> some "list"
  | _=> none
def Vw.tyName:Vw→Option String
  | .wv w=> w.tyName
  | .cv (.seq _)=> some "list"
  | _=> none
def A1z:String→String→Option Bool
  | "NoneType","bool"=> some false
  | "NoneType","int"=> some false
  | "NoneType","str"=> some false
  | "NoneType","tuple"=> some false
  | "NoneType","list"=> some false
  | "bool","bool"=> some true
  | "bool","int"=> some true
  | "bool","str"=> some false
  | "bool","tuple"=> some false
  | "bool","list"=> some false
  | "int","bool"=> some false
  | "int","int"=> some true
  | "int","str"=> some false
  | "int","tuple"=> some false
  | "int","list"=> some false
  | "str","bool"=> some false
  | "str","int"=> some false
  | "str","str"=> some true
  | "str","tuple"=> some false
  | "str","list"=> some false
  | "tuple","bool"=> some false
  | "tuple","int"=> some false
  | "tuple","str"=> some false
  | "tuple","tuple"=> some true
  | "tuple","list"=> some false
  | "list","bool"=> some false
  | "list","int"=> some false
  | "list","str"=> some false
  | "list","tuple"=> some false
  | "list","list"=> some true
  | _,_=> none
def G8:M3:=fun as Q=> match as with
  | [a,.wv (.ty T)]=> ∃n b,a.tyName=some n∧A1z n T=some b∧Q (.val (.bl b))
  | _=> False
theorem VR.tyX {K:PySem.W.Frag} {H:Hp}:∀{a:Vw} {v:V} {n:String},VR K H a v→a.tyName=some n→(∀ws,a≠ .wv (.tup ws))→TyX K H v (.type n)
  | .bad,_,_,_,e,_=> by cases e
  | .cv (.seq ws),_,_,r,e,_=> by cases e;obtain ⟨p,rfl,vs,l,_⟩:=r;exact .base (.lst l)
  | .cv (.map _),_,_,_,e,_=> by cases e
  | .wv .non,_,_,r,e,_=> by cases e;cases r.non;exact .base .non
  | .wv (.bl _),_,_,r,e,_=> by cases e;cases r.bl;exact .base (.bl _)
  | .wv (.int _),_,_,r,e,_=> by cases e;cases r.int;exact .base (.int _)
  | .wv (.str _),_,_,r,e,_=> by cases e;cases r.str;exact .base (.str _)
  | .wv (.tup ws),_,_,_,_,h=> absurd rfl (h ws)
  | .wv (.lst ws),_,_,r,e,_=> by cases e;obtain ⟨p,vs,rfl,⟨o,l⟩,_⟩:=Rep.of_lst (K:=K) (H:=H) r;exact .base (.frz l)
  | .wv (.dct _ _),_,_,_,e,_=> by cases e
  | .wv (.ref _),_,_,_,e,_=> by cases e
  | .wv (.ty _),_,_,_,e,_=> by cases e
  | .wv .emp,_,_,_,e,_=> by cases e
end Ab
namespace Ab
open PySem PySem.Spec PyProof.Rows L2
theorem C3a {K:PySem.W.Frag} {n T:String} {b:Bool} (h:A1z n T=some b):PySem.W.kitOne K (.type n) (.type T)=some b:=by
  unfold A1z at h
  split at h
  all_goals first
    | (cases h;exact kit_ty (by decide+kernel))
    | cases h
theorem C4g {K:PySem.W.Frag} {H:Hp} {a:Addr} {vs:List V} (h:SqT K H a vs):TyX K H (.ref a) (.type "tuple"):=by
  rcases h with (h | ⟨o,h⟩) | ⟨o,its,n,e,c,_⟩
  · exact .base (.tup h)
  · exact .fTuple h
  · exact .kTuple e c
theorem VR.ty {K:PySem.W.Frag} {H:Hp} {a:Vw} {v:V} {n:String} (r:VR K H a v) (e:a.tyName=some n):TyX K H v (.type n):=by
  by_cases h:∃ws,a= .wv (.tup ws)
  · obtain ⟨ws,rfl⟩:=h
    cases e
    obtain ⟨p,vs,rfl,s,_⟩:=Rep.of_tup (K:=K) (H:=H) r
    exact C4g s
  · exact r.tyX e fun ws z=> h ⟨ws,z⟩
theorem A0K {K:PySem.W.Frag}:CallA K (rIsi K) G8:=
  ⟨fun as Q Q' k q=> by
    unfold G8 at q ⊢
    split at q
    · obtain ⟨n,b,e,f,q⟩:=q;exact ⟨n,b,e,f,k _ q⟩
    · exact q,fun as vs H Q0 Q r q k=> by
    unfold G8 at q
    split at q
    · rename_i a T
      obtain ⟨v,u,rfl,r1,r2⟩:=r.two
      cases Rep.of_ty (K:=K) (H:=H) r2
      obtain ⟨n,b,e,f,q⟩:=q
      exact ⟨v,.ty T,.type n,.type T,b,rfl,ClsV.ty T,r1.ty e,C3a f,k _ _ (.val q .bl)⟩
    · exact q.elim⟩
end Ab
namespace Ab
open PySem PySem.Spec PyProof.Rows L2
structure HS (G:Gx) (h:AH) (H:Hp):Prop where
  hp:∀a o,h a=some o→ORep G.K H a o
  fr:∀p o,G.H0 p=some o→G.h0 p=none→NT o→H p=some o
  ext:∀a o,h a=some o→G.h0 a=none→G.H0 a=none
  tr:∀p o,G.H0 p=some o→∃u,H p=some u
  tabs:TabsK G.K H
theorem BS.hs {G:Gx} {env:A1} {h:AH} {σ:L2.St} {H:Hp} (S:BS G env h σ H):HS G h H:=⟨S.hp,S.fr,S.ext,S.tr,S.tabs⟩
def XRep (K:PySem.W.Frag) (H:Hp) (x:AExc) (cls:Value) (d:Option Addr):Prop:=cls= .ref (He.ga K x.n)∧∃dd vs,d=some dd∧H dd=some (.xd vs)∧FRep K H x.fs vs
inductive RR where
  | val (w:W) | own (c:Cont)
def B6k (G:Gx) (h:AH) (H:Hp):RR→V→Prop
  | .val w,v=> Rep G.K H w v
  | .own c,v=> ∃p,v= .ref p∧CRep G.K H p c∧h p=none∧G.H0 p=none
abbrev I9:=List W→AH→(RR→AH→Prop)→(AExc→AH→Prop)→Prop
def O9 (K:PySem.W.Frag) (n:Nat) (sp:I9):Sp:=fun vs H Q E=> ∃ws h Qa Ea,ws.length=n∧(∀a o,h a=some o→ORep K H a o)∧TabsK K H∧RepL K H ws vs∧sp ws h Qa Ea∧
  (∀r h' v H',Qa r h'→HS ⟨K,h,H⟩ h' H'→B6k ⟨K,h,H⟩ h' H' r v→Q v H')∧
  (∀x h' cls d H',Ea x h'→HS ⟨K,h,H⟩ h' H'→XRep K H' x cls d→E cls d H')
section
variable {G:Gx} {env:A1} {h1 h2:AH} {σ:L2.St} {H1 H2:Hp}
theorem BS.after (S:BS G env h1 σ H1) (c:HS ⟨G.K,h1,H1⟩ h2 H2):BS G env h2 σ H2∧Xt env h1 σ H1 env h2 H2:=by
  have kp:Keeps H1 H2:=fun p o e i=> c.fr p o e (S.imm e i).1 i.nt
  have x:Xt env h1 σ H1 env h2 H2:=by
    refine ⟨fun p o e n _ t=> c.fr p o e n t,fun p o e n=> c.ext p o e n,c.tr,fun i d e=> ⟨d,e⟩⟩
  refine ⟨⟨S.len,fun i w e=> ?_,fun i a e=> ?_,S.uni,c.hp,fun p o e n t=> ?_,fun a o e n=> ?_,fun p o e=> ?_,c.tabs⟩,x⟩
  · obtain ⟨v,a,b⟩:=S.val i w e;exact ⟨v,a,Rep.mono kp w v b⟩
  · obtain ⟨p,q,r,n,n0⟩:=S.own i a e
    obtain ⟨o,eo,_⟩:=r.there
    refine ⟨p,q,r.mono kp ((c.fr p o eo n (r.mu_at eo).nt).trans eo.symm),?_,n0⟩
    cases z:h2 p with
    | none=> rfl
    | some u=> have y:H1 p=none:=c.ext p u z n;rw [y] at eo;cases eo
  · have n1:h1 p=none:=by
      cases z:h1 p with
      | none=> rfl
      | some u=> have y:=S.ext p u z n;rw [y] at e;cases e
    exact c.fr p o (S.fr p o e n t) n1 t
  · cases z:h1 a with
    | some u=> exact S.ext a u z n
    | none=>
      have y:H1 a=none:=c.ext a o e z
      cases w:G.H0 a with
      | none=> rfl
      | some u=> obtain ⟨t,q⟩:=S.tr a u w;rw [y] at q;cases q
  · obtain ⟨u,q⟩:=S.tr p o e;exact c.tr p u q
end
def aCall (E:AExc→A1→AH→Prop) (sp:I9) (t:I6):AT:=fun env h Q=> t env h fun ws env1 h1=> sp ws h1 (fun r h2=> match r with
  | .val w=> Q (.val w) env1 h2
  | .own c=> Q (.own c) env1 h2) fun x h2=> E x env1 h2
def R0 (sp:I9):Prop:=∀ws h Q Q' E E',(∀r k,Q r k→Q' r k)→(∀x k,E x k→E' x k)→sp ws h Q E→sp ws h Q' E'
theorem aCall.mono {E:AExc→A1→AH→Prop} {sp:I9} {t:I6} (m:R0 sp) (n:B9 t):B9 (aCall E sp t):=fun env h Q Q' k q=> n env h _ _ (fun ws e g z=> m _ _ _ _ _ _ (fun r f y=> by
  cases r with
  | val w=> exact k _ _ _ y
  | own c=> exact k _ _ _ y) (fun x f y=> y) z) q
def cW (G:Gx) (E:AExc→A1→AH→Prop):WX:=fun cls d σ H=> ∃x env h,BS G env h σ H∧XRep G.K H x cls d∧E x env h
theorem r9 {X:Cx} {G:Gx}:Takes X (cW G fun _ _ _=> False):=takes0.imp fun _ _ _ _ ⟨_,_,_,_,_,z⟩=> z
section
variable {X:Cx} {G:Gx} {sp:I9} {k n:Nat} {f:Addr} {fd:FuncData} {ps:List Str} {x:Str} {p pos:Pos} {e:Expr} {es:List Expr} {t:I6} {E:AExc→A1→AH→Prop}
theorem C1G {σ:L2.St} {H:Hp} {Q:VK} (m:B9 t) (sm:R0 sp) (hn:∀env h (R:List W→A1→AH→Prop),t env h R→t env h fun ws e g=> ws.length=n∧R ws e g) (q:cE G (aCall E sp t) σ H Q):
    tCallS (O9 G.K n sp) (WE (cW G E)) (cA G t) σ H Q:=by
  obtain ⟨env,h,S,q⟩:=q
  refine ⟨env,h,S,m env h _ _ (fun ws env1 h1 ⟨hl,z⟩ vs H1 S1 x1 r1=> ?_) (hn _ _ _ q)⟩
  refine ⟨ws,h1,_,_,hl,S1.hp,S1.tabs,r1,z,fun r h' v H' y c rr=> ?_,fun x h' cls d H' y c xr=> ?_⟩
  · obtain ⟨S2,x2⟩:=S1.after c
    cases r with
    | val w=> exact y v H' S2 (x1.trans x2) rr trivial
    | own c0=>
      obtain ⟨p,e,cr,a,b⟩:=rr
      have nw:H1 p=none:=b
      obtain ⟨_,g0,no⟩:=S1.noAt nw
      exact y v H' S2 (x1.trans x2) ⟨p,e,cr,a,g0,no⟩ fun p' e'=> by
        rw [e] at e';cases e';exact x1.fresh nw
  · obtain ⟨S2,x2⟩:=S1.after c
    exact ⟨x,env1,h',S2,xr,y⟩
theorem C2s (F:FnOk X.prog X.w X.K X.mg X.base (L2.CX X.prog X.w) k f fd ps (O9 G.K n sp)) (sm:R0 sp) (hr:Room k X.A) (hg:Gl X x) (hm:X.mg x=some (.ref f)) (hk:PySem.W.keepIn X.K (.ref f)=true) (hb:Binds X.K fd ps []) (tk:Takes X (cW G E))
    (ha:AA X G (e::es) t) (hn:∀env h (R:List W→A1→AH→Prop),t env h R→t env h fun ws e g=> ws.length=n∧R ws e g)
    (hdb:(x==("__debug__":Str))=false:=by decide) (he:starEach (e::es) X.env=(false,eval e X.env)::starEach es X.env:=by rfl) (hpl:(backTo pos (starEach es X.env)).any (·.1)=false:=by rfl):
    AE X G (.Call (.Name x p) (e::es) [] pos) (aCall E sp t):=
  ⟨aCall.mono sm ha.mono,PE.imp (pe_callS F hr hg hm hk hb (fun σ=> passAt tk σ) ha.pa hdb he hpl) fun _ _ _ q=> C1G ha.mono sm hn q⟩
end
theorem C3P:∀env h (R:List W→A1→AH→Prop),aNil env h R→aNil env h fun ws e g=> ws.length=0∧R ws e g:=fun _ _ _ q=> ⟨rfl,q⟩
theorem C1m {t:D5} {u:I6} {n:Nat} (mt:B9 t) (hu:∀env h (R:List W→A1→AH→Prop),u env h R→u env h fun ws e g=> ws.length=n∧R ws e g) (mu:B9 u):
    ∀env h (R:List W→A1→AH→Prop),aCons t u env h R→aCons t u env h fun ws e g=> ws.length=n+1∧R ws e g:=fun env h R q=>
  mt env h _ _ (fun w e g z=> mu e g _ _ (fun ws e2 g2 ⟨y1,y2⟩=> ⟨by rw [List.length_cons,y1],y2⟩) (hu e g _ z)) q
structure AEnds where
  nx:A1→AH→Prop
  rt:RV→A1→AH→Prop
  bk:A1→AH→Prop:=fun _ _=> False
  ct:A1→AH→Prop:=fun _ _=> False
structure AEnds.Le (D D':AEnds):Prop where
  nx:∀e h,D.nx e h→D'.nx e h
  rt:∀r e h,D.rt r e h→D'.rt r e h
  bk:∀e h,D.bk e h→D'.bk e h
  ct:∀e h,D.ct e h→D'.ct e h
theorem AEnds.Le.refl (D:AEnds):D.Le D:=⟨fun _ _ q=> q,fun _ _ _ q=> q,fun _ _ q=> q,fun _ _ q=> q⟩
abbrev D1:=AEnds→A1→AH→Prop
def x9 (t:D1):Prop:=∀D D' env h,D.Le D'→t D env h→t D' env h
structure Link (G:Gx) (H0:Hp) (Da:AEnds) (D:Ends):Prop where
  nx:∀env h σ H,BS G env h σ H→Keeps H0 H→Da.nx env h→D.nx σ H
  rt:∀r env h σ H v,BS G env h σ H→Keeps H0 H→RvRep G env h σ H r v→Da.rt r env h→D.rt v H
  bk:∀env h σ H,BS G env h σ H→Keeps H0 H→Da.bk env h→D.bk σ H
  ct:∀env h σ H,BS G env h σ H→Keeps H0 H→Da.ct env h→D.ct σ H
theorem Link.from {G:Gx} {H H1:Hp} {Da:AEnds} {D:Ends} (l:Link G H Da D) (k:Keeps H H1):Link G H1 Da D:=
  ⟨fun e h σ H' S q=> l.nx e h σ H' S (k.trans q),fun r e h σ H' v S q=> l.rt r e h σ H' v S (k.trans q),fun e h σ H' S q=> l.bk e h σ H' S (k.trans q),fun e h σ H' S q=> l.ct e h σ H' S (k.trans q)⟩
def cS (G:Gx) (t:D1):TS:=fun D σ H=> ∃env h Da,BS G env h σ H∧t Da env h∧Link G H Da D
structure AS (X:Cx) (G:Gx) (st:Stmt) (t:D1):Prop where
  mono:x9 t
  ps:PS X st (cS G t)
structure ASs (X:Cx) (G:Gx) (st:List Stmt) (t:D1):Prop where
  mono:x9 t
  ps:PSs X st (cS G t)
def N5:D1:=fun D env h=> D.nx env h
def aSeq (t u:D1):D1:=fun D env h=> t { D with nx:=u D } env h
theorem aSeq.mono {t u:D1} (m:x9 t) (n:x9 u):x9 (aSeq t u):=fun D D' env h l q=> m { D with nx:=u D } { D' with nx:=u D' } env h ⟨fun e g z=> n D D' e g l z,l.rt,l.bk,l.ct⟩ q
section
variable {X:Cx} {G:Gx} {st:Stmt} {rest:List Stmt} {t u:D1} {e:Expr} {te:AT} {tv:D5} {pos:Pos}
theorem N6:ASs X G [] N5:=⟨fun D D' env h l q=> l.nx _ _ q,PSs.imp pss_nil fun D σ H ⟨env,h,Da,S,q,l⟩=> l.nx _ _ _ _ S (.refl _) q⟩
theorem D6 (a:AS X G st t) (b:ASs X G rest u):ASs X G (st::rest) (aSeq t u):=
  ⟨aSeq.mono a.mono b.mono,PSs.imp (pss_cons a.ps b.ps) fun D σ H ⟨env,h,Da,S,q,l⟩=> ⟨env,h,{ Da with nx:=u Da },S,q,⟨fun e g σ' H' S' y z=> ⟨e,g,Da,S',z,l.from y⟩,l.rt,l.bk,l.ct⟩⟩⟩
theorem D2 (a:AS X G st t):ASs X G [st] t:=⟨a.mono,pss_one a.ps⟩
def T1 (t:AT):D1:=fun D env h=> t env h fun _ env1 h1=> D.nx env1 h1
theorem Z1 (a:AE X G e te) (hs:swapsWith e none pos.line X.env=pure false:=by rfl):AS X G (.Expr e pos) (T1 te):=
  ⟨fun D D' env h l q=> a.mono env h _ _ (fun _ e g z=> l.nx _ _ z) q,PS.imp (ps_expr a.pe hs) fun D σ H ⟨env,h,Da,S,q,l⟩=> ⟨env,h,S,a.mono env h _ _ (fun r e g z v H1 S1 x1 _ _=> l.nx _ _ _ _ S1 (x1.keeps S) z) q⟩⟩
def I5 (t:AT):D1:=fun D env h=> t env h D.rt
theorem I8 (a:AE X G e te):AS X G (.Return (some e) pos) (I5 te):=
  ⟨fun D D' env h l q=> a.mono env h _ _ l.rt q,PS.imp (ps_ret a.pe) fun D σ H ⟨env,h,Da,S,q,l⟩=> ⟨env,h,S,a.mono env h _ _ (fun r e g z v H1 S1 x1 r1 _=> l.rt _ _ _ _ _ _ S1 (x1.keeps S) r1 z) q⟩⟩
def M4 (c:L8) (t u:D1):D1:=fun D env h=> c env h fun b env1 h1=> if b=true then t D env1 h1 else u D env1 h1
theorem N2 {c:Expr} {a b:List Stmt} {tc:L8} (hc:AP X G c tc) (ha:ASs X G a t) (hb:ASs X G b u):AS X G (.If c a b pos) (M4 tc t u):=by
  refine ⟨fun D D' env h l q=> hc.mono env h _ _ (fun d e g z=> ?_) q,PS.imp (ps_if hc.pt ha.ps hb.ps) fun D σ H ⟨env,h,Da,S,q,l⟩=> ⟨env,h,S,hc.mono env h _ _ (fun d e g z H1 S1 x1=> ?_) q⟩⟩
  · cases d with
    | true=> rw [if_pos rfl] at z ⊢;exact ha.mono _ _ _ _ l z
    | false=> rw [if_neg Bool.false_ne_true] at z ⊢;exact hb.mono _ _ _ _ l z
  · cases d with
    | true=> rw [if_pos rfl] at z ⊢;exact ⟨e,g,Da,S1,z,l.from (x1.keeps S)⟩
    | false=> rw [if_neg Bool.false_ne_true] at z ⊢;exact ⟨e,g,Da,S1,z,l.from (x1.keeps S)⟩
def aNs (t:AT):AT:=fun env h Q=> t env h fun r env' h'=> match r with
  | .slot i=> match env'[i]? with
    | some (some (.val w))=> Q (.val w) env' h'
    | some (some (.own c))=> Q (.val c.fz) (env'.set i (some (.val c.fz))) h'
    | _=> False
  | r=> Q r env' h'
def A3a:RV→Prop
  | .slot _=> False
  | _=> True
theorem aNs.mono (m:B9 te):B9 (aNs te):=fun env h Q Q' k q=> by
  refine m env h _ _ (fun r e g z=> ?_) q
  cases r with
  | val w=> exact k _ _ _ z
  | own c=> exact k _ _ _ z
  | slot i=>
    show match e[i]? with
      | some (some (.val w))=> Q' (.val w) e g
      | some (some (.own c))=> Q' (.val c.fz) (e.set i (some (.val c.fz))) g
      | _=> False
    have z:match e[i]? with
      | some (some (.val w))=> Q (.val w) e g
      | some (some (.own c))=> Q (.val c.fz) (e.set i (some (.val c.fz))) g
      | _=> False:=z
    split at z
    · exact k _ _ _ z
    · exact k _ _ _ z
    · exact z
def cN (G:Gx) (t:AT):TE:=fun σ H Q=> ∃env h,BS G env h σ H∧t env h fun r env' h'=> ∀v H',BS G env' h' σ H'→Xt env h σ H env' h' H'→RvRep G env' h' σ H' r v→R3 H r v→A3a r→Q v H'
theorem C5B (a:AE X G e te):PE X e (cN G (aNs te)):=by
  refine ⟨fun pins s σ H Q I ⟨env,h,S,q⟩=> ?_⟩
  refine thn (a.pe.run pins s σ H (fun v H1=> ∃r env' h',BS G env' h' σ H1∧Xt env h σ H env' h' H1∧RvRep G env' h' σ H1 r v∧R3 H r v∧match r with
    | .slot i=> match env'[i]? with
      | some (some (.val w))=> ∀v H',BS G env' h' σ H'→Xt env h σ H env' h' H'→RvRep G env' h' σ H' (.val w) v→R3 H (.val w) v→A3a (.val w)→Q v H'
      | some (some (.own c))=> ∀v H',BS G (env'.set i (some (.val c.fz))) h' σ H'→Xt env h σ H (env'.set i (some (.val c.fz))) h' H'→RvRep G (env'.set i (some (.val c.fz))) h' σ H' (.val c.fz) v→R3 H (.val c.fz) v→A3a (.val c.fz)→Q v H'
      | _=> False
    | r=> ∀v H',BS G env' h' σ H'→Xt env h σ H env' h' H'→RvRep G env' h' σ H' r v→R3 H r v→A3a r→Q v H') I ⟨env,h,S,a.mono env h _ _ (fun r env' h' z v H1 S1 x1 r1 f1=> ⟨r,env',h',S1,x1,r1,f1,z⟩) q⟩) fun v s1 ⟨x,H1,I1,r1,r,env',h',S1,x1,rr,f1,z⟩=> ?_
  cases r with
  | val w=> exact ⟨x,H1,I1,r1,z x H1 S1 x1 rr f1 trivial⟩
  | own c=> exact ⟨x,H1,I1,r1,z x H1 S1 x1 rr f1 trivial⟩
  | slot i=>
    have es:σ[i]? =some (some x):=rr
    have z:match env'[i]? with
      | some (some (.val w))=> ∀v H',BS G env' h' σ H'→Xt env h σ H env' h' H'→RvRep G env' h' σ H' (.val w) v→R3 H (.val w) v→A3a (.val w)→Q v H'
      | some (some (.own c))=> ∀v H',BS G (env'.set i (some (.val c.fz))) h' σ H'→Xt env h σ H (env'.set i (some (.val c.fz))) h' H'→RvRep G (env'.set i (some (.val c.fz))) h' σ H' (.val c.fz) v→R3 H (.val c.fz) v→A3a (.val c.fz)→Q v H'
      | _=> False:=z
    split at z
    · rename_i w e
      obtain ⟨u,e3,r⟩:=S1.val i w e
      rw [es] at e3;cases e3
      exact ⟨x,H1,I1,r1,z x H1 S1 x1 r trivial trivial⟩
    · rename_i c e
      obtain ⟨p,H2,ep,I2,S2,x2,r2⟩:=A9x S1 x1 I1 e
      rw [es] at ep;cases ep
      exact ⟨_,H2,I2,r1,z _ H2 S2 x2 r2 trivial trivial⟩
    · exact z.elim
def RV.sv:RV→SV
  | .val w=> .val w
  | .own c=> .own c
  | .slot _=> .val .non
theorem BS.set {env:A1} {h:AH} {σ:L2.St} {H:Hp} (S:BS G env h σ H) {r:RV} {v:V} (i:Nat) (rr:RvRep G env h σ H r v) (ns:A3a r):BS G (env.set i (some r.sv)) h (σ.set i (some v)) H:=by
  have at_:∀(j:Nat) (sv:SV),(env.set i (some r.sv))[j]? =some (some sv)→(j=i∧sv=r.sv∧(σ.set i (some v))[j]? =some (some v))∨(j≠i∧env[j]? =some (some sv)∧(σ.set i (some v))[j]? =σ[j]?):=fun j sv e=> by
    by_cases hj:j=i
    · subst hj
      have hl:j < env.length:=by
        cases Nat.lt_or_ge j env.length with
        | inl z=> exact z
        | inr z=> rw [List.getElem?_eq_none (by rw [List.length_set];exact z)] at e;cases e
      rw [List.getElem?_set_self hl] at e
      exact .inl ⟨rfl,by injection e with e;injection e with e;exact e.symm,List.getElem?_set_self (by rw [←S.len];exact hl)⟩
    · rw [List.getElem?_set_ne (Ne.symm hj)] at e
      exact .inr ⟨hj,e,List.getElem?_set_ne (Ne.symm hj)⟩
  refine ⟨by rw [List.length_set,List.length_set];exact S.len,fun j w e=> ?_,fun j c e=> ?_,fun j k c c' p e1 e2 f1 f2=> ?_,S.hp,S.fr,S.ext,S.tr,S.tabs⟩
  · rcases at_ j _ e with ⟨rfl,z,y⟩ | ⟨_,z,y⟩
    · cases r with
      | val w'=> cases z;exact ⟨v,y,rr⟩
      | own c=> cases z
      | slot _=> exact ns.elim
    · obtain ⟨u,a,b⟩:=S.val j w z;exact ⟨u,y.trans a,b⟩
  · rcases at_ j _ e with ⟨rfl,z,y⟩ | ⟨_,z,y⟩
    · cases r with
      | val w'=> cases z
      | own c'=> cases z;obtain ⟨p,rfl,a,b,d,_⟩:=rr;exact ⟨p,y,a,b,d⟩
      | slot _=> exact ns.elim
    · obtain ⟨p,a,b⟩:=S.own j c z;exact ⟨p,y.trans a,b⟩
  · have other:∀(m:Nat) (d:Cont),env[m]? =some (some (SV.own d))→σ[m]? =some (some (V.ref p))→r.sv= .own c∨r.sv= .own c'→v= .ref p→False:=fun m d a b z y=> by
      cases r with
      | val w=> rcases z with z | z <;> cases z
      | slot _=> exact ns
      | own c0=> obtain ⟨q,e,_,_,_,no⟩:=rr;rw [e] at y;cases y;exact no ⟨m,d,a,b⟩
    rcases at_ j _ e1 with ⟨j1,z1,y1⟩ | ⟨j1,z1,y1⟩
    · rcases at_ k _ e2 with ⟨k1,z2,y2⟩ | ⟨k1,z2,y2⟩
      · rw [j1,k1]
      · rw [y1] at f1;injection f1 with f1;injection f1 with f1
        rw [y2] at f2
        exact (other k c' z2 f2 (.inl z1.symm) f1).elim
    · rcases at_ k _ e2 with ⟨k1,z2,y2⟩ | ⟨k1,z2,y2⟩
      · rw [y2] at f2;injection f2 with f2;injection f2 with f2
        rw [y1] at f1
        exact (other j c z1 f1 (.inr z2.symm) f2).elim
      · rw [y1] at f1;rw [y2] at f2
        exact S.uni j k c c' p z1 z2 f1 f2
def A2r (i:Nat) (t:AT):D1:=fun D env h=> aNs t env h fun r env1 h1=> D.nx (env1.set i (some r.sv)) h1
theorem A4H {i:Nat} {x:Str} {pos':Pos} (hN:X.N.Nodup) (hi:X.N[i]? =some x) (hx:Loc X.env.scope x) (a:AE X G e te) (hs:swapsWith e (some (.Name x pos')) pos.line X.env=pure false:=by rfl) (hf:X.fn x=true∨X.env.scope.names.lookup x=some .local:=by first | exact .inl rfl | exact .inr rfl | assumption):
    AS X G (.Assign [.Name x pos'] e pos) (A2r i te):=by
  refine ⟨fun D D' env h l q=> aNs.mono a.mono env h _ _ (fun _ e g z=> l.nx _ _ z) q,PS.imp (ps_set hN hi hx (C5B a) hs hf) fun D σ H ⟨env,h,Da,S,q,l⟩=> ?_⟩
  exact ⟨env,h,S,aNs.mono a.mono env h _ _ (fun r e g z v H1 S1 x1 r1 _ ns=> l.nx _ _ _ _ (S1.set i r1 ns) (x1.keeps S) z) q⟩
end
end Ab
namespace Ab
open PySem PySem.Spec PyProof.Rows L2
abbrev K5:=W→A1→AH→(A1→AH→Prop)→Prop
abbrev A1x:=List W→A1→AH→(A1→AH→Prop)→Prop
def s9 {α:Type} (g:α→A1→AH→(A1→AH→Prop)→Prop):Prop:=∀w env h Q Q',(∀e k,Q e k→Q' e k)→g w env h Q→g w env h Q'
def But (sl:List Nat) (σ σ':L2.St):Prop:=σ'.length=σ.length∧∀i:Nat,i∉sl→σ'[i]? =σ[i]?
theorem But.refl {sl:List Nat} (σ:L2.St):But sl σ σ:=⟨rfl,fun _ _=> rfl⟩
theorem But.trans {sl sl':List Nat} {σ σ1 σ2:L2.St} (a:But sl σ σ1) (b:But sl' σ1 σ2):But (sl++sl') σ σ2:=
  ⟨b.1.trans a.1,fun i hi=> (b.2 i fun z=> hi (List.mem_append_right _ z)).trans (a.2 i fun z=> hi (List.mem_append_left _ z))⟩
structure Xg (sl:List Nat) (env:A1) (h:AH) (σ:L2.St) (H:Hp) (env':A1) (h':AH) (σ':L2.St) (H':Hp):Prop where
  fr:∀p o,H p=some o→h p=none→¬OwnAt env σ p→NT o→H' p=some o
  hn:∀p o,h' p=some o→h p=none→H p=none
  th:∀p o,H p=some o→∃o',H' p=some o'
  ow:∀p,OwnAt env' σ' p→OwnAt env σ p
  so:∀(i:Nat) (c':Cont),env'[i]? =some (some (SV.own c'))→∃c,env[i]? =some (some (SV.own c))
  bt:But sl σ σ'
theorem Xg.keeps {sl:List Nat} {G:Gx} {env env':A1} {h h':AH} {σ σ':L2.St} {H H':Hp} (x:Xg sl env h σ H env' h' σ' H') (S:BS G env h σ H):Keeps H H':=fun p o e i=> x.fr p o e (S.imm e i).1 (S.imm e i).2 i.nt
theorem Xg.refl {sl:List Nat} {env:A1} {h:AH} {σ:L2.St} {H:Hp}:Xg sl env h σ H env h σ H:=⟨fun _ _ e _ _ _=> e,fun p o e n=> (by rw [n] at e;cases e),fun _ o e=> ⟨o,e⟩,fun _ q=> q,fun i c e=> ⟨c,e⟩,.refl σ⟩
theorem Xg.trans {sl sl':List Nat} {env env1 env2:A1} {h h1 h2:AH} {σ σ1 σ2:L2.St} {H H1 H2:Hp} (a:Xg sl env h σ H env1 h1 σ1 H1) (b:Xg sl' env1 h1 σ1 H1 env2 h2 σ2 H2):Xg (sl++sl') env h σ H env2 h2 σ2 H2:=by
  refine ⟨fun p o e n w t=> ?_,fun p o e n=> ?_,fun p o e=> ?_,fun p q=> a.ow p (b.ow p q),fun i c e=> ?_,a.bt.trans b.bt⟩
  · refine b.fr p o (a.fr p o e n w t) ?_ (fun q=> w (a.ow p q)) t
    cases q:h1 p with
    | none=> rfl
    | some u=> rw [a.hn p u q n] at e;cases e
  · cases q:h1 p with
    | some u=> exact a.hn p u q n
    | none=>
      have z:=b.hn p o e q
      cases q2:H p with
      | none=> rfl
      | some u=> obtain ⟨o',e'⟩:=a.th p u q2;rw [z] at e';cases e'
  · obtain ⟨o',e'⟩:=a.th p o e;exact b.th p o' e'
  · obtain ⟨c1,z⟩:=b.so i c e
    exact a.so i c1 z
theorem Xt.xg {env env':A1} {h h':AH} {σ:L2.St} {H H':Hp} (x:Xt env h σ H env' h' H'):Xg [] env h σ H env' h' σ H':=
  ⟨x.fr,x.hn,x.th,fun _ q=> x.own q,x.sl,.refl σ⟩
def cG (G:Gx) (sl:List Nat) (g:K5):TG:=fun v σ H Q=> ∃w env h,Rep G.K H w v∧BS G env h σ H∧g w env h fun env' h'=> ∀σ' H',BS G env' h' σ' H'→Xg sl env h σ H env' h' σ' H'→Q σ' H'
def cGs (G:Gx) (sl:List Nat) (g:A1x):TGs:=fun vs σ H Q=> ∃ws env h,RepL G.K H ws vs∧BS G env h σ H∧g ws env h fun env' h'=> ∀σ' H',BS G env' h' σ' H'→Xg sl env h σ H env' h' σ' H'→Q σ' H'
structure AG (X:Cx) (G:Gx) (tg:Expr) (sl:List Nat) (g:K5):Prop where
  mono:s9 g
  pg:PG X tg (cG G sl g)
structure AGs (X:Cx) (G:Gx) (tg:List Expr) (sl:List Nat) (g:A1x):Prop where
  mono:s9 g
  pg:PGs X tg (cGs G sl g)
theorem PG.imp {X:Cx} {e:Expr} {t t':TG} (h:PG X e t) (i:∀v σ H Q,t' v σ H Q→t v σ H Q):PG X e t':=⟨fun pins s σ H v u Q I r q=> h.run pins s σ H v u Q I r (i _ _ _ _ q)⟩
theorem PGs.imp {X:Cx} {e:List Expr} {t t':TGs} (h:PGs X e t) (i:∀v σ H Q,t' v σ H Q→t v σ H Q):PGs X e t':=⟨fun pins s σ H v u Q I r q=> h.run pins s σ H v u Q I r (i _ _ _ _ q)⟩
section
variable {X:Cx} {G:Gx} {pos:Pos} {x:Str}
def K4 (i:Nat):K5:=fun w env h Q=> Q (env.set i (some (.val w))) h
theorem K9 {i:Nat} (hN:X.N.Nodup) (hi:X.N[i]? =some x) (hx:Loc X.env.scope x) (hf:X.fn x=true∨X.env.scope.names.lookup x=some .local:=by first | exact .inl rfl | exact .inr rfl | assumption):AG X G (.Name x pos) [i] (K4 i):=by
  refine ⟨fun w env h Q Q' k q=> k _ _ q,PG.imp (pg_name hN hi hx hf) fun v σ H Q ⟨w,env,h,r,S,q⟩=> ?_⟩
  have ne:∀{j:Nat},j∉[i]→i≠j:=fun hj z=> hj (by simp [z])
  refine q _ H (S.set (r:= .val w) i r trivial) ⟨fun _ _ e _ _ _=> e,fun p o e n=> (by rw [n] at e;cases e),fun _ o e=> ⟨o,e⟩,fun p ⟨j,c,e1,e2⟩=> ?_,fun j c e1=> ?_,List.length_set,fun j hj=> List.getElem?_set_ne (ne hj)⟩
  · by_cases hj:i=j
    · subst hj
      have hl:i < env.length:=by
        have:=(List.getElem?_eq_some_iff.mp e1).1
        rwa [List.length_set] at this
      rw [List.getElem?_set_self hl] at e1
      cases e1
    · rw [List.getElem?_set_ne hj] at e1 e2
      exact ⟨j,c,e1,e2⟩
  · by_cases hj:i=j
    · subst hj
      have hl:i < env.length:=by
        have:=(List.getElem?_eq_some_iff.mp e1).1
        rwa [List.length_set] at this
      rw [List.getElem?_set_self hl] at e1
      cases e1
    · rw [List.getElem?_set_ne hj] at e1
      exact ⟨c,e1⟩
def A4V:A1x:=fun ws env h Q=> ws=[]∧Q env h
def A0E (t:K5) (u:A1x):A1x:=fun ws env h Q=> ∃w r,ws=w::r∧t w env h fun env' h'=> u r env' h' Q
theorem A8D:AGs X G [] [] A4V:=⟨fun w env h Q Q' k q=> ⟨q.1,k _ _ q.2⟩,PGs.imp pgs_nil fun v σ H Q ⟨ws,env,h,r,S,e,q⟩=> by
  subst e
  exact ⟨r.of_nil,q σ H S .refl⟩⟩
theorem A2M {e:Expr} {es:List Expr} {t:K5} {u:A1x} {sl sl':List Nat} (a:AG X G e sl t) (b:AGs X G es sl' u) (hs:(assignEach (e::es) X.env).map (·.2)=assign e X.env::(assignEach es X.env).map (·.2):=by rfl):AGs X G (e::es) (sl++sl') (A0E t u):=by
  refine ⟨fun w env h Q Q' k ⟨x,r,e,q⟩=> ⟨x,r,e,a.mono _ _ _ _ _ (fun e g z=> b.mono _ _ _ _ _ k z) q⟩,PGs.imp (pgs_cons a.pg b.pg hs) fun v σ H Q ⟨ws,env,h,r,S,w,rs,e,q⟩=> ?_⟩
  subst e
  obtain ⟨v0,vr,rfl,r0,rr⟩:=r.of_cons
  refine ⟨v0,vr,rfl,w,env,h,r0,S,a.mono _ _ _ _ _ (fun env1 h1 z σ1 H1 S1 x1=> ?_) q⟩
  exact ⟨rs,env1,h1,RepL.mono (x1.keeps S) _ _ rr,S1,b.mono _ _ _ _ _ (fun env2 h2 z2 σ2 H2 S2 x2=> z2 σ2 H2 S2 (x1.trans x2)) z⟩
def gTp (n:Nat) (u:A1x):K5:=fun w env h Q=> match w with
  | .tup ws=> ws.length=n∧u ws env h Q
  | _=> False
theorem A8b {es:List Expr} {k n:Nat} {u:A1x} {sl:List Nat} (gk:G.K=X.K) (hc:X.calm=true) (b:AGs X G es sl u)
    (hn:(assignEach es X.env).length=n:=by rfl) (hst:(assignEach es X.env).findIdx? (·.1)=none:=by rfl):AG X G (.Tuple es k pos) sl (gTp n u):=by
  refine ⟨fun w env h Q Q' k q=> ?_,PG.imp (pg_tup hc b.pg hn hst) fun v σ H Q ⟨w,env,h,r,S,q⟩=> ?_⟩
  · unfold gTp at q ⊢
    split at q
    · exact ⟨q.1,b.mono _ _ _ _ _ k q.2⟩
    · exact q
  · unfold gTp at q
    split at q
    · obtain ⟨a,vs,rfl,s,r⟩:=Rep.of_tup r
      exact ⟨a,vs,rfl,gk▸s,r.length.symm.trans q.1,_,env,h,r,S,q.2⟩
    · exact q.elim
end
abbrev X6:=A1→AH→(List W→A1→AH→Prop)→Prop
def A2i (K:PySem.W.Frag) (J:It) (H1:Hp) (ws:List W):Prop:=∀H,Keeps H1 H→∀i:Nat,(ws.length≤i→J.stop i H)∧∀w,ws[i]? =some w→J.go i H∧∀x H',J.yld i H x H'→New H H'∧Rep K H' w x
def cI (G:Gx) (t:X6):TI:=fun σ H R=> ∃env h,BS G env h σ H∧t env h fun ws env' h'=> ∀J H',BS G env' h' σ H'→Xt env h σ H env' h' H'→A2i G.K J H' ws→R J H'
structure AI (X:Cx) (G:Gx) (tg iter:Expr) (t:X6):Prop where
  mono:B9 t
  pi:PI X tg iter (cI G t)
theorem PI.imp {X:Cx} {tg e:Expr} {t t':TI} (h:PI X tg e t) (i:∀σ H R,t' σ H R→t σ H R):PI X tg e t':=⟨fun pins s σ H R I q=> h.run pins s σ H R I (i _ _ _ q)⟩
section
variable {X:Cx} {G:Gx} {tg e:Expr} {pos:Pos} {x:Str}
def iLst (t:D5):X6:=fun env h Q=> t env h fun w env' h'=> match w with
  | .lst ws=> Q ws env' h'
  | _=> False
def iTpl (t:D5):X6:=fun env h Q=> t env h fun w env' h'=> match w with
  | .tup ws=> Q ws env' h'
  | _=> False
theorem iLst.mono {t:D5} (m:B9 t):B9 (iLst t):=fun env h Q Q' k q=> m env h _ _ (fun w e g z=> by
  cases w <;> first | exact k _ _ _ z | exact z) q
theorem iTpl.mono {t:D5} (m:B9 t):B9 (iTpl t):=fun env h Q Q' k q=> m env h _ _ (fun w e g z=> by
  cases w <;> first | exact k _ _ _ z | exact z) q
theorem B3V {K:PySem.W.Frag} {H:Hp} {a:Addr} {ws:List W} {vs:List V} (l:LsF H a vs) (r:RepL K H ws vs):A2i K (Itl K a) H ws:=fun H' k i=> by
  have l':=(k.lsF l).sq (K:=K)
  have r':=RepL.mono k _ _ r
  refine ⟨fun h=> ⟨vs,l',by rw [←r'.length];exact h⟩,fun w e=> ?_⟩
  obtain ⟨v,ev,rv⟩:=r'.get e
  exact ⟨⟨vs,v,l',ev⟩,fun x H2 ⟨e1,q⟩=> by
    subst e1
    have z:=q vs l'
    rw [ev] at z;cases z
    exact ⟨.refl _,rv⟩⟩
theorem B3m {K:PySem.W.Frag} {H:Hp} {a:Addr} {ws:List W} {vs:List V} (l:SqT K H a vs) (r:RepL K H ws vs):A2i K (Itt K a) H ws:=fun H' k i=> by
  have l':=k.sqT l
  have r':=RepL.mono k _ _ r
  refine ⟨fun h=> ⟨vs,l',by rw [←r'.length];exact h⟩,fun w e=> ?_⟩
  obtain ⟨v,ev,rv⟩:=r'.get e
  exact ⟨⟨vs,v,l',ev⟩,fun x H2 ⟨e1,q⟩=> by
    subst e1
    have z:=q vs l'
    rw [ev] at z;cases z
    exact ⟨.refl _,rv⟩⟩
theorem PI.or {t u:TI} (a:PI X tg e t) (b:PI X tg e u):PI X tg e (fun σ H R=> t σ H R∨u σ H R):=⟨fun pins s σ H R I q=> q.elim (fun z=> a.run pins s σ H R I z) fun z=> b.run pins s σ H R I z⟩
def R9 (lo:Int) (n:Nat):List W:=(List.range n).map fun (i:Nat)=> W.int (lo+i)
theorem B9p {K:PySem.W.Frag} {H:Hp} {lo:Int} {n:Nat}:A2i K (Itr lo n) H (R9 lo n):=fun H' k i=> by
  have hl:(R9 lo n).length=n:=by simp [R9]
  refine ⟨fun h=> (show n≤i by omega),fun w e=> ?_⟩
  unfold R9 at e
  rw [List.getElem?_map] at e
  cases q:(List.range n)[i]? with
  | none=> rw [q] at e;cases e
  | some j=>
    rw [q] at e
    obtain ⟨hi,ej⟩:=List.getElem?_eq_some_iff.mp q
    rw [List.getElem_range] at ej
    subst ej
    cases e
    rw [List.length_range] at hi
    exact ⟨hi,fun x H2 ⟨e1,e2⟩=> by subst e1;subst e2;exact ⟨.refl _,.int⟩⟩
def A2n (t:X7):X6:=fun env h Q=> t env h fun rs env' h'=> match rs.map (view env' h') with
  | [.wv (.int j)]=> -(2 ^ 62)≤j∧j < 2 ^ 62∧Q (R9 0 j.toNat) env' h'
  | _=> False
theorem A31 {a:Expr} {ta:X7} {p:Pos} (hg:Gl X "range") (hm:X.mg "range"=none) (ha:AR X G [a] ta) (hs:starEach [a] X.env=[(false,eval a X.env)]:=by rfl):AI X G tg (.Call (.Name "range" p) [a] [] pos) (A2n ta):=by
  refine ⟨fun env h Q Q' k q=> ha.mono env h _ _ (fun rs e g z=> ?_) q,PI.imp (pi_range1 hg hm ha.pa hs) fun σ H R ⟨env,h,S,q⟩=> ?_⟩
  · split at z
    · exact ⟨z.1,z.2.1,k _ _ _ z.2.2⟩
    · exact z
  · refine ⟨env,h,S,ha.mono env h _ _ (fun rs env1 h1 z vs H1 S1 x1 r1=> ?_) q⟩
    have rr:=r1.vrl S1
    split at z
    · rename_i j e
      rw [e] at rr
      obtain ⟨v,rfl,rv⟩:=rr.one
      cases rv.int
      exact ⟨j,rfl,z.1,z.2.1,z.2.2 _ H1 S1 x1 B9p⟩
    · exact z.elim
end
def aLoop (g:K5) (tb:D1) (D:AEnds):List W→A1→AH→Prop
  | []=> D.nx
  | w::ws=> fun env h=> g w env h fun env1 h1=> tb { D with nx:=aLoop g tb D ws,ct:=aLoop g tb D ws,bk:=D.nx } env1 h1
def A1y (ti:X6) (g:K5) (tb:D1):D1:=fun D env h=> ti env h fun ws env1 h1=> aLoop g tb D ws env1 h1
theorem aLoop.mono {g:K5} {tb:D1} (mg:s9 g) (mt:x9 tb) {D D':AEnds} (l:D.Le D'):∀(ws:List W) env h,aLoop g tb D ws env h→aLoop g tb D' ws env h
  | [],env,h,q=> l.nx _ _ q
  | w::ws,env,h,q=> mg w env h _ _ (fun e k z=> mt { D with nx:=aLoop g tb D ws,ct:=aLoop g tb D ws,bk:=D.nx } { D' with nx:=aLoop g tb D' ws,ct:=aLoop g tb D' ws,bk:=D'.nx } e k ⟨aLoop.mono mg mt l ws,l.rt,l.nx,aLoop.mono mg mt l ws⟩ z) q
section
variable {X:Cx} {G:Gx} {tg iter:Expr} {body:List Stmt} {pos:Pos}
theorem A3f {ti:X6} {g:K5} {tb:D1} {sl:List Nat} (hp:PassesOwn (model X.prog X.w) X.A X.env X.xe) (hc:X.calm=true) (hi:AI X G tg iter ti) (hg:AG X G tg sl g) (hb:ASs X G body tb)
    (hs:∀x,foldedSetIterable iter X.env x=pure x:=by intro _;rfl):AS X G (.For tg iter body [] pos) (A1y ti g tb):=by
  refine ⟨fun D D' env h l q=> hi.mono env h _ _ (fun ws e k z=> aLoop.mono hg.mono hb.mono l ws e k z) q,PS.imp (ps_for hp hc hi.pi hg.pg hb.ps hs) fun D σ H ⟨env,h,Da,S,q,l⟩=> ?_⟩
  refine ⟨env,h,S,hi.mono env h _ _ (fun ws env1 h1 z J H1 S1 x1 gv=> ?_) q⟩
  have kp:=x1.keeps S
  refine ⟨fun i m σ' H'=> ws.length≤i+m∧Keeps H1 H'∧∃e k,BS G e k σ' H'∧aLoop g tb Da (ws.drop i) e k,⟨ws.length,by omega,.refl H1,env1,h1,S1,by simpa using z⟩,?_⟩
  rintro i m σ2 H2 ⟨hm,k2,e2,g2,S2,z2⟩
  have gi:=gv H2 k2 i
  cases e:ws[i]? with
  | none=>
    have hl:=List.getElem?_eq_none_iff.mp e
    rw [List.drop_eq_nil_of_le hl] at z2
    exact .inl ⟨gi.1 hl,l.nx _ _ _ _ S2 (kp.trans k2) z2⟩
  | some w=>
    obtain ⟨hl,ew⟩:=List.getElem?_eq_some_iff.mp e
    have ed:ws.drop i=w::ws.drop (i+1):=by rw [List.drop_eq_getElem_cons hl,ew]
    rw [ed] at z2
    obtain ⟨go,yl⟩:=gi.2 w e
    refine .inr ⟨go,fun σ' H'=> Keeps H1 H'∧∃e k,BS G e k σ' H'∧aLoop g tb Da (ws.drop (i+1)) e k,fun σ' H' n=> ⟨m - 1,by omega,by omega,n.1,n.2⟩,fun x H3 y=> ?_⟩
    obtain ⟨nw,rx⟩:=yl x H3 y
    have k3:=k2.trans nw.keeps
    refine ⟨w,e2,g2,rx,nw.bs S2,hg.mono w e2 g2 _ _ (fun e4 g4 z4 σ4 H4 S4 x4=> ?_) z2⟩
    have k4:=x4.keeps (nw.bs S2)
    refine ⟨e4,g4,_,S4,z4,⟨fun e k σ H S' kk y=> ⟨(k3.trans k4).trans kk,e,k,S',y⟩,fun r e k σ H v S' kk=> l.rt r e k σ H v S' (kp.trans ((k3.trans k4).trans kk)),fun e k σ H S' kk=> l.nx e k σ H S' (kp.trans ((k3.trans k4).trans kk)),fun e k σ H S' kk y=> ⟨(k3.trans k4).trans kk,e,k,S',y⟩⟩⟩
end
end Ab
namespace Ab
open PySem PySem.Spec PyProof.Rows L2
def P8 (env:A1):List Nat→A1
  | []=> env
  | v::vs=> (P8 env vs).set v none
def C5I:Option (Option SV)→Option SV
  | some (some (.val w))=> some (.val w)
  | _=> none
def mend (env e2:A1):List Nat→A1
  | []=> e2
  | v::vs=> (mend env e2 vs).set v (C5I env[v]?)
theorem B36 (env:A1):∀vs,(P8 env vs).length=env.length
  | []=> rfl
  | v::vs=> by rw [P8,List.length_set,B36 env vs]
theorem B4J (env e2:A1):∀vs,(mend env e2 vs).length=e2.length
  | []=> rfl
  | v::vs=> by rw [mend,List.length_set,B4J env e2 vs]
theorem A2H {env:A1} {i:Nat} {x:SV}:∀{vs:List Nat},(P8 env vs)[i]? =some (some x)→env[i]? =some (some x)∧i∉vs
  | [],h=> ⟨h,by simp⟩
  | v::vs,h=> by
    rw [P8] at h
    by_cases hi:v=i
    · subst hi
      by_cases hl:v < (P8 env vs).length
      · rw [List.getElem?_set_self hl] at h;cases h
      · rw [List.getElem?_eq_none (by rw [List.length_set];omega)] at h;cases h
    · rw [List.getElem?_set_ne hi] at h
      obtain ⟨a,b⟩:=A2H h
      exact ⟨a,by simp only [List.mem_cons,not_or];exact ⟨fun z=> hi z.symm,b⟩⟩
theorem A1U {env e2:A1} {i:Nat}:∀{vs:List Nat},i∉vs→(mend env e2 vs)[i]? =e2[i]?
  | [],_=> rfl
  | v::vs,h=> by
    rw [mend,List.getElem?_set_ne (fun z=> h (by simp [z])),A1U fun z=> h (List.mem_cons_of_mem _ z)]
theorem A1X {env e2:A1} {i:Nat} {x:SV}:∀{vs:List Nat},i∈vs→(mend env e2 vs)[i]? =some (some x)→∃w,x= .val w∧env[i]? =some (some (.val w))
  | v::vs,hi,h=> by
    rw [mend] at h
    by_cases e:v=i
    · subst e
      by_cases hl:v < (mend env e2 vs).length
      · rw [List.getElem?_set_self hl] at h
        cases q:env[v]? with
        | none=> rw [q] at h;cases h
        | some o=>
          cases o with
          | none=> rw [q] at h;cases h
          | some sv=>
            cases sv with
            | val w=> rw [q] at h;cases h;exact ⟨w,rfl,rfl⟩
            | own c=> rw [q] at h;cases h
      · rw [List.getElem?_eq_none (by rw [List.length_set];omega)] at h;cases h
    · rw [List.getElem?_set_ne e] at h
      rcases List.mem_cons.mp hi with z | z
      · exact absurd z.symm e
      · exact A1X z h
theorem A35 (σ:L2.St) (vs:List Nat):(wipe σ vs).length=σ.length:=wipe_length σ vs
theorem p8 {σ:L2.St} {i:Nat}:∀{vs:List Nat},i∉vs→(wipe σ vs)[i]? =σ[i]?
  | [],_=> rfl
  | v::vs,h=> by
    rw [wipe,List.getElem?_set_ne (fun z=> h (by simp [z])),p8 fun z=> h (List.mem_cons_of_mem _ z)]
theorem A3T {σ:L2.St} {i:Nat}:∀{vs:List Nat},i∈vs→(wipe σ vs)[i]? =if i < σ.length then some none else none
  | v::vs,h=> by
    rw [wipe]
    by_cases e:v=i
    · subst e
      by_cases hl:v < σ.length
      · rw [if_pos hl,List.getElem?_set_self (by rw [A35];exact hl)]
      · rw [if_neg hl,List.getElem?_eq_none (by rw [List.length_set,A35];omega)]
    · rw [List.getElem?_set_ne e]
      rcases List.mem_cons.mp h with z | z
      · exact absurd z.symm e
      · exact A3T z
theorem B4U {σ σ2:L2.St} {vs sl:List Nat} (b:But sl (wipe σ vs) σ2) (h:∀i∈sl,i∈vs):wipe σ2 vs=wipe σ vs:=by
  have hl:σ2.length=σ.length:=b.1.trans (A35 _ _)
  apply List.ext_getElem?
  intro i
  by_cases hi:i∈vs
  · rw [A3T hi,A3T hi,hl]
  · rw [p8 hi,b.2 i fun z=> hi (h i z)]
section
variable {G:Gx} {env e2:A1} {h h2:AH} {σ σ2:L2.St} {H H2:Hp} {vs sl:List Nat}
theorem OwnAt.wiped {p:Addr} (o:OwnAt (P8 env vs) (wipe σ vs) p):OwnAt env σ p:=by
  obtain ⟨i,c,a,b⟩:=o
  obtain ⟨a1,hi⟩:=A2H a
  rw [p8 hi] at b
  exact ⟨i,c,a1,b⟩
theorem BS.wipe (S:BS G env h σ H):BS G (P8 env vs) h (L2.wipe σ vs) H:=by
  refine ⟨by rw [B36,A35];exact S.len,fun i w e=> ?_,fun i c e=> ?_,fun i j c c' p e1 e2 f1 f2=> ?_,S.hp,S.fr,S.ext,S.tr,S.tabs⟩
  · obtain ⟨a,hi⟩:=A2H e
    rw [p8 hi];exact S.val i w a
  · obtain ⟨a,hi⟩:=A2H e
    rw [p8 hi];exact S.own i c a
  · obtain ⟨a,hi⟩:=A2H e1
    obtain ⟨b,hj⟩:=A2H e2
    rw [p8 hi] at f1;rw [p8 hj] at f2
    exact S.uni i j c c' p a b f1 f2
theorem BS.mend (S:BS G env h σ H) (S2:BS G e2 h2 σ2 H2) (k:Keeps H H2) (b:But sl (L2.wipe σ vs) σ2) (hs:∀i∈sl,i∈vs):BS G (mend env e2 vs) h2 σ H2:=by
  have at_:∀{i:Nat},i∉vs→σ2[i]? =σ[i]? :=fun {i} hi=> (b.2 i fun z=> hi (hs i z)).trans (p8 hi)
  refine ⟨by rw [B4J,S2.len,b.1,A35],fun i w e=> ?_,fun i c e=> ?_,fun i j c c' p e1 e2 f1 f2=> ?_,S2.hp,S2.fr,S2.ext,S2.tr,S2.tabs⟩
  · by_cases hi:i∈vs
    · obtain ⟨w',e0,a⟩:=A1X hi e
      cases e0
      obtain ⟨v,x,y⟩:=S.val i w a
      exact ⟨v,x,Rep.mono k w v y⟩
    · rw [A1U hi] at e
      obtain ⟨v,x,y⟩:=S2.val i w e
      exact ⟨v,(at_ hi).symm.trans x,y⟩
  · by_cases hi:i∈vs
    · obtain ⟨w',e0,_⟩:=A1X hi e;cases e0
    · rw [A1U hi] at e
      obtain ⟨p,x,y⟩:=S2.own i c e
      exact ⟨p,(at_ hi).symm.trans x,y⟩
  · by_cases hi:i∈vs
    · obtain ⟨w',e0,_⟩:=A1X hi e1;cases e0
    · by_cases hj:j∈vs
      · obtain ⟨w',e0,_⟩:=A1X hj e2;cases e0
      · rw [A1U hi] at e1;rw [A1U hj] at e2
        exact S2.uni i j c c' p e1 e2 ((at_ hi).trans f1) ((at_ hj).trans f2)
theorem BS.unseen (S:BS G env h σ H) {D:Addr} {o o':HO} (e:H D=some o) (m:Mu o) (n:h D=none) (n0:G.H0 D=none) (no:¬OwnAt env σ D):Keeps H (upd H D o')∧BS G env h σ (upd H D o'):=by
  have k:Keeps H (upd H D o'):=fun p u q i=> by
    have ne:p≠D:=fun z=> by subst z;rw [e] at q;cases q;exact m.imm i
    rw [upd_ne ne];exact q
  refine ⟨k,S.len,fun i w z=> ?_,fun i c z=> ?_,S.uni,fun a u z=> ?_,fun p u z y t=> ?_,S.ext,fun p u z=> ?_,S.tabs.upd fun u z=> (by rw [e] at z;cases z;exact m)⟩
  · obtain ⟨v,x,y⟩:=S.val i w z;exact ⟨v,x,Rep.mono k w v y⟩
  · obtain ⟨p,x,y,a,b⟩:=S.own i c z
    have ne:p≠D:=fun q=> no ⟨i,c,z,q▸x⟩
    exact ⟨p,x,y.mono k (upd_ne ne),a,b⟩
  · have ne:a≠D:=fun q=> by rw [q,n] at z;cases z
    exact (S.hp a u z).mono k (upd_ne ne)
  · have ne:p≠D:=fun q=> by rw [q,n0] at z;cases z
    rw [upd_ne ne];exact S.fr p u z y t
  · by_cases q:p=D
    · subst q;exact ⟨_,upd_same⟩
    · obtain ⟨u',y⟩:=S.tr p u z;exact ⟨u',by rw [upd_ne q];exact y⟩
end
def lcLoop (vs:List Nat) (g:K5) (tt:L8) (te:D5) (Q:List W→A1→AH→Prop):List W→List W→A1→AH→Prop
  | [],acc=> fun env h=> Q acc env h
  | w::ws,acc=> fun env h=> g w (P8 env vs) h fun e1 h1=> tt e1 h1 fun b e2 h2=> if b=true then te e2 h2 fun y e3 h3=> acc.length < sizeLine∧lcLoop vs g tt te Q ws (acc++[y]) (mend env e3 vs) h3 else lcLoop vs g tt te Q ws acc (mend env e2 vs) h2
def W1 (vs:List Nat) (ti:X6) (g:K5) (tt:L8) (te:D5):AT:=fun env h Q=> ti env h fun ws e1 h1=> lcLoop vs g tt te (fun acc e h=> Q (.own (.seq acc)) e h) ws [] e1 h1
theorem lcLoop.mono {vs:List Nat} {g:K5} {tt:L8} {te:D5} (mg:s9 g) (mt:B9 tt) (me:B9 te) {Q Q':List W→A1→AH→Prop} (k:∀a e h,Q a e h→Q' a e h):∀(ws acc:List W) env h,lcLoop vs g tt te Q ws acc env h→lcLoop vs g tt te Q' ws acc env h
  | [],acc,env,h,q=> k _ _ _ q
  | w::ws,acc,env,h,q=> mg _ _ _ _ _ (fun e1 h1 z=> mt _ _ _ _ (fun b e2 h2 z=> by
    cases b with
    | true=> rw [if_pos rfl] at z ⊢;exact me _ _ _ _ (fun y e3 h3 z=> ⟨z.1,lcLoop.mono mg mt me k ws _ _ _ z.2⟩) z
    | false=> rw [if_neg Bool.false_ne_true] at z ⊢;exact lcLoop.mono mg mt me k ws _ _ _ z) z) q
structure APs (X:Cx) (G:Gx) (ifs:List Expr) (t:L8):Prop where
  mono:B9 t
  pts:PTs X ifs (cT G t)
def m8:L8:=fun env h Q=> Q true env h
theorem w5 {X:Cx} {G:Gx}:APs X G [] m8:=⟨fun env h Q Q' k q=> k _ _ _ q,⟨fun pins s σ H Q I ⟨env,h,S,q⟩=> pts_nil.run pins s σ H Q I (q H S .refl)⟩⟩
theorem C26 {X:Cx} {G:Gx} {c:Expr} {t:L8} (h:AP X G c t):APs X G [c] t:=⟨h.mono,pts_one h.pt⟩
section
variable {X:Cx} {G:Gx} {elt tg iter:Expr} {ifs:List Expr} {scope:Scope} {own:List (Str×Nat)} {pos:Pos} {ti:X6} {g:K5} {tt:L8} {te:D5} {sl:List Nat}
theorem B5I {σ:L2.St} {H:Hp} {Q:VK} (hi:AI X G tg iter ti) (hsl:∀i∈sl,i∈own.map (·.2)) (mg:s9 g) (mt:B9 tt) (me:B9 te) (q:cE G (W1 (own.map (·.2)) ti g tt te) σ H Q):
    tLc (cI G ti) (cG G sl g) (cT G tt) (cV G te) (own.map (·.2)) σ H Q:=by
  obtain ⟨env,h,S,q⟩:=q
  refine ⟨env,h,S,hi.mono env h _ _ (fun ws env1 h1 z J H1 S1 x1 gv=> ?_) q⟩
  intro D nD
  have hD:H D=none:=x1.fresh nD
  obtain ⟨hd1,hd0,hdo⟩:=S1.noAt nD
  have nw0:New H1 (upd H1 D (.lst [])):=New.upd nD
  refine ⟨fun i m H'=> ws.length≤i+m∧Keeps H1 H'∧∃acc vacc e k,H' D=some (.lst vacc)∧RepL G.K H' acc vacc∧BS G e k σ H'∧Xt env h σ H e k H'∧k D=none∧¬OwnAt e σ D∧
    lcLoop (own.map (·.2)) g tt te (fun acc e h'=> ∀v H',BS G e h' σ H'→Xt env h σ H e h' H'→RvRep G e h' σ H' (.own (.seq acc)) v→R3 H (.own (.seq acc)) v→Q v H') (ws.drop i) acc e k,
    ⟨ws.length,by omega,nw0.keeps,[],[],env1,h1,upd_same,.nil,nw0.bs S1,x1.trans nw0.xt,hd1,hdo,by simpa using z⟩,?_⟩
  rintro i m H2 ⟨hm,k2,acc,vacc,e2,g2,d2,r2,S2,x2,n2,no2,z2⟩
  have gi:=gv H2 k2 i
  cases e:ws[i]? with
  | none=>
    have hl:=List.getElem?_eq_none_iff.mp e
    rw [List.drop_eq_nil_of_le hl] at z2
    exact .inl ⟨gi.1 hl,z2 _ H2 S2 x2 ⟨D,rfl,⟨vacc,d2,r2⟩,n2,hd0,no2⟩ fun p ep=> by cases ep;exact hD⟩
  | some w=>
    obtain ⟨hl,ew⟩:=List.getElem?_eq_some_iff.mp e
    have ed:ws.drop i=w::ws.drop (i+1):=by rw [List.drop_eq_getElem_cons hl,ew]
    rw [ed] at z2
    simp only [lcLoop] at z2
    obtain ⟨go,yl⟩:=gi.2 w e
    refine .inr ⟨go,fun H'=> Keeps H1 H'∧∃acc vacc e k,H' D=some (.lst vacc)∧RepL G.K H' acc vacc∧BS G e k σ H'∧Xt env h σ H e k H'∧k D=none∧¬OwnAt e σ D∧
      lcLoop (own.map (·.2)) g tt te (fun acc e h'=> ∀v H',BS G e h' σ H'→Xt env h σ H e h' H'→RvRep G e h' σ H' (.own (.seq acc)) v→R3 H (.own (.seq acc)) v→Q v H') (ws.drop (i+1)) acc e k,fun H' n=> ⟨m - 1,by omega,by omega,n.1,n.2⟩,fun x H3 y=> ?_⟩
    obtain ⟨nw,rx⟩:=yl x H3 y
    have S3:=nw.bs S2
    refine ⟨w,P8 e2 (own.map (·.2)),g2,rx,S3.wipe,mg _ _ _ _ _ (fun e4 g4 z4 σ4 H4 S4 x4=> ?_) z2⟩
    refine ⟨B4U x4.bt hsl,e4,g4,S4,mt _ _ _ _ (fun b e5 g5 z5 H5 S5 x5=> ?_) z4⟩
    have fin:∀{e6:A1} {g6:AH} {H6:Hp},BS G e6 g6 σ4 H6→Xt e4 g4 σ4 H4 e6 g6 H6→H6 D=some (.lst vacc)∧Keeps H2 H6∧BS G (mend e2 e6 (own.map (·.2))) g6 σ H6∧g6 D=none∧¬OwnAt (mend e2 e6 (own.map (·.2))) σ D∧
        ∀ys,Xt env h σ H (mend e2 e6 (own.map (·.2))) g6 (upd H6 D (.lst ys)):=fun {e6 g6 H6} S6 x6=> by
      have xx:=x4.trans x6.xg
      have noW:¬OwnAt (P8 e2 (own.map (·.2))) (wipe σ (own.map (·.2))) D:=fun q=> no2 q.wiped
      have f6:∀p o,H2 p=some o→g2 p=none→¬OwnAt e2 σ p→NT o→H6 p=some o:=fun p o e n q t=> xx.fr p o (nw p o e) n (fun q'=> q q'.wiped) t
      have kk:Keeps H2 H6:=fun p o e i=> f6 p o e (S2.imm e i).1 (S2.imm e i).2 i.nt
      have Sm:=BS.mend (sl:=sl++[]) S2 S6 kk xx.bt fun i hi=> hsl i (by simpa using hi)
      have g6D:g6 D=none:=by
        cases q:g6 D with
        | none=> rfl
        | some u=> have y:=xx.hn D u q n2;rw [nw D _ d2] at y;cases y
      have sameOut:∀{j:Nat},j∉own.map (·.2)→σ4[j]? =σ[j]? :=fun {j} hj=> (x4.bt.2 j fun q=> hj (hsl j q)).trans (p8 hj)
      have oM:∀p,OwnAt (mend e2 e6 (own.map (·.2))) σ p→OwnAt e2 σ p:=fun p ⟨j,c,a,b⟩=> by
        by_cases hj:j∈own.map (·.2)
        · obtain ⟨w',e0,_⟩:=A1X hj a;cases e0
        · rw [A1U hj] at a
          exact (xx.ow p ⟨j,c,a,(sameOut hj).trans b⟩).wiped
      refine ⟨f6 D _ d2 n2 no2 (Mu.nt (o:= .lst vacc) trivial),kk,Sm,g6D,fun q=> no2 (oM D q),fun ys=> ⟨fun p o e n q t=> ?_,fun p o e n=> ?_,fun p o e=> ?_,fun j c e=> ?_⟩⟩
      · have np:p≠D:=fun z=> by rw [z,hD] at e;cases e
        rw [upd_ne np]
        refine f6 p o (x2.fr p o e n q t) ?_ (fun y=> q (x2.own y)) t
        cases y:g2 p with
        | none=> rfl
        | some u=> rw [x2.hn p u y n] at e;cases e
      · cases y:g2 p with
        | some u=> exact x2.hn p u y n
        | none=>
          have y3:=xx.hn p o e y
          cases y4:H p with
          | none=> rfl
          | some u=>
            obtain ⟨u',y5⟩:=x2.th p u y4
            rw [nw p u' y5] at y3;cases y3
      · by_cases hp:p=D
        · subst hp;exact ⟨_,upd_same⟩
        · obtain ⟨u,y⟩:=x2.th p o e
          obtain ⟨u',y'⟩:=xx.th p u (nw p u y)
          exact ⟨u',by rw [upd_ne hp];exact y'⟩
      · by_cases hj:j∈own.map (·.2)
        · obtain ⟨w',e0,_⟩:=A1X hj e;cases e0
        · rw [A1U hj] at e
          obtain ⟨c1,y⟩:=xx.so j _ e
          obtain ⟨y1,_⟩:=A2H y
          exact x2.sl j c1 y1
    cases b with
    | true=>
      rw [if_pos rfl] at z5
      refine iteT ⟨e5,g5,S5,me _ _ _ _ (fun y e6 g6 ⟨hz,z6⟩ v H6 S6 x6 r6=> ?_) z5⟩
      obtain ⟨d6,k6,Sm,n6,no6,xm⟩:=fin S6 (x5.trans x6)
      obtain ⟨k7,S7⟩:=Sm.unseen (o':= .lst (vacc++[v])) d6 trivial n6 hd0 no6
      exact ⟨vacc,d6,by rw [←r2.length];exact hz,(k2.trans k6).trans k7,acc++[y],vacc++[v],_,g6,upd_same,(RepL.mono (k6.trans k7) _ _ r2).append (.cons (Rep.mono k7 _ _ r6) .nil),S7,xm _,n6,no6,z6⟩
    | false=>
      rw [if_neg Bool.false_ne_true] at z5
      refine iteF ?_
      obtain ⟨d6,k6,Sm,n6,no6,xm⟩:=fin S5 x5
      have eu:upd H5 D (.lst vacc)=H5:=by
        funext p
        by_cases hp:p=D
        · subst hp;rw [upd_same,d6]
        · rw [upd_ne hp]
      have xm':=xm vacc
      rw [eu] at xm'
      exact ⟨k2.trans k6,acc,vacc,_,g5,d6,RepL.mono k6 _ _ r2,Sm,xm',n6,no6,z5⟩
theorem C5x (hc:X.calm=true) (hN:X.N.Nodup) (hi:AI X G tg iter ti) (ok:BlkOk X.N X.env.scope scope own) (hsl:∀i∈sl,i∈own.map (·.2))
    (hg:∀(s:Shared) (H:Hp) (C:Addr) (cl:List (Str×Addr)) (fp:List Addr),AG (X.blk s H scope (compEnvC scope cl C X.env) fp) G tg sl g) (ht:∀(s:Shared) (H:Hp) (C:Addr) (cl:List (Str×Addr)) (fp:List Addr),APs (X.blk s H scope (compEnvC scope cl C X.env) fp) G ifs tt)
    (he:∀(s:Shared) (H:Hp) (C:Addr) (cl:List (Str×Addr)) (fp:List Addr),AV (X.blk s H scope (compEnvC scope cl C X.env) fp) G elt te) (mg:s9 g) (mt:B9 tt) (me:B9 te) (hs:∀x,foldedSetIterable iter X.env x=pure x:=by intro _;rfl):
    AE X G (.ListComp elt [⟨tg,iter,ifs,0⟩] scope pos) (W1 (own.map (·.2)) ti g tt te):=by
  exact ⟨fun env h Q Q' k q=> hi.mono env h _ _ (fun ws e1 h1 z=> lcLoop.mono mg mt me (fun a e h q=> k _ _ _ q) ws [] e1 h1 z) q,PE.imp (pe_lc hc hN hi.pi ok (fun s H C cl fp=> (hg s H C cl fp).pg) (fun s H C cl fp=> (ht s H C cl fp).pts) (fun s H C cl fp=> (he s H C cl fp).pe) hs) fun σ H Q q=> B5I hi hsl mg mt me q⟩
end
end Ab
namespace Ab
open PySem PySem.Spec PyProof.Rows L2
def C6 (h:AH) (a:Addr) (o:AO):AH:=fun b=> if b=a then some o else h b
theorem M2 {h:AH} {a:Addr} {o:AO}:C6 h a o a=some o:=by unfold C6;rw [if_pos rfl]
theorem F7 {h:AH} {a b:Addr} {o:AO} (n:b≠a):C6 h a o b=h b:=by unfold C6;rw [if_neg n]
def P0 (env:A1) (h:AH):RV→Option Cont
  | .slot i=> match env[i]? with
    | some (some (.own c))=> some c
    | _=> none
  | .val (.ref a)=> match h a with
    | some (.cont c)=> some c
    | _=> none
  | _=> none
def A0S (env:A1) (r:RV) (c:Cont):A1:=match r with
  | .slot i=> env.set i (some (.own c))
  | _=> env
def A0U (h:AH) (r:RV) (c:Cont):AH:=match r with
  | .val (.ref a)=> C6 h a (.cont c)
  | _=> h
section
variable {G:Gx} {env:A1} {h:AH} {σ:L2.St} {H:Hp}
theorem A3i (S:BS G env h σ H) {r:RV} {v:V} {c:Cont} (rr:RvRep G env h σ H r v) (e:P0 env h r=some c):∃p,v= .ref p∧CRep G.K H p c∧
    ∀o' c',(Keeps H (upd H p o')→CRep G.K (upd H p o') p c')→BS G (A0S env r c') (A0U h r c') σ (upd H p o')∧Xt env h σ H (A0S env r c') (A0U h r c') (upd H p o'):=by
  have com:∀(p:Addr) (o':HO),(∃u,H p=some u∧Mu u)→Keeps H (upd H p o')∧(∀q o,H q=some o→∃u,upd H p o' q=some u):=fun p o' ⟨u,eu,mu⟩=> by
    refine ⟨fun q o eq i=> ?_,fun q o eq=> ?_⟩
    · have ne:q≠p:=fun z=> by subst z;rw [eu] at eq;cases eq;exact mu.imm i
      rw [upd_ne ne];exact eq
    · by_cases z:q=p
      · subst z;exact ⟨_,upd_same⟩
      · exact ⟨o,by rw [upd_ne z];exact eq⟩
  cases r with
  | own c0=> cases e
  | slot i=>
    have e:(match env[i]? with
      | some (some (.own c))=> some c
      | _=> none)=some c:=e
    split at e
    · rename_i c0 hs
      cases e
      obtain ⟨p,es,cr,n,n0⟩:=S.own i c hs
      have es':σ[i]? =some (some v):=rr
      rw [es] at es';cases es'
      refine ⟨p,rfl,cr,fun o' c' hc=> ?_⟩
      obtain ⟨kp,th⟩:=com p o' cr.there
      have hc:=hc kp
      have at_:∀(j:Nat) (sv:SV),(env.set i (some (SV.own c')))[j]? =some (some sv)→(j=i∧sv= .own c')∨(j≠i∧env[j]? =some (some sv)):=fun j sv z=> by
        rw [A5p hs] at z
        by_cases hj:j=i
        · rw [if_pos hj] at z;cases z;exact .inl ⟨hj,rfl⟩
        · rw [if_neg hj] at z;exact .inr ⟨hj,z⟩
      show BS G (env.set i (some (.own c'))) h σ _∧Xt env h σ H (env.set i (some (.own c'))) h _
      refine ⟨⟨by rw [List.length_set];exact S.len,fun j w z=> ?_,fun j d z=> ?_,fun j k d d' q z1 z2 f1 f2=> ?_,fun a o z=> ?_,fun q o z y t=> ?_,S.ext,fun q o z=> ?_,S.tabs.upd fun o z=> cr.mu_at z⟩,fun q o z y w t=> ?_,fun q o z y=> (by rw [y] at z;cases z),th,fun j d z=> ?_⟩
      · rcases at_ j _ z with ⟨_,z⟩ | ⟨_,z⟩
        · cases z
        · obtain ⟨u,a,b⟩:=S.val j w z;exact ⟨u,a,Rep.mono kp w u b⟩
      · rcases at_ j _ z with ⟨hj,z⟩ | ⟨hj,z⟩
        · cases z;exact ⟨p,hj▸es,hc,n,n0⟩
        · obtain ⟨q,a,b,x,y⟩:=S.own j d z
          have nq:q≠p:=fun z2=> hj (S.uni j i d c p z hs (z2▸a) es)
          exact ⟨q,a,b.mono kp (upd_ne nq),x,y⟩
      · rcases at_ j _ z1 with ⟨hj,y1⟩ | ⟨hj,y1⟩
        · rcases at_ k _ z2 with ⟨hk,y2⟩ | ⟨hk,y2⟩
          · rw [hj,hk]
          · rw [hj] at f1 ⊢;exact S.uni i k c d' q hs y2 f1 f2
        · rcases at_ k _ z2 with ⟨hk,y2⟩ | ⟨hk,y2⟩
          · rw [hk] at f2 ⊢;exact S.uni j i d c q y1 hs f1 f2
          · exact S.uni j k d d' q y1 y2 f1 f2
      · have na:a≠p:=fun y=> by rw [y,n] at z;cases z
        exact (S.hp a o z).mono kp (upd_ne na)
      · have nq:q≠p:=fun x=> by rw [x,n0] at z;cases z
        rw [upd_ne nq];exact S.fr q o z y t
      · obtain ⟨u,y⟩:=S.tr q o z;exact th q u y
      · have nq:q≠p:=fun x=> w ⟨i,c,hs,x▸es⟩
        rw [upd_ne nq];exact z
      · rcases at_ j _ z with ⟨hj,z⟩ | ⟨hj,z⟩
        · exact ⟨c,hj▸hs⟩
        · exact ⟨d,z⟩
    · cases e
  | val w0=>
    cases w0 with
    | ref a=>
      have e:(match h a with
        | some (.cont c)=> some c
        | _=> none)=some c:=e
      split at e
      · rename_i c0 ha
        cases e
        have ev:v= .ref a:=Rep.of_ref (K:=G.K) (H:=H) rr
        have cr:CRep G.K H a c:=S.hp a _ ha
        refine ⟨a,ev,cr,fun o' c' hc=> ?_⟩
        obtain ⟨kp,th⟩:=com a o' cr.there
        have hc:=hc kp
        show BS G env (C6 h a (.cont c')) σ _∧Xt env h σ H env (C6 h a (.cont c')) _
        have neo:∀{j:Nat} {d:Cont} {q:Addr},env[j]? =some (some (SV.own d))→σ[j]? =some (some (V.ref q))→q≠a:=fun z y x=> by
          obtain ⟨q',a',_,n,_⟩:=S.own _ _ z
          rw [y] at a';cases a'
          rw [x,ha] at n;cases n
        refine ⟨⟨S.len,fun j w z=> ?_,fun j d z=> ?_,S.uni,fun b o z=> ?_,fun q o z y t=> ?_,fun b o z y=> ?_,fun q o z=> ?_,S.tabs.upd fun o z=> cr.mu_at z⟩,fun q o z y w t=> ?_,fun q o z y=> ?_,th,fun j d z=> ⟨d,z⟩⟩
        · obtain ⟨u,x,y⟩:=S.val j w z;exact ⟨u,x,Rep.mono kp w u y⟩
        · obtain ⟨q,x,y,n,n0⟩:=S.own j d z
          have nq:=neo z x
          exact ⟨q,x,y.mono kp (upd_ne nq),by rw [F7 nq];exact n,n0⟩
        · by_cases hb:b=a
          · subst hb;rw [M2] at z;cases z;exact hc
          · rw [F7 hb] at z;exact (S.hp b o z).mono kp (upd_ne hb)
        · have nq:q≠a:=fun x=> by
            subst x
            have:=S.ext q _ ha y
            rw [this] at z;cases z
          rw [upd_ne nq];exact S.fr q o z y t
        · by_cases hb:b=a
          · subst hb;exact S.ext b _ ha y
          · rw [F7 hb] at z;exact S.ext b o z y
        · obtain ⟨u,y⟩:=S.tr q o z;exact th q u y
        · have nq:q≠a:=fun x=> by rw [x,ha] at y;cases y
          rw [upd_ne nq];exact z
        · have nq:q≠a:=fun x=> by rw [x,ha] at y;cases y
          rw [F7 nq,y] at z;cases z
      · cases e
    | _=> cases e
end
abbrev T3:=List W→List W→(List W→W→Prop)→Prop
structure LmOk (K:PySem.W.Frag) (r:V→List V→Hp→VK→Prop) (f:T3):Prop where
  mono:∀xs ws Q Q',(∀a b,Q a b→Q' a b)→f xs ws Q→f xs ws Q'
  ok:∀H p xs vs ws us Qf Q,H p=some (.lst vs)→RepL K H xs vs→RepL K H ws us→f xs ws Qf→(∀xs' vs' w v,Qf xs' w→RepL K H xs' vs'→Rep K H w v→Q v (upd H p (.lst vs')))→r (.ref p) us H Q
def A85:Option Cont→Prop
  | some (.seq _)=> True
  | _=> False
def aLm (f:T3) (to:AT) (t:I6):AT:=fun env h Q=> to env h fun ro env1 h1=> A85 (P0 env1 h1 ro)∧t env1 h1 fun ws env2 h2=> match P0 env2 h2 ro with
  | some (.seq xs)=> f xs ws fun xs' w=> Q (.val w) (A0S env2 ro (.seq xs')) (A0U h2 ro (.seq xs'))
  | _=> False
theorem aLm.mono {K:PySem.W.Frag} {r:V→List V→Hp→VK→Prop} {f:T3} {to:AT} {t:I6} (lm:LmOk K r f) (a:B9 to) (b:B9 t):B9 (aLm f to t):=fun env h Q Q' k q=> a env h _ _ (fun ro e g z=> ⟨z.1,b e g _ _ (fun ws e2 g2 z=> by
  split at z
  · exact lm.mono _ _ _ _ (fun _ _ q=> k _ _ _ q) z
  · exact z) z.2⟩) q
section
variable {X:Cx} {G:Gx} {o e:Expr} {es:List Expr} {to:AT} {t:I6} {name:Str} {apos cpos:Pos} {id:String} {r:V→List V→Hp→VK→Prop} {f:T3}
theorem C2n {σ:L2.St} {H:Hp} {Q:VK} (gk:G.K=X.K) (lm:LmOk G.K r f) (mo:B9 to) (mt:B9 t) (q:cE G (aLm f to t) σ H Q):tBM X.K "list" r (cE G to) (cA G t) σ H Q:=by
  obtain ⟨env,h,S,q⟩:=q
  refine ⟨env,h,S,mo env h _ _ (fun ro env1 h1 ⟨hs,z⟩ x H1 S1 x1 r1 f1=> ?_) q⟩
  have ty:tyV X.K "list" x H1:=by
    cases e:P0 env1 h1 ro with
    | none=> rw [e] at hs;exact hs.elim
    | some c=>
      cases c with
      | map _=> rw [e] at hs;exact hs.elim
      | seq xs=>
        obtain ⟨p,rfl,⟨vs,l,_⟩,_⟩:=A3i S1 r1 e
        exact .inl ⟨rfl,_,.inl (.inl l)⟩
  refine ⟨ty,env1,h1,S1,mt env1 h1 _ _ (fun ws env2 h2 z vs H2 S2 x2 r2=> ?_) z⟩
  split at z
  · rename_i xs e
    obtain ⟨p,rfl,⟨us,l,rl⟩,put⟩:=A3i S2 (r1.xt S1 x2) e
    refine lm.ok H2 p xs us ws vs _ Q l rl r2 z fun xs' vs' w v q0 ra rw0=> ?_
    have kp:Keeps H2 (upd H2 p (.lst vs')):=fun q o e i=> by
      have ne:q≠p:=fun z=> by subst z;rw [l] at e;cases e;exact i
      rw [upd_ne ne];exact e
    obtain ⟨S3,x3⟩:=put (.lst vs') (.seq xs') fun k=> ⟨vs',upd_same,RepL.mono k _ _ ra⟩
    exact q0 v _ S3 (x1.trans (x2.trans x3)) (show Rep G.K _ w v from Rep.mono kp w v rw0) trivial
  · exact z.elim
theorem A3n (gk:G.K=X.K) (lm:LmOk G.K r f) (pa:PlainAttrs "list") (slot:Slot "list" name id) (hty:typeOf (.builtin id)=pure (.type "method_descriptor")) (hm:MtR X id r) (ho:AE X G o to) (ha:AA X G (e::es) t)
    (hbase:attributeBase o name X.env (eval o X.env)=eval o X.env:=by rfl)
    (hfew:((backTo cpos (starEach (e::es) X.env)).all (fun x=> !x.1) && (backToKw cpos (keywordEach [] X.env)).all (fun x=> x.1.isSome)
      && decide ((e::es).length+([]:List Keyword).length+(if ([]:List Keyword).isEmpty then 0 else 1) < 30))=true:=by rfl)
    (hline:(apos.endLine==cpos.line)=true:=by rfl) (hs:starEach (e::es) X.env=(false,eval e X.env)::starEach es X.env:=by rfl) (hplain:(backTo cpos (starEach es X.env)).any (·.1)=false:=by rfl):
    AE X G (.Call (.Attribute o name apos) (e::es) [] cpos) (aLm f to t):=
  ⟨aLm.mono lm ho.mono ha.mono,PE.imp (pe_bm pa slot hty hm ho.pe ha.pa hbase hfew hline hs hplain) fun _ _ _ q=> C2n gk lm ho.mono ha.mono q⟩
end
section
variable {K:PySem.W.Frag}
def Q5:T3:=fun xs ws Q=> match ws with
  | [y]=> xs.length < sizeLine∧Q (xs++[y]) .non
  | _=> False
theorem A30:LmOk K rAppend Q5:=
  ⟨fun xs ws Q Q' k q=> by
    unfold Q5 at q ⊢
    split at q
    · exact ⟨q.1,k _ _ q.2⟩
    · exact q,fun H p xs vs ws us Qf Q l rl rw0 q k=> by
    unfold Q5 at q
    split at q
    · obtain ⟨v,t,rfl,rv,rt⟩:=rw0.of_cons
      rw [rt.of_nil]
      exact ⟨p,vs,v,rfl,rfl,l,by rw [←rl.length];exact q.1,k _ _ _ _ q.2 (rl.append (.cons rv .nil)) .non⟩
    · exact q.elim⟩
def A2T:T3:=fun xs ws Q=> match ws with
  | [.int i]=> -(2 ^ 63)≤i∧i < 2 ^ 63∧∃k y,seqIndex? i xs.length=some k∧xs[k]? =some y∧Q (xs.eraseIdx k) y
  | _=> False
theorem C1V:LmOk K rPopAt A2T:=
  ⟨fun xs ws Q Q' k q=> by
    unfold A2T at q ⊢
    split at q
    · obtain ⟨a,b,j,y,e,f,q⟩:=q;exact ⟨a,b,j,y,e,f,k _ _ q⟩
    · exact q,fun H p xs vs ws us Qf Q l rl rw0 q k=> by
    unfold A2T at q
    split at q
    · obtain ⟨v,t,rfl,rv,rt⟩:=rw0.of_cons
      rw [rt.of_nil,Rep.of_int (K:=K) (H:=H) rv]
      obtain ⟨a,b,j,y,e,f,q⟩:=q
      obtain ⟨v,ev,rv⟩:=rl.get f
      exact ⟨p,vs,_,j,v,rfl,rfl,l,a,b,by rw [←rl.length];exact e,ev,k _ _ _ _ q (rl.eraseIdx j) rv⟩
    · exact q.elim⟩
end
def A1v (to ti:AT):K5:=fun w env h Q=> to env h fun ro env1 h1=> ti env1 h1 fun ri env2 h2=> match view env2 h2 ri with
  | .wv (.int k)=> match P0 env2 h2 ro with
    | some (.seq xs)=> ∃j,ixN xs.length k=some j∧Q (A0S env2 ro (.seq (xs.set j w))) (A0U h2 ro (.seq (xs.set j w)))
    | _=> False
  | _=> False
section
variable {X:Cx} {G:Gx} {o i:Expr} {to ti:AT} {pos:Pos}
theorem A3d (ho:AE X G o to) (hi:AE X G i ti)
    (ha:PG X (.Subscript o i pos) (gSub (cE G to) (cE G ti) rSetL)):AG X G (.Subscript o i pos) [] (A1v to ti):=by
  refine ⟨fun w env h Q Q' k q=> ho.mono env h _ _ (fun ro e g z=> hi.mono e g _ _ (fun ri e g z=> ?_) z) q,PG.imp ha fun v σ H Q ⟨w,env,h,rv,S,q⟩=> ?_⟩
  · split at z
    · split at z
      · obtain ⟨j,e,z⟩:=z;exact ⟨j,e,k _ _ z⟩
      · exact z
    · exact z
  · refine ⟨env,h,S,ho.mono env h _ _ (fun ro env1 h1 z x H1 S1 x1 r1 f1=> ?_) q⟩
    refine ⟨env1,h1,S1,hi.mono env1 h1 _ _ (fun ri env2 h2 z y H2 S2 x2 r2 f2=> ?_) z⟩
    have ry:=r2.vr S2
    split at z
    · rename_i k ek
      rw [ek] at ry
      split at z
      · rename_i xs e
        obtain ⟨j,ej,z⟩:=z
        obtain ⟨p,rfl,⟨us,l,rl⟩,put⟩:=A3i S2 (r1.xt S1 x2) e
        have rv2:Rep G.K H2 w v:=Rep.mono ((x1.keeps S).trans (x2.keeps S1)) w v rv
        refine ⟨p,us,k,j,rfl,ry.int,l,by rw [←rl.length];exact ej,?_⟩
        obtain ⟨S3,x3⟩:=put (.lst (us.set j v)) (.seq (xs.set j w)) fun kk=> ⟨_,upd_same,RepL.mono kk _ _ (rl.set j rv2)⟩
        exact z σ _ S3 (x1.trans (x2.trans x3)).xg
      · exact z.elim
    · exact z.elim
end
section
variable {X:Cx} {G:Gx} {tg e:Expr} {tv:D5} {g:K5} {sl:List Nat} {pos:Pos} {st:Stmt} {t:D1}
def N4 (tv:D5) (g:K5):D1:=fun D env h=> tv env h fun w env1 h1=> g w env1 h1 D.nx
theorem N9 (he:AV X G e tv) (hg:AG X G tg sl g) (hs:swapsWithSole [tg] e pos.line X.env=pure false:=by rfl) (hw:swappedStores [tg] e X.env=pure none:=by rfl) (h1:(assignEach [tg] X.env).map (·.2)=[assign tg X.env]:=by rfl):AS X G (.Assign [tg] e pos) (N4 tv g):=by
  refine ⟨fun D D' env h l q=> he.mono env h _ _ (fun w e g z=> hg.mono _ _ _ _ _ l.nx z) q,PS.imp (ps_asg he.pe hg.pg hs hw h1) fun D σ H ⟨env,h,Da,S,q,l⟩=> ?_⟩
  refine ⟨env,h,S,he.mono env h _ _ (fun w env1 h1 z v H1 S1 x1 r1=> ?_) q⟩
  exact ⟨w,env1,h1,r1,S1,hg.mono _ _ _ _ _ (fun env2 h2 z σ2 H2 S2 x2=> l.nx _ _ _ _ S2 ((x1.keeps S).trans (x2.keeps S1)) z) z⟩
def A4U (i:Nat) (t:D1):D1:=fun D env h=> match env[i]? with
  | some (some (.own c))=> ∀p,h p=none→t D (env.set i (some (.val (.ref p)))) (C6 h p (.cont c))
  | _=> False
theorem C2W (i:Nat) (a:AS X G st t):AS X G st (A4U i t):=by
  refine ⟨fun D D' env h l q=> ?_,PS.imp a.ps fun D σ H ⟨env,h,Da,S,q,l⟩=> ?_⟩
  · unfold A4U at q ⊢
    split at q
    · exact fun p n=> a.mono _ _ _ _ l (q p n)
    · exact q
  · unfold A4U at q
    split at q
    · rename_i c e
      obtain ⟨p,es,cr,n,n0⟩:=S.own i c e
      refine ⟨_,_,Da,?_,q p n,l⟩
      have at_:∀(j:Nat) (sv:SV),(env.set i (some (SV.val (.ref p))))[j]? =some (some sv)→(j=i∧sv= .val (.ref p))∨(j≠i∧env[j]? =some (some sv)):=fun j sv z=> by
        rw [A5p e] at z
        by_cases hj:j=i
        · rw [if_pos hj] at z;cases z;exact .inl ⟨hj,rfl⟩
        · rw [if_neg hj] at z;exact .inr ⟨hj,z⟩
      refine ⟨by rw [List.length_set];exact S.len,fun j w z=> ?_,fun j d z=> ?_,fun j k d d' q z1 z2 f1 f2=> ?_,fun a o z=> ?_,S.fr,fun a o z y=> ?_,S.tr,S.tabs⟩
      · rcases at_ j _ z with ⟨hj,z⟩ | ⟨_,z⟩
        · cases z;exact ⟨_,hj▸es,.ref⟩
        · exact S.val j w z
      · rcases at_ j _ z with ⟨_,z⟩ | ⟨hj,z⟩
        · cases z
        · obtain ⟨q,a,b,x,y⟩:=S.own j d z
          have nq:q≠p:=fun z2=> hj (S.uni j i d c p z e (z2▸a) es)
          exact ⟨q,a,b,by rw [F7 nq];exact x,y⟩
      · rcases at_ j _ z1 with ⟨_,y⟩ | ⟨_,y1⟩
        · cases y
        · rcases at_ k _ z2 with ⟨_,y⟩ | ⟨_,y2⟩
          · cases y
          · exact S.uni j k d d' q y1 y2 f1 f2
      · by_cases ha:a=p
        · subst ha;rw [M2] at z;cases z;exact cr
        · rw [F7 ha] at z;exact S.hp a o z
      · by_cases ha:a=p
        · subst ha;exact n0
        · rw [F7 ha] at z;exact S.ext a o z y
    · exact q.elim
end
def L0 (n:Nat) (ws:List W):A1:=ws.map (fun w=> some (.val w))++List.replicate (n - ws.length) none
def AH.Le (h h':AH):Prop:=∀a o,h a=some o→h' a=some o
def C4 (Qa:RR→AH→Prop):AEnds where
  nx:=fun _ h=> ∃h',AH.Le h' h∧Qa (.val .non) h'
  rt:=fun r env h=> ∃h',AH.Le h' h∧match r with
    | .val w=> Qa (.val w) h'
    | .own c=> Qa (.own c) h'
    | .slot i=> match env[i]? with
      | some (some (.val w))=> Qa (.val w) h'
      | some (some (.own c))=> Qa (.own c) h'
      | _=> False
def E2 (Ea:AExc→AH→Prop):AExc→A1→AH→Prop:=fun x _ h=> ∃h',AH.Le h' h∧Ea x h'
theorem BS.begin {K:PySem.W.Frag} {h:AH} {H:Hp} {ws:List W} {vs:List V} {N:List Str} (hp:∀a o,h a=some o→ORep K H a o) (tb:TabsK K H) (r:RepL K H ws vs) (hl:ws.length≤N.length):BS ⟨K,h,H⟩ (L0 N.length ws) h (L2.start N vs) H:=by
  have e1:(L0 N.length ws).length=N.length:=by simp [L0];omega
  have e2:(L2.start N vs).length=N.length:=by simp [L2.start,←r.length];omega
  have at_:∀(i:Nat) (sv:SV),(L0 N.length ws)[i]? =some (some sv)→∃w,sv= .val w∧ws[i]? =some w:=fun i sv e=> by
    unfold L0 at e
    by_cases hi:i < ws.length
    · rw [List.getElem?_append_left (by simpa using hi),List.getElem?_map] at e
      cases q:ws[i]? with
      | none=> rw [q] at e;cases e
      | some w=> rw [q] at e;cases e;exact ⟨w,rfl,rfl⟩
    · rw [List.getElem?_append_right (by simpa using hi),List.getElem?_replicate] at e
      split at e <;> cases e
  refine ⟨by rw [e1,e2],fun i w e=> ?_,fun i c e=> ?_,fun i j c c' p e=> ?_,hp,fun p o e _ _=> e,fun a o e n=> (by have n:h a=none:=n;rw [n] at e;cases e),fun p o e=> ⟨o,e⟩,tb⟩
  · obtain ⟨w',z,y⟩:=at_ i _ e
    cases z
    obtain ⟨v,ev,rv⟩:=r.get y
    refine ⟨v,?_,rv⟩
    have hi:i < vs.length:=(List.getElem?_eq_some_iff.mp ev).1
    unfold L2.start
    rw [List.getElem?_append_left (by simpa using hi),List.getElem?_map,ev]
    rfl
  · obtain ⟨w',z,_⟩:=at_ i _ e;cases z
  · obtain ⟨w',z,_⟩:=at_ i _ e;cases z
section
variable {P:Program} {w:World} {K:PySem.W.Frag} {mg:Str→Option Value} {base:Heap} {x qual:Str} {params:Arguments} {body:List Stmt} {scope:Scope} {f:Addr} {fd:FuncData} {N ps:List Str} {k n:Nat} {sp:I9}
abbrev bx (P:Program) (w:World) (K:PySem.W.Frag) (mg:Str→Option Value) (base:Heap) (N:List Str) (qual:Str) (scope:Scope) (f:Addr) (cdv:Value) (A:Around) (outer:List Env) (s:Shared) (H:Hp) (E:XK):Cx:=
  cxOf (L2.CX P w) P w K mg base N qual scope f cdv A outer s H E
theorem HS.le {G:Gx} {h h':AH} {H:Hp} (a:HS G h H) (l:AH.Le h' h):HS G h' H:=⟨fun p o e=> a.hp p o (l p o e),a.fr,fun p o e=> a.ext p o (l p o e),a.tr,a.tabs⟩
theorem B0y {t:(AExc→A1→AH→Prop)→D1} (dvs:List V) (kws:List (Str×V)) (F:FunD K x qual params body scope dvs kws f fd) (S:FnScope N ps scope) (hn:ps.length=n)
    (hb:∀(cdv:Value) (A:Around) (outer:List Env) (s:Shared) (H:Hp) (E:XK) (G:Gx) (E':AExc→A1→AH→Prop),Room k (A.deeper (envOfC qual scope s.heap.objs.size f cdv))→G.K=K→Takes (bx P w K mg base N qual scope f cdv A outer s H E) (cW G E')→
      ASs (bx P w K mg base N qual scope f cdv A outer s H E) G body (t E'))
    (hq:∀ws h Qa Ea,ws.length=n→sp ws h Qa Ea→t (E2 Ea) (C4 Qa) (L0 N.length ws) h):
    FnOk P w K mg base (L2.CX P w) (k+1) f fd ps (O9 K n sp):=by
  refine F.ok S (fun vs H Q E ⟨ws,h,Qa,Ea,hl,_,_,r,_⟩=> by rw [←r.length,hl,hn]) (fun cdv A outer s H vs Q E hr ⟨ws,h,Qa,Ea,hl,hp,tb,r,q,kq,ke⟩=> ?_)
  have hwN:ws.length≤N.length:=by
    have z:=congrArg List.length S.pre
    rw [List.length_take] at z
    omega
  have tk:Takes (bx P w K mg base N qual scope f cdv A outer s H E) (cW ⟨K,h,H⟩ (E2 Ea)):=Takes.imp (W:=fun cls d _ H'=> E cls d H') (takes_of rfl rfl rfl rfl) fun cls d σ H' ⟨x,env,h',SB,xr,h'',le,e⟩=>
    ke x h'' cls d H' e (HS.le (G:=⟨K,h,H⟩) ⟨SB.hp,SB.fr,SB.ext,SB.tr,SB.tabs⟩ le) xr
  refine ⟨_,(hb cdv A outer s H E ⟨K,h,H⟩ (E2 Ea) hr rfl tk).ps,L0 N.length ws,h,C4 Qa,BS.begin hp tb r hwN,hq ws h Qa Ea hl q,?_⟩
  have hs:∀{env h' σ' H'},BS ⟨K,h,H⟩ env h' σ' H'→HS ⟨K,h,H⟩ h' H':=fun SB=> ⟨SB.hp,SB.fr,SB.ext,SB.tr,SB.tabs⟩
  refine ⟨fun env h' σ' H' SB _ ⟨h'',le,e⟩=> kq (.val .non) h'' .non H' e ((hs SB).le le) (show Rep K H' .non .non from .non),fun r0 env h' σ' H' v SB _ rr ⟨h'',le,e⟩=> ?_,fun _ _ _ _ _ _ z=> z.elim,fun _ _ _ _ _ _ z=> z.elim⟩
  have own_end:∀{p:Addr} {c:Cont},v= .ref p→CRep K H' p c→h' p=none→H p=none→B6k ⟨K,h,H⟩ h'' H' (.own c) v:=fun {p c} e1 e2 e3 e4=> by
    have e5:h'' p=none:=by
      cases z:h'' p with
      | none=> rfl
      | some u=> rw [le p u z] at e3;cases e3
    exact ⟨p,e1,e2,e5,e4⟩
  cases r0 with
  | val w0=> exact kq (.val w0) h'' v H' e ((hs SB).le le) rr
  | own c=>
    obtain ⟨p,e1,cr,a,b,_⟩:=rr
    exact kq (.own c) h'' v H' e ((hs SB).le le) (own_end e1 cr a b)
  | slot i=>
    have es:σ'[i]? =some (some v):=rr
    have e:match env[i]? with
      | some (some (.val w))=> Qa (.val w) h''
      | some (some (.own c))=> Qa (.own c) h''
      | _=> False:=e
    split at e
    · rename_i w0 ei
      obtain ⟨u,e3,rv⟩:=SB.val i w0 ei
      rw [es] at e3;cases e3
      exact kq (.val w0) h'' v H' e ((hs SB).le le) rv
    · rename_i c ei
      obtain ⟨p,e3,cr,a,b⟩:=SB.own i c ei
      rw [es] at e3;cases e3
      exact kq (.own c) h'' _ H' e ((hs SB).le le) (own_end rfl cr a b)
    · exact e.elim
end
end Ab
namespace Ab
open PySem PySem.Spec PyProof.Rows L2 RZ
def t9 (ta tb:AT):AT:=fun env h Q=> ta env h fun r env1 h1=> match view env1 h1 r with
  | .wv (.bl c)=> if c=true then tb env1 h1 Q else Q (.val (.bl false)) env1 h1
  | _=> False
def A87 (ta:AT):AT:=fun env h Q=> ta env h fun r env1 h1=> match view env1 h1 r with
  | .wv (.bl c)=> Q (.val (.bl (!c))) env1 h1
  | _=> False
section
variable {X:Cx} {G:Gx} {a b:Expr} {ta tb:AT} {pos:Pos} {rest:List Expr}
theorem C11 {env env1:A1} {h h1:AH} {σ:L2.St} {H H1:Hp} (x1:Xt env h σ H env1 h1 H1) {r:RV} {v:V} (f:R3 H1 r v):R3 H r v:=by
  cases r with
  | own c=> exact fun p e=> x1.fresh (f p e)
  | _=> trivial
theorem C2R {t:AT} {env env1:A1} {h h1:AH} {σ:L2.St} {H H1:Hp} {Q:VK} (m:B9 t) (S1:BS G env1 h1 σ H1) (x1:Xt env h σ H env1 h1 H1)
    (z:t env1 h1 fun r env' h'=> ∀v H',BS G env' h' σ H'→Xt env h σ H env' h' H'→RvRep G env' h' σ H' r v→R3 H r v→Q v H'):cE G t σ H1 Q:=
  ⟨env1,h1,S1,m env1 h1 _ _ (fun r env2 h2 z2 v H2 S2 x2 r2 f2=> z2 v H2 S2 (x1.trans x2) r2 (C11 x1 f2)) z⟩
theorem A1Z (ha:AE X G a ta):AE X G (.BoolOp .And [a] pos) ta:=⟨ha.mono,pe_one ha.pe⟩
theorem A0F (ha:AE X G a ta) (hb:AE X G (.BoolOp .And (b::rest) pos) tb):AE X G (.BoolOp .And (a::b::rest) pos) (t9 ta tb):=by
  refine ⟨fun env h Q Q' k q=> ha.mono env h _ _ (fun r e g z=> ?_) q,PE.imp (pe_and ha.pe hb.pe) fun σ H Q ⟨env,h,S,q⟩=> ⟨env,h,S,ha.mono env h _ _ (fun r e g z v H1 S1 x1 r1 f1=> ?_) q⟩⟩
  · split at z
    · rename_i c _
      cases c with
      | true=> exact iteT (hb.mono e g _ _ k (by simpa using z))
      | false=> exact iteF (k _ _ _ (by simpa using z))
    · exact z
  · have rv:=r1.vr S1
    split at z
    · rename_i c ec
      rw [ec] at rv
      refine ⟨c,rv.bl,?_⟩
      cases c with
      | true=> rw [if_pos rfl] at z;exact iteT (C2R hb.mono S1 x1 z)
      | false=> rw [if_neg Bool.false_ne_true] at z;exact iteF (z (.bl false) H1 S1 x1 (show Rep G.K H1 (.bl false) (.bl false) from .bl) trivial)
    · exact z.elim
theorem B5i (ha:AE X G a ta):AE X G (.UnaryOp .Not a pos) (A87 ta):=by
  refine ⟨fun env h Q Q' k q=> ha.mono env h _ _ (fun r e g z=> ?_) q,PE.imp (pe_not ha.pe) fun σ H Q ⟨env,h,S,q⟩=> ⟨env,h,S,ha.mono env h _ _ (fun r e g z v H1 S1 x1 r1 f1=> ?_) q⟩⟩
  · split at z
    · exact k _ _ _ z
    · exact z
  · have rv:=r1.vr S1
    split at z
    · rename_i c ec
      rw [ec] at rv
      exact ⟨c,rv.bl,z (.bl (!c)) H1 S1 x1 (show Rep G.K H1 (.bl (!c)) (.bl (!c)) from .bl) trivial⟩
    · exact z.elim
theorem B1D (ha:AE X G a ta) (hb:AE X G b tb):AE X G (.BinOp a .Pow b pos) (aOp2 (oII CPow fun i j=> .int (i ^ j.toNat)) ta tb):=A3l op_pow (B0U fun _ _ _=> .int) ha hb
end
structure AK (X:Cx) (G:Gx) (kws:List Keyword) (t:I6):Prop where
  mono:B9 t
  pk:PK X kws (cA G t)
theorem PK.imp {X:Cx} {e:List Keyword} {t t':TA} (h:PK X e t) (i:∀σ H Q,t' σ H Q→t σ H Q):PK X e t':=⟨fun pos pins s σ H Q I q=> h.run pos pins s σ H Q I (i σ H Q q)⟩
section
variable {X:Cx} {G:Gx} {k n:Nat} {f:Addr} {fd:FuncData} {ps ks:List Str} {sp:I9} {x:Str} {p pos kpos:Pos} {e:Expr} {es:List Expr} {kws:List Keyword} {nm:Option Str} {t tk:I6} {tv:D5} {E:AExc→A1→AH→Prop}
theorem C4x:AK X G [] aNil:=⟨aNil.mono,PK.imp pk_nil fun σ H Q ⟨env,h,S,q⟩=> q [] H S .refl .nil⟩
theorem C3H (a:AV X G e tv) (b:AK X G kws tk):AK X G (⟨nm,e,kpos⟩::kws) (aCons tv tk):=by
  refine ⟨aCons.mono a.mono b.mono,PK.imp (pk_cons a.pe b.pk) fun σ H Q ⟨env,h,S,q⟩=> ?_⟩
  refine ⟨env,h,S,a.mono env h _ _ (fun w env1 h1 z v H1 S1 x1 r1=> ?_) q⟩
  refine ⟨env1,h1,S1,b.mono env1 h1 _ _ (fun ws env2 h2 z vs H2 S2 x2 r2=> ?_) z⟩
  exact z (v::vs) H2 S2 (x1.trans x2) (.cons (Rep.mono (x2.keeps S1) w v r1) r2)
structure AKB (K:PySem.W.Frag) (fd:FuncData) (ps ks:List Str) (n:Nat) (gW:List W→List W→List W) where
  g:List Value→List Value→List Value
  gV:List V→List V→List V
  kb:KBinds K fd ps ks g gV
  rep:∀(H:Hp) (ws zs:List W) (vs us:List V),(gW ws zs).length=n→RepL K H ws vs→RepL K H zs us→RepL K H (gW ws zs) (gV vs us)
def aCallK (E:AExc→A1→AH→Prop) (sp:I9) (n:Nat) (gW:List W→List W→List W) (t tk:I6):AT:=fun env h Q=> t env h fun ws env1 h1=> tk env1 h1 fun zs env2 h2=> (gW ws zs).length=n∧sp (gW ws zs) h2 (fun r h3=> match r with
  | .val w=> Q (.val w) env2 h3
  | .own c=> Q (.own c) env2 h3) fun x h3=> E x env2 h3
theorem aCallK.mono {gW:List W→List W→List W} (m:R0 sp) (a:B9 t) (b:B9 tk):B9 (aCallK E sp n gW t tk):=fun env h Q Q' k q=> a env h _ _ (fun ws e g z=> b e g _ _ (fun zs e g z=> ⟨z.1,m _ _ _ _ _ _ (fun r f y=> by
  cases r with
  | val w=> exact k _ _ _ y
  | own c=> exact k _ _ _ y) (fun x f y=> y) z.2⟩) z) q
end
end Ab
namespace Ab
open PySem PySem.Spec PyProof.Rows L2 RZ
section
variable {X:Cx} {G:Gx} {a b c:Expr} {ta tb tc:AT} {t:L8} {pos p:Pos}
theorem d0 (h:AE X G a ta) (he:∀whole,isTrue a X.env whole=(do let v ←whole;standAt a.pos;holding [v] (truthy v)):=by intro _;rfl):AP X G a (aTst ta):=C4Y h fun t k=> pt_val k he
theorem B1G (ha:AE X G a ta) (hb:AE X G b tb):AP X G (.Compare a [.Lt] [b] pos) (aTst (aOp2 (oII (fun _ _=> True) fun i j=> .bl (decide (i < j))) ta tb)):=A1f op_lt (A34 fun _ _ _=> .bl) ha hb (nomark _)
theorem C5h (ha:AE X G a ta) (hb:AE X G b tb):AP X G (.Compare a [.Gt] [b] pos) (aTst (aOp2 (oII (fun _ _=> True) fun i j=> .bl (decide (j < i))) ta tb)):=A1f op_gt (A34 fun _ _ _=> .bl) ha hb (nomark _)
theorem B1R (ha:AE X G a ta) (hb:AE X G b tb):AP X G (.Compare a [.GtE] [b] pos) (aTst (aOp2 (oII (fun _ _=> True) fun i j=> .bl (decide (j≤i))) ta tb)):=A1f op_ge (A34 fun _ _ _=> .bl) ha hb (nomark _)
theorem A2g (gk:G.K=X.K) (hu:X.A.units+64 < cLine) (ha:AE X G a ta) (hb:AE X G b tb):AP X G (.Compare a [.Eq] [b] pos) (aTst (aOp2 (D4 false) ta tb)):=A1f (B51 hu) (gk▸A8O) ha hb (nomark _)
theorem A0O (gk:G.K=X.K) (hu:X.A.units+64 < cLine) (ha:AE X G a ta) (hb:AE X G b tb):AP X G (.Compare a [.NotEq] [b] pos) (aTst (aOp2 (D4 true) ta tb)):=A1f (B5u hu) (gk▸A8O) ha hb (nomark _)
theorem C4V (ha:AE X G a ta) (hb:AE X G b tb):AE X G (.Compare a [.Is] [b] pos) (aOp2 (O3 false) ta tb):=A4F op_isN B4p ha hb (nomark _)
theorem C4O (ha:AE X G a ta) (hb:AE X G b tb):AP X G (.Compare a [.Is] [b] pos) (aTst (aOp2 (O3 false) ta tb)):=A1f op_isN B4p ha hb (nomark _)
theorem B4l (ha:AE X G a ta) (hb:AE X G b tb):AP X G (.Compare a [.IsNot] [b] pos) (aTst (aOp2 (O3 true) ta tb)):=A1f op_notN C18 ha hb (nomark _)
theorem B6e (gk:G.K=X.K) (hu:X.A.units+64 < cLine) (ha:AE X G a ta) (hb:AE X G b tb) (hm:behindInMarks .In b=false:=by rfl):AP X G (.Compare a [.In] [b] pos) (aTst (aOp2 (Z6 false) ta tb)):=A1f (C30 hu) (gk▸B46) ha hb hm
theorem C4L (gk:G.K=X.K) (hu:X.A.units+64 < cLine) (ha:AE X G a ta) (hb:AE X G b tb) (hm:behindInMarks .NotIn b=false:=by rfl):AP X G (.Compare a [.NotIn] [b] pos) (aTst (aOp2 (Z6 true) ta tb)):=A1f (C0r hu) (gk▸B46) ha hb hm
def A6h (ta:AT):AT:=fun env h Q=> ta env h fun r env1 h1=> match view env1 h1 r with
  | .wv (.int i)=> Q (.val (.int (-i))) env1 h1
  | _=> False
theorem B0o (ha:AE X G a ta):AE X G (.UnaryOp .USub a pos) (A6h ta):=by
  refine ⟨fun env h Q Q' k q=> ha.mono env h _ _ (fun r e g z=> ?_) q,PE.imp (pe_un un_neg ha.pe) fun σ H Q ⟨env,h,S,q⟩=> ⟨env,h,S,ha.mono env h _ _ (fun r e g z v H1 S1 x1 r1 f1=> ?_) q⟩⟩
  · split at z
    · exact k _ _ _ z
    · exact z
  · have rv:=r1.vr S1
    split at z
    · rename_i i ei
      rw [ei] at rv
      exact ⟨i,rv.int,z _ H1 S1 x1 (show Rep G.K H1 _ _ from .int) trivial⟩
    · exact z.elim
def aChn (P P':Int→Int→Bool) (ta tb tc:AT):AT:=fun env h Q=> ta env h fun ra env1 h1=> tb env1 h1 fun rb env2 h2=> match view env2 h2 ra,view env2 h2 rb with
  | .wv (.int i),.wv (.int j)=> if P i j=true then tc env2 h2 fun rc env3 h3=> (match view env3 h3 rc with
      | .wv (.int k)=> Q (.val (.bl (P' j k))) env3 h3
      | _=> False) else Q (.val (.bl false)) env2 h2
  | _,_=> False
theorem aChn.mono {P P':Int→Int→Bool} (ma:B9 ta) (mb:B9 tb) (mc:B9 tc):B9 (aChn P P' ta tb tc):=fun env h Q Q' k q=> ma env h _ _ (fun ra e g z=> mb e g _ _ (fun rb e g z=> by
  split at z
  · refine ite2 (fun y=> ?_) fun y=> k _ _ _ (by rw [if_neg y] at z;exact z)
    rw [if_pos y] at z
    refine mc _ _ _ _ (fun rc e g z=> ?_) z
    split at z
    · exact k _ _ _ z
    · exact z
  · exact z) z) q
theorem B4H {P P':Int→Int→Bool} {σ:L2.St} {H:Hp} {Q:VK} (ma:B9 ta) (mb:B9 tb) (mc:B9 tc) (q:cE G (aChn P P' ta tb tc) σ H Q):
    tChain (rI0 fun i j=> .bl (P i j)) (rI0 fun i j=> .bl (P' i j)) (cE G ta) (cE G tb) (cE G tc) σ H Q:=by
  obtain ⟨env,h,S,q⟩:=q
  refine ⟨env,h,S,ma env h _ _ (fun ra env1 h1 z v H1 S1 x1 r1 f1=> ?_) q⟩
  refine ⟨env1,h1,S1,mb env1 h1 _ _ (fun rb env2 h2 z u H2 S2 x2 r2 f2=> ?_) z⟩
  have va:=(r1.xt S1 x2).vr S2
  have vb:=r2.vr S2
  split at z
  · rename_i i j ei ej
    rw [ei] at va
    rw [ej] at vb
    refine ⟨i,j,va.int,vb.int,P i j,rfl,ite2 (fun y=> ?_) fun y=> ?_⟩
    · rw [if_pos y] at z
      refine ⟨env2,h2,S2,mc env2 h2 _ _ (fun rc env3 h3 z w H3 S3 x3 r3 f3=> ?_) z⟩
      have vc:=r3.vr S3
      split at z
      · rename_i k ek
        rw [ek] at vc
        exact ⟨j,k,vb.int,vc.int,z _ H3 S3 (x1.trans (x2.trans x3)) (show Rep G.K H3 _ _ from .bl) trivial⟩
      · exact z.elim
    · rw [if_neg y] at z
      exact z _ H2 S2 (x1.trans x2) (show Rep G.K H2 _ _ from .bl) trivial
  · exact z.elim
theorem B5y {op op':CmpOp} {P P':Int→Int→Bool} (ho:OpR X (compareOp op) (rI0 fun i j=> .bl (P i j))) (ho':OpR X (compareOp op') (rI0 fun i j=> .bl (P' i j))) (ha:AE X G a ta) (hb:AE X G b tb) (hc:AE X G c tc)
    (hm:lastMarks [op,op'] [b,c]=false:=by with_unfolding_all rfl):AE X G (.Compare a [op,op'] [b,c] pos) (aChn P P' ta tb tc):=
  ⟨aChn.mono ha.mono hb.mono hc.mono,PE.imp (pe_chain ho ho' ha.pe hb.pe hc.pe hm) fun _ _ _ q=> B4H ha.mono hb.mono hc.mono q⟩
theorem A57 {op op':CmpOp} {P P':Int→Int→Bool} (ho:OpR X (compareOp op) (rI0 fun i j=> .bl (P i j))) (ho':OpR X (compareOp op') (rI0 fun i j=> .bl (P' i j))) (ha:AE X G a ta) (hb:AE X G b tb) (hc:AE X G c tc)
    (hm:lastMarks [op,op'] [b,c]=false:=by with_unfolding_all rfl):AP X G (.Compare a [op,op'] [b,c] pos) (aTst (aChn P P' ta tb tc)):=by
  refine ⟨aTst.mono (aChn.mono ha.mono hb.mono hc.mono),PT.imp (pt_chain ho ho' ha.pe hb.pe hc.pe hm) fun σ H Q ⟨env,k,S,q⟩=> ?_⟩
  refine B4H ha.mono hb.mono hc.mono ⟨env,k,S,aChn.mono ha.mono hb.mono hc.mono env k _ _ (fun r env1 h1 z v H1 S1 x1 r1 f1=> ?_) q⟩
  have r2:=r1.vr S1
  split at z
  · rename_i b e
    rw [e] at r2
    exact ⟨b,r2.bl,z H1 S1 x1⟩
  · exact z.elim
end
structure Ok (P:Program) (w:World) (K:PySem.W.Frag) (mg:Str→Option Value) (base:Heap) (x:Str) (st:Stmt) (k n:Nat) (ps:List Str) (sp:I9):Prop where
  m:R0 sp
  ex:∃f fd,mg x=some (.ref f)∧FunD K x x (defArgs st) (defBody st) (defScope st) [] [] f fd∧FnOk P w K mg base (L2.CX P w) k f fd ps (O9 K n sp)
def Q4 (x:Str) (st:Stmt) (ps:List Str):Prop:=∀(kV doc pm:Value) (an:Option Addr) (cdv ct:Value) (us:List Value),us.length=ps.length→bindArgs (PySem.W.fnOf x x (defArgs st) (defBody st) (defScope st) .none kV doc pm an cdv ct) ⟨us,[]⟩=pure (ps.zip us)
section
variable {X:Cx} {G:Gx} {sp:I9} {st:Stmt} {k j n:Nat} {ps:List Str} {x:Str} {p pos:Pos} {e:Expr} {es:List Expr} {t:I6} {E:AExc→A1→AH→Prop}
theorem C08 (gk:G.K=X.K) (O:Ok X.prog X.w X.K X.mg X.base x st k n ps sp) (bd:Q4 x st ps) (hr:Room j X.A) (kj:k≤j) (hg:Gl X x) (tk:Takes X (cW G E))
    (ha:AA X G (e::es) t) (hn:∀env h (R:List W→A1→AH→Prop),t env h R→t env h fun ws e g=> ws.length=n∧R ws e g)
    (hdb:(x==("__debug__":Str))=false:=by decide) (he:starEach (e::es) X.env=(false,eval e X.env)::starEach es X.env:=by rfl) (hpl:(backTo pos (starEach es X.env)).any (·.1)=false:=by rfl):
    AE X G (.Call (.Name x p) (e::es) [] pos) (aCall E sp t):=by
  obtain ⟨f,fd,hm,FD,F⟩:=O.ex
  exact C2s (G:=G) (gk▸F) O.m (hr.mono kj) hg hm FD.kp (FD.bindsN bd) tk ha hn hdb he hpl
structure AN (X:Cx) (G:Gx) (es:List Expr) (n:Nat) (t:I6):Prop where
  aa:AA X G es t
  ln:∀env h (R:List W→A1→AH→Prop),t env h R→t env h fun ws e g=> ws.length=n∧R ws e g
theorem D3:AN X G [] 0 aNil:=⟨K8,C3P⟩
theorem C3 {tv:D5} (a:AV X G e tv) (b:AN X G es n t) (hs:starEach (e::es) X.env=(false,eval e X.env)::starEach es X.env:=by rfl):AN X G (e::es) (n+1) (aCons tv t):=
  ⟨C9 a b.aa hs,C1m a.mono b.ln b.aa.mono⟩
theorem I7 (gk:G.K=X.K) (O:Ok X.prog X.w X.K X.mg X.base x st k n ps sp) (bd:Q4 x st ps) (hr:Room j X.A) (kj:k≤j) (hg:Gl X x) (tk:Takes X (cW G E))
    (ha:AN X G (e::es) n t) (hdb:(x==("__debug__":Str))=false:=by decide) (he:starEach (e::es) X.env=(false,eval e X.env)::starEach es X.env:=by rfl) (hpl:(backTo pos (starEach es X.env)).any (·.1)=false:=by rfl):
    AE X G (.Call (.Name x p) (e::es) [] pos) (aCall E sp t):=C08 gk O bd hr kj hg tk ha.aa ha.ln hdb he hpl
end
abbrev E0:AExc→A1→AH→Prop:=fun _ _ _=> False
theorem C2o {P:Program} {w:World} {K:PySem.W.Frag} {mg:Str→Option Value} {base:Heap} {x:Str} {st:Stmt} {f:Addr} {fd:FuncData} {ps:List Str} {n:Nat} (hm:mg x=some (.ref f)) (F:FunD K x x (defArgs st) (defBody st) (defScope st) [] [] f fd):Ok P w K mg base x st 0 n ps (fun _ _ _ _=> False):=
  ⟨fun _ _ _ _ _ _ _ _ z=> z,f,fd,hm,F,⟨fun _ _ _ _ ⟨_,_,_,_,_,_,_,_,z,_⟩=> z.elim,fun _ _ _ _ _ _ _ _ _ _ _ _ _ ⟨_,_,_,_,_,_,_,_,z,_⟩=> z.elim⟩⟩
section
variable {P:Program} {w:World} {K:PySem.W.Frag} {mg:Str→Option Value} {base:Heap} {x:Str} {st:Stmt} {f:Addr} {fd:FuncData} {N ps:List Str} {k n:Nat} {sp:I9}
theorem Ok.mk' {t:(AExc→A1→AH→Prop)→D1} (sm:R0 sp) (hm:mg x=some (.ref f)) (F:FunD K x x (defArgs st) (defBody st) (defScope st) [] [] f fd) (S:FnScope N ps (defScope st)) (hn:ps.length=n)
    (hb:∀(cdv:Value) (A:Around) (outer:List Env) (s:Shared) (H:Hp) (E:XK) (G:Gx) (E':AExc→A1→AH→Prop),Room k (A.deeper (envOfC x (defScope st) s.heap.objs.size f cdv))→G.K=K→Takes (bx P w K mg base N x (defScope st) f cdv A outer s H E) (cW G E')→
      ASs (bx P w K mg base N x (defScope st) f cdv A outer s H E) G (defBody st) (t E'))
    (hq:∀ws h Qa Ea,ws.length=n→sp ws h Qa Ea→t (E2 Ea) (C4 Qa) (L0 N.length ws) h):Ok P w K mg base x st (k+1) n ps sp:=
  ⟨sm,f,fd,hm,F,B0y [] [] F S hn hb hq⟩
end
end Ab
namespace Ab
open PySem PySem.Spec PyProof.Rows L2 RZ
theorem Q6:bootBuiltins "len"=some (.builtin "len"):=by decide+kernel
theorem C4i:bootBuiltins "sum"=some (.builtin "sum"):=by decide+kernel
theorem B5k:bootBuiltins "any"=some (.builtin "any"):=by decide+kernel
theorem B0e:bootBuiltins "all"=some (.builtin "all"):=by decide+kernel
theorem v8:bootBuiltins "isinstance"=some (.builtin "isinstance"):=by decide+kernel
theorem A7w:bootBuiltins "tuple"=some (.type "tuple"):=by decide+kernel
theorem A06:bootBuiltins "list"=some (.type "list"):=by decide+kernel
theorem B0T:bootBuiltins "bool"=some (.type "bool"):=by decide+kernel
theorem B5m:bootBuiltins "int"=some (.type "int"):=by decide+kernel
theorem B58:bootBuiltins "str"=some (.type "str"):=by decide+kernel
section
variable {X:Cx} {G:Gx}
theorem A0Q {x:Str} {T:String} {pos:Pos} (hg:Gl X x) (hm:X.mg x=none) (hv:bootBuiltins x=some (.type T)) (hn:x≠"__name__":=by decide) (hd:(x==("__debug__":Str))=false:=by decide):AE X G (.Name x pos) (aC (.ty T)):=
  A2j (v:=V.ty T) (pe_bltn (v:=V.ty T) hg hm hv (show _=_ from rfl) hn hd) fun _=> .ty
variable {elt tg iter:Expr} {ifs:List Expr} {scope:Scope} {own:List (Str×Nat)} {pos:Pos} {ti:X6} {g:K5} {tt:L8} {te:D5} {sl:List Nat}
theorem A0G (hc:X.calm=true) (hN:X.N.Nodup) (hi:AI X G tg iter ti) (ok:BlkOk X.N X.env.scope scope own) (hsl:∀i∈sl,i∈own.map (·.2))
    (hg:∀(s:Shared) (H:Hp) (C:Addr) (cl:List (Str×Addr)) (fp:List Addr),AG (X.blk s H scope (compEnvC scope cl C X.env) fp) G tg sl g) (ht:∀(s:Shared) (H:Hp) (C:Addr) (cl:List (Str×Addr)) (fp:List Addr),APs (X.blk s H scope (compEnvC scope cl C X.env) fp) G ifs tt)
    (he:∀(s:Shared) (H:Hp) (C:Addr) (cl:List (Str×Addr)) (fp:List Addr),AV (X.blk s H scope (compEnvC scope cl C X.env) fp) G elt te) (hs:∀x,foldedSetIterable iter X.env x=pure x:=by intro _;rfl):
    AE X G (.ListComp elt [⟨tg,iter,ifs,0⟩] scope pos) (W1 (own.map (·.2)) ti g tt te):=
  C5x hc hN hi ok hsl hg ht he (hg X.s_0 X.H_0 0 [] []).mono (ht X.s_0 X.H_0 0 [] []).mono (he X.s_0 X.H_0 0 [] []).mono hs
end
def A1N {α:Type} (d:α) (perm:List Nat) (us ws:List α):List α:=if us.isEmpty && ws.length==perm.length then perm.map fun i=> ws.getD i d else []
abbrev gKw (perm:List Nat):List W→List W→List W:=A1N W.non perm
def C5y (x:Str) (st:Stmt) (ps ks:List Str) (perm:List Nat):Prop:=∀(kV doc pm:Value) (an:Option Addr) (cdv ct:Value) (ws:List Value),ws.length=perm.length→
  bindArgs (PySem.W.fnOf x x (defArgs st) (defBody st) (defScope st) .none kV doc pm an cdv ct) ⟨[],ks.zip ws⟩=pure (ps.zip (perm.map fun i=> ws.getD i .none))
theorem RepL.getD' {K:PySem.W.Frag} {H:Hp}:∀{ws:List W} {vs:List V} (i:Nat),RepL K H ws vs→Rep K H (ws.getD i .non) (vs.getD i .non)
  | [],vs,i,r=> by rw [r.of_nil];simpa using Rep.non
  | w::ws,vs,i,r=> by
    obtain ⟨v,t,rfl,a,b⟩:=r.of_cons
    cases i with
    | zero=> simpa using a
    | succ i=> simpa using b.getD' i
theorem Vals.getD':∀{vs:List V} {us:List Value} (i:Nat),Vals vs us→RelV (vs.getD i .non) (us.getD i .none)
  | _,_,i,.nil=> by cases i <;> rfl
  | _,_,0,.cons a b=> by simpa using a
  | _,_,i+1,.cons a b=> by simpa using Vals.getD' i b
theorem C1y {K:PySem.W.Frag} {H:Hp} {perm:List Nat} {ws zs:List W} {vs us:List V} (r:RepL K H ws vs) (q:RepL K H zs us):RepL K H (A1N .non perm ws zs) (A1N .non perm vs us):=by
  unfold A1N
  have e1:ws.isEmpty=vs.isEmpty:=by
    have:=r.length
    cases ws <;> cases vs <;> simp_all
  rw [e1,q.length]
  split
  · clear e1
    induction perm with
    | nil=> exact .nil
    | cons i t ih=>
      rename_i hh
      refine .cons (q.getD' i) ?_
      have:∀t:List Nat,RepL K H (t.map fun i=> zs.getD i .non) (t.map fun i=> us.getD i .non):=fun t=> by
        induction t with
        | nil=> exact .nil
        | cons i t ih=> exact .cons (q.getD' i) ih
      exact this t
  · exact .nil
theorem C01 {perm:List Nat} {vs:List V} {us:List Value} {zs:List V} {ws:List Value} (r:Vals vs us) (q:Vals zs ws):Vals (A1N .non perm vs zs) (A1N .none perm us ws):=by
  unfold A1N
  have e1:vs.isEmpty=us.isEmpty:=by cases r <;> rfl
  rw [e1,q.length]
  split
  · have:∀t:List Nat,Vals (t.map fun i=> zs.getD i .non) (t.map fun i=> ws.getD i .none):=fun t=> by
      induction t with
      | nil=> exact .nil
      | cons i t ih=> exact .cons (Vals.getD' i q) ih
    exact this perm
  · exact .nil
theorem AKB.all {K:PySem.W.Frag} {x:Str} {st:Stmt} {f:Addr} {fd:FuncData} {ps ks:List Str} {perm:List Nat} (F:FunD K x x (defArgs st) (defBody st) (defScope st) [] [] f fd) (hp:ps.length=perm.length) (h0:0 < perm.length) (h:C5y x st ps ks perm):Nonempty (AKB K fd ps ks perm.length (gKw perm)):=by
  refine ⟨⟨A1N .none perm,A1N .non perm,⟨fun s us ws X hl=> ?_,fun r q=> C01 r q⟩,fun H ws zs vs us _ r q=> C1y r q⟩⟩
  obtain ⟨oc,od,dV,kV,doc,pm,an,cdv,ct,osl,rfl,lk,hcd,hD,hK⟩:=F.ex
  rcases hD with ⟨_,rfl⟩ | ⟨e,_⟩
  · unfold A1N at hl ⊢
    split at hl
    · rename_i hc
      rw [if_pos hc]
      simp only [Bool.and_eq_true,List.isEmpty_iff,beq_iff_eq] at hc
      rw [hc.1]
      exact .of_eq (h kV doc pm an cdv ct ws hc.2)
    · rw [hp] at hl
      exact absurd hl (by simp;omega)
  · exact absurd rfl e
section
variable {X:Cx} {G:Gx} {sp:I9} {st:Stmt} {k j:Nat} {ps ks:List Str} {x:Str} {p pos:Pos} {kws:List Keyword} {tk:I6} {E:AExc→A1→AH→Prop} {perm:List Nat}
end
theorem Ok.up {P:Program} {w:World} {K:PySem.W.Frag} {mg:Str→Option Value} {base:Heap} {x:Str} {st:Stmt} {ps:List Str} {k k' n:Nat} {sp sp':I9} (O:Ok P w K mg base x st k n ps sp) (h:k≤k') (m:R0 sp') (i:∀ws h Q E,sp' ws h Q E→sp ws h Q E):Ok P w K mg base x st k' n ps sp':=by
  obtain ⟨f,fd,hm,FD,F⟩:=O.ex
  exact ⟨m,f,fd,hm,FD,(F.imp fun vs H Q E ⟨ws,h,Qa,Ea,hl,hp,tb,r,q,z⟩=> ⟨ws,h,Qa,Ea,hl,hp,tb,r,i _ _ _ _ q,z⟩).mono h⟩
end Ab
namespace Ab
open PySem PySem.Spec PyProof.Rows L2 RZ
def pureSp (P:List W→RR→Prop):I9:=fun ws h Q _=> ∃r,P ws r∧Q r h
theorem pureSp.m {P:List W→RR→Prop}:R0 (pureSp P):=fun _ _ _ _ _ _ k _ ⟨r,p,q⟩=> ⟨r,p,k _ _ q⟩
def Bt (p:Addr) (h h':AH):Prop:=∀q,q≠p→h' q=h q
theorem Bt.refl {p:Addr} {h:AH}:Bt p h h:=fun _ _=> rfl
theorem Bt.trans {p:Addr} {h h1 h2:AH} (a:Bt p h h1) (b:Bt p h1 h2):Bt p h h2:=fun q n=> (b q n).trans (a q n)
theorem Bt.upd {p:Addr} {h:AH} {o:AO}:Bt p h (C6 h p o):=fun q n=> by unfold C6;rw [if_neg n]
section
variable {vs:List Nat} {g:K5} {tt:L8} {te:D5} {env:A1} {h:AH} {Q:List W→A1→AH→Prop}
inductive All2 {α β:Type} (P:α→β→Prop):List α→List β→Prop where
  | nil:All2 P [] []
  | cons {a:α} {b:β} {as:List α} {bs:List β}:P a b→All2 P as bs→All2 P (a::as) (b::bs)
theorem All2.length {α β:Type} {P:α→β→Prop} {as:List α} {bs:List β} (r:All2 P as bs):as.length=bs.length:=by
  induction r with
  | nil=> rfl
  | cons _ _ ih=> rw [List.length_cons,List.length_cons,ih]
end
section
variable {g:K5} {tb:D1} {D:AEnds}
end
end Ab
namespace Ab
open PySem PySem.Spec PyProof.Rows L2 RZ
section
variable {xs ys:List W} {i j:Int} {Q:RV→Prop} {v:Vw} {a b c d e w:W} {n:String}
def ixK (v:Vw) (i:Int) (Q:RV→Prop):Prop:=match v.items.bind fun xs=> atI xs i with
  | some w=> Q (.val w)
  | none=> False
theorem B0f {v:Vw}:(∃xs w,v.items=some xs∧atI xs i=some w∧Q (.val w))=ixK v i Q:=by
  unfold ixK
  refine propext ⟨fun ⟨xs,w,e,f,q⟩=> ?_,fun q=> ?_⟩
  · rw [e]
    show match atI xs i with
      | some w=> Q (.val w)
      | none=> False
    rw [f];exact q
  · split at q
    · rename_i w e
      obtain ⟨xs,e1,e2⟩:=Option.bind_eq_some_iff.mp e
      exact ⟨xs,w,e1,e2,q⟩
    · exact q.elim
theorem C55 {v b:Vw}:oIx v b Q=(match b with
  | .wv (.int i)=> match v with
    | .wv (.str x)=> x.length≤sizeLine∧∃c,L2.atI x.cps.toList i=some c∧Q (.val (.str ⟨#[c]⟩))
    | v=> ixK v i Q
  | _=> False):=by
  cases b with
  | wv w=> cases w with
    | int i=> cases v with
      | wv u=> cases u <;> first | rfl | exact B0f
      | cv c=> exact B0f
      | bad=> exact B0f
    | _=> rfl
  | _=> rfl
theorem A8x:E5 [v] Q=(match v with
  | .wv (.str x)=> x.length≤sizeLine∧Q (.val (.int x.length))
  | .wv .emp=> Q (.val (.int 0))
  | v=> match v.items with
    | some xs=> Q (.val (.int xs.length))
    | none=> False):=by
  cases v with
  | wv w=> cases w <;> simp [E5,Vw.items]
  | cv c=> cases c <;> simp [E5,Vw.items]
  | bad=> simp [E5,Vw.items]
theorem B02:Z5 [v] Q=(match v.items with
    | some xs=> Q (.val (.tup xs))
    | none=> False):=by
  unfold Z5
  cases e:v.items <;> simp [e]
theorem A8E:O2 [v] Q=(match v.items with
    | some xs=> Q (.own (.seq xs))
    | none=> False):=by
  unfold O2
  cases e:v.items <;> simp [e]
theorem B6w {v:Vw} {neg:Bool}:O3 neg v (.wv .non) Q=(v≠ .bad∧Q (.val (.bl (if neg then !v.isNon else v.isNon)))):=by
  simp only [O3,true_and]
theorem C2g:M8 (.int i) (.int j)=decide (i=j):=rfl
end
theorem A2X {i j:Int} (h0:0≤i) (h1:i < 2 ^ 200) (g0:0≤j) (g1:j < 2 ^ 200):CMulW i j:=
  wide_mul (a:=200) (b:=200) (by omega) (by omega) (by decide) (by decide) (by decide)
theorem A8T {xs:List W} {k:Nat}:V9 xs none (some (k:Int))=xs.take k:=by
  unfold V9
  rw [HT.sIx_none,HT.sIx_nat]
  simp only [List.drop_zero,Nat.sub_zero]
  rcases Nat.le_total k xs.length with h | h
  · rw [Nat.min_eq_left h]
  · rw [Nat.min_eq_right h,List.take_of_length_le (Nat.le_refl _),List.take_of_length_le h]
theorem C5d {v:Vw} {T:String} {Q:RV→Prop}:G8 [v,.wv (.ty T)] Q=(match v.tyName with
  | some n=> match A1z n T with
    | some b=> Q (.val (.bl b))
    | none=> False
  | none=> False):=by
  refine propext ⟨fun q=> ?_,fun q=> ?_⟩
  · obtain ⟨n,b,e,f,q⟩:∃n b,v.tyName=some n∧A1z n T=some b∧Q (.val (.bl b)):=q
    simp only [e,f]
    exact q
  · show ∃n b,v.tyName=some n∧A1z n T=some b∧Q (.val (.bl b))
    split at q
    · rename_i n e
      split at q
      · rename_i b f
        exact ⟨n,b,e,f,q⟩
      · exact q.elim
    · exact q.elim
mutual
def W.fit:Nat→W→Bool
  | _,.non=> true
  | _,.bl _=> true
  | _,.int _=> true
  | _,.str _=> true
  | n+1,.tup xs=> decide (xs.length≤100000) && W.fitL n xs
  | n+1,.lst xs=> decide (xs.length≤100000) && W.fitL n xs
  | _,_=> false
def W.fitL:Nat→List W→Bool
  | _,[]=> true
  | n,x::xs=> W.fit n x && W.fitL n xs
end
theorem C1w {n:Nat} {w:W} (h:w∈R9 0 n):∃i:Nat,i < n∧w= .int i:=by
  unfold R9 at h
  obtain ⟨i,hi,rfl⟩:=List.mem_map.mp h
  exact ⟨i,List.mem_range.mp hi,by simp⟩
theorem A37 {lo:Int} {n:Nat}:(R9 lo n).length=n:=by simp [R9]
end Ab
namespace Ab
open PySem PySem.Spec PyProof.Rows L2 RZ
section
variable {P:Program} {w:World} {A:Around} {E:Value→Shared→Prop}
theorem C0N {I:Addr} {fp:List Addr} {n k:Nat} {Pv:Nat→Value→Prop} {St:Nat→Heap→Prop} (W:Walks P w A I fp [I] n Pv St) (hk:k≤n) (tp:Nat):
    WalksS P w A I fp [I] (fun x y=> x=y) (n - k) (fun i v=> Pv (k+i) v) (fun i s=> St (k+i) s.heap∧tp≤s.toks) where
  sub:=W.sub
  grefl:=fun _=> rfl
  gtrans:=fun _ _ _ x y=> x.trans y
  frame:=fun i s h' tk ⟨x,t⟩ y z=> ⟨W.frame _ _ _ x z,Nat.le_trans t y⟩
  item:=fun i s Q E hi ⟨x,t⟩ hQ=> wpAny_with_toks (n:=s.toks) (Nat.le_refl _) (W.item (k+i) s _ _ (by omega) x fun v h' tk pv x' same ht=> hQ v _ pv ⟨x',Nat.le_trans t ht⟩ ⟨same,rfl,rfl,rfl,ht⟩)
  done:=fun s Q E ⟨x,t⟩ hQ=> wpAny_with_toks (n:=s.toks) (Nat.le_refl _) (W.done s _ _ (by rwa [show k+(n - k)=n by omega] at x) fun h' tk same ht=> hQ _ ⟨same,rfl,rfl,rfl,ht⟩)
  self:=fun i s Q E ⟨x,_⟩ q=> W.self _ s Q E x q
theorem C16 {xs:Array Value} {acc:Array Value} {k:Nat} (h:ItemsOf (fun i v=> xs[k+i]? =some v) acc (xs.size - k)):acc.toList=xs.toList.drop k:=by
  obtain ⟨l,g⟩:=h
  refine List.ext_getElem? fun i=> ?_
  rw [List.getElem?_drop]
  by_cases hi:i < acc.size
  · have e:acc[i]? =some acc[i]:=by simp [hi]
    have e2:=g i _ e
    simpa using e.trans e2.symm
  · rw [List.getElem?_eq_none (by simpa using hi),List.getElem?_eq_none (by simp;omega)]
theorem B3X {s:Shared} {a:Addr} {xs:Array Value} {T:String} {St:Nat→Heap→Prop} {h1:Heap} {x:Value} {Q:List Value→Shared→Prop}
    (hT:T="str_ascii_iterator"∨T="str_iterator"∨T="list_iterator"∨T="tuple_iterator")
    (hN:∀(Q:Bool→Shared→Prop),Q false s→wpAny (model P w) A (notIterableAtAll (.ref a)) Q E s)
    (hI:∀(Q:Value→Shared→Prop),Q (.ref s.heap.objs.size) { s with heap:=h1 }→wpAny (model P w) A (pyIter (.ref a)) Q E s)
    (W:∀B:Around,B.handled=none→Walks P w B s.heap.objs.size [s.heap.objs.size,a] [s.heap.objs.size] xs.size (fun i v=> xs[i]? =some v) St)
    (ty:∀i h (t:Shared),t.heap=h→St i h→t.TypeIs (.ref s.heap.objs.size) T) (h0:St 0 h1) (hh:A.handled=none) (hh1:A.in1.handled=none) (big:xs.size≤sizeLine) (old:∀b o,s.heap.get? b=some o→h1.get? b=some o) (ha:a < s.heap.objs.size)
    (hx:xs[0]? =some x) (sz:s.heap.objs.size < h1.objs.size)
    (hQ:∀(hp:Heap) (tk:Nat),(∀b o,s.heap.get? b=some o→hp.get? b=some o)→s.toks≤tk→Q [x,.ref hp.objs.size] { s with heap:=hp.push { cls:= .type "list",data:= .seq (xs.toList.drop 1).toArray },toks:=tk }):
    wpAny (model P w) A (unpackItems (.ref a) 2 (some 1)) Q E s:=by
  have h0':0 < xs.size:=(Array.getElem?_eq_some_iff.mp hx).1
  unfold unpackItems
  refine wpAny_bind (hN _ ?_)
  rw [if_neg Bool.false_ne_true]
  refine wpAny_bind (wpAny_holding (hI _ ?_))
  show wpAny _ _ (holding [Value.ref s.heap.objs.size] (draw (.ref s.heap.objs.size) 1) >>=_) _ _ _
  refine wpAny_bind (wpAny_holding ?_)
  show wpAny _ _ (pyNext (.ref s.heap.objs.size) >>=_) _ _ _
  refine wpAny_bind (wpAny_with_toks (n:=s.toks) (Nat.le_refl _) ((W A hh).item 0 _ _ _ h0' h0 fun v h2 tk pv st2 same ht=> ?_))
  have ev:v=x:=Option.some.inj (pv.symm.trans hx)
  subst ev
  show wpAny _ _ (holding [v] (draw (.ref s.heap.objs.size) 0) >>=_) _ _ _
  refine wpAny_bind (wpAny_holding (show wpAny _ _ (pure []) _ _ _ from wpAny_pure (wpAny_pure ?_)))
  rw [if_neg (by simp)]
  have old2:∀b o,s.heap.get? b=some o→h2.get? b=some o:=fun b o e=> same b o (fun z=> by
    have lt:=Heap.lt_size e
    have e3:b=s.heap.objs.size:=by simpa using z
    rw [e3] at lt
    exact Nat.lt_irrefl _ lt) (old b o e)
  have g0:s.heap.objs.size < h2.objs.size:=by
    obtain ⟨o,e,_⟩:=ty (0+1) h2 { s with heap:=h2 } rfl st2
    exact Heap.lt_size e
  refine wpAny_bind (wpAny_holding (wpAny_collect_iter hT (C0N (W A.in1 hh1) h0' tk) (fun i t ⟨y,_⟩=> ty _ _ t rfl y) ⟨st2,Nat.le_refl _⟩ (fun b hb=> ?_) (by simp) (fun s' acc mv it=> ?_) (Nat.le_trans (Nat.sub_le _ _) big)))
  · have e:b=s.heap.objs.size∨b=a:=by simpa using hb
    rcases e with e | e
    · rw [e];exact g0
    · rw [e];exact Nat.lt_trans ha g0
  · have e:acc.toList=xs.toList.drop 1:=C16 it
    rw [e]
    rw [if_neg (by omega)]
    show wpAny _ _ (newList (List.take ((List.drop 1 xs.toList).length - 0) (List.drop 1 xs.toList)) >>=fun l=> pure ([v]++[l]++List.drop ((List.drop 1 xs.toList).length - 0) (List.drop 1 xs.toList))) Q E s'
    rw [Nat.sub_zero,List.take_length,List.drop_length]
    obtain ⟨hp,ge,dr,tk2,os⟩:=s'
    obtain ⟨m1,m2,m3,m4,m5⟩:=mv
    cases m2
    cases m3
    cases m4
    refine wpAny_bind (wpAny_newObj_type (wpAny_pure ?_) (by show (List.drop 1 xs.toList).toArray.size≤sizeLine;simp;omega))
    have old3:∀b o,s.heap.get? b=some o→hp.get? b=some o:=fun b o e=> m1 b o (fun z=> by
      have lt:=Heap.lt_size e
      have e3:b=s.heap.objs.size:=by simpa using z
      rw [e3] at lt
      exact Nat.lt_irrefl _ lt) (old2 b o e)
    exact hQ hp tk2 old3 (Nat.le_trans ht m5)
theorem C0f {s:Shared} {a:Addr} {xs:Array Value} {x:Value} {Q:List Value→Shared→Prop} (hs:s.heap.IsTuple a xs) (hh:A.handled=none) (hh1:A.in1.handled=none) (big:xs.size≤sizeLine) (hx:xs[0]? =some x)
    (hQ:∀(hp:Heap) (tk:Nat),(∀b o,s.heap.get? b=some o→hp.get? b=some o)→s.toks≤tk→Q [x,.ref hp.objs.size] { s with heap:=hp.push { cls:= .type "list",data:= .seq (xs.toList.drop 1).toArray },toks:=tk }):
    wpAny (model P w) A (unpackItems (.ref a) 2 (some 1)) Q E s:=by
  have la:a < s.heap.objs.size:=by obtain ⟨o,e,_⟩:=hs;exact Heap.lt_size e
  refine B3X (T:="tuple_iterator") (St:=fun i h=> h.IsTupleIter s.heap.objs.size a i∧h.IsTuple a xs) (h1:=s.heap.push { cls:= .type "tuple_iterator",data:= .fields #[.ref a,.int 0 0] }) (.inr (.inr (.inr rfl))) (fun Q q=> ?_) (fun Q q=> wpAny_pyIter_tuple hs q)
    (fun B hB=> Walks.tuple hB _ a (Nat.ne_of_lt la) xs) (fun i h t e y=> by subst e;exact y.1.typeIs) ⟨⟨_,Heap.get?_push_size _ rfl,rfl,rfl⟩,hs.push _⟩ hh hh1 big (fun b o e=> Heap.get?_push_of_some _ e) la hx (by rw [Heap.size_push];exact Nat.lt_succ_self _) hQ
  unfold notIterableAtAll
  refine wpAny_bind (wpAny_specialOf hs.typeIs F.slot_tuple_iter.lookup ?_)
  exact wpAny_pure q
theorem C1L {s:Shared} {a:Addr} {xs:Array Value} {x:Value} {Q:List Value→Shared→Prop} (hs:s.heap.IsList a xs) (hh:A.handled=none) (hh1:A.in1.handled=none) (big:xs.size≤sizeLine) (hx:xs[0]? =some x)
    (hQ:∀(hp:Heap) (tk:Nat),(∀b o,s.heap.get? b=some o→hp.get? b=some o)→s.toks≤tk→Q [x,.ref hp.objs.size] { s with heap:=hp.push { cls:= .type "list",data:= .seq (xs.toList.drop 1).toArray },toks:=tk }):
    wpAny (model P w) A (unpackItems (.ref a) 2 (some 1)) Q E s:=by
  have la:a < s.heap.objs.size:=by obtain ⟨o,e,_⟩:=hs;exact Heap.lt_size e
  refine B3X (T:="list_iterator") (St:=fun i h=> h.IsListIter s.heap.objs.size a i∧h.IsList a xs) (h1:=s.heap.push { cls:= .type "list_iterator",data:= .fields #[.ref a,.int 0 0] }) (.inr (.inr (.inl rfl))) (fun Q q=> ?_) (fun Q q=> wpAny_pyIter_list hs q)
    (fun B hB=> Walks.list hB _ a (Nat.ne_of_lt la) xs) (fun i h t e y=> by subst e;exact y.1.typeIs) ⟨⟨_,Heap.get?_push_size _ rfl,rfl,rfl⟩,hs.push _⟩ hh hh1 big (fun b o e=> Heap.get?_push_of_some _ e) la hx (by rw [Heap.size_push];exact Nat.lt_succ_self _) hQ
  unfold notIterableAtAll
  refine wpAny_bind (wpAny_specialOf hs.typeIs F.slot_list_iter.lookup ?_)
  exact wpAny_pure q
end
section
variable {X:Cx} {G:Gx} {e t1 t2:Expr} {sp pos tpos:Pos} {kk:Nat}
def B6R (K:PySem.W.Frag) (g1 g2:TG):TG:=fun v σ H Q=> ∃a x r,v= .ref a∧(SqT K H a (x::r)∨SqL K H a (x::r))∧∀l,H l=none→g1 x σ (upd H l (.lst r)) fun σ1 H1=> g2 (.ref l) σ1 H1 Q
theorem C3f {g1 g2:TG} (hc:X.calm=true) (h1:PG X t1 g1) (h2:PG X t2 g2) (hs:(assignEach [t1,.Starred t2 sp] X.env)=[(false,assign t1 X.env),(true,assign t2 X.env)]:=by rfl):PG X (.Tuple [t1,.Starred t2 sp] kk tpos) (B6R X.K g1 g2):=by
  refine ⟨fun pins s σ H v u Q I rv h=> ?_⟩
  obtain ⟨a,x,r,rfl,hq,h⟩:=h
  obtain rfl:u= .ref a:=rv
  rw [assign_Tuple]
  refine wpAny_bind (wpAny_standAt ?_)
  unfold unpack
  rw [hs]
  have hh:=I.ok.hd hc
  have go:∀(vv:Value) (us:List Value),RelV x vv→Vals r us→us.length≤sizeLine→∀(hp:Heap) (tk:Nat),(∀b o,s.heap.get? b=some o→hp.get? b=some o)→s.toks≤tk→
      wpAny (model X.prog X.w) X.A (assignInOrder [assign t1 X.env,assign t2 X.env] [vv,.ref hp.objs.size]) (fun _ s'=> ∃σ' H',Inv X pins σ' H' s'∧Q σ' H') X.xe { s with heap:=hp.push { cls:= .type "list",data:= .seq us.toArray },toks:=tk }:=fun vv us rx rr hz hp tk old ht=> by
    have I1:Inv X pins σ H { s with heap:=hp,toks:=tk }:=I.kept old
    have I2:Inv X pins σ (upd H hp.objs.size (.lst r)) { s with heap:=hp.push { cls:= .type "list",data:= .seq us.toArray },toks:=tk }:=
      I1.laid (fun b o e=> Heap.get?_push_of_some _ e) (Nat.le_refl _) (show ObjOk X.prog X.w _ _ _ (.lst r) from ⟨by rw [rr.length];exact hz,us,0,rr,Heap.get?_push_size _ rfl⟩)
    refine assignInOrder_cons (thn (h1.run pins _ σ _ _ _ _ I2 rx (h _ I1.fresh)) fun _ s2 ⟨σ2,H2,I3,q3⟩=> ?_)
    refine assignInOrder_cons (thn (h2.run pins _ σ2 _ _ _ _ I3 (show RelV (.ref hp.objs.size) (.ref hp.objs.size) from rfl) q3) fun _ s3 ⟨σ3,H3,I4,q4⟩=> ?_)
    exact assignInOrder_nil ⟨σ3,H3,I4,q4⟩
  rcases hq with hq | hq
  · obtain ⟨its,rr,pl,hz⟩:=I.tuple hq
    cases rr with
    | cons rx rr=>
      rename_i vv us
      refine wpAny_bind (wpAny_holding (C0f pl hh hh (by have:=rr.length;simp at hz ⊢;omega) (x:=vv) (by simp) fun hp tk old ht=> ?_))
      exact go vv us rx rr (by have:=rr.length;simp at hz;omega) hp tk old ht
  · obtain ⟨its,rr,pl,hz⟩:=I.list hq
    cases rr with
    | cons rx rr=>
      rename_i vv us
      refine wpAny_bind (wpAny_holding (C1L pl.isList hh hh (by have:=rr.length;simp at hz ⊢;omega) (x:=vv) (by simp) fun hp tk old ht=> ?_))
      exact go vv us rx rr (by have:=rr.length;simp at hz;omega) hp tk old ht
end
end Ab
namespace Ab
open PySem PySem.Spec PyProof.Rows L2 RZ
def aStar (i j:Nat) (tv:D5):D1:=fun D env h=> tv env h fun w env1 h1=> match w with
  | .tup (x::r)=> D.nx ((env1.set i (some (.val x))).set j (some (.own (.seq r)))) h1
  | .lst (x::r)=> D.nx ((env1.set i (some (.val x))).set j (some (.own (.seq r)))) h1
  | _=> False
section
variable {X:Cx} {G:Gx} {e:Expr} {tv:D5} {px py sp pos tpos:Pos} {kk i j:Nat} {x y:Str}
theorem aStar.mono (m:B9 tv):x9 (aStar i j tv):=fun D D' env h l q=> m env h _ _ (fun w env1 h1 z=> by
  split at z
  · exact l.nx _ _ z
  · exact l.nx _ _ z
  · exact z) q
theorem B5Q (gk:G.K=X.K) (hc:X.calm=true) (hN:X.N.Nodup) (hi:X.N[i]? =some x) (hj:X.N[j]? =some y) (hx:Loc X.env.scope x) (hy:Loc X.env.scope y) (he:AV X G e tv)
    (fx:X.fn x=true∨X.env.scope.names.lookup x=some .local:=by first | exact .inl rfl | exact .inr rfl) (fy:X.fn y=true∨X.env.scope.names.lookup y=some .local:=by first | exact .inl rfl | exact .inr rfl)
    (hs:swapsWithSole [.Tuple [.Name x px,.Starred (.Name y py) sp] kk tpos] e pos.line X.env=pure false:=by rfl) (hw:swappedStores [.Tuple [.Name x px,.Starred (.Name y py) sp] kk tpos] e X.env=pure none:=by rfl)
    (h1:(assignEach [.Tuple [.Name x px,.Starred (.Name y py) sp] kk tpos] X.env).map (·.2)=[assign (.Tuple [.Name x px,.Starred (.Name y py) sp] kk tpos) X.env]:=by rfl)
    (h2:(assignEach [.Name x px,.Starred (.Name y py) sp] X.env)=[(false,assign (.Name x px) X.env),(true,assign (.Name y py) X.env)]:=by rfl):
    AS X G (.Assign [.Tuple [.Name x px,.Starred (.Name y py) sp] kk tpos] e pos) (aStar i j tv):=by
  refine ⟨aStar.mono he.mono,PS.imp (ps_asg he.pe (C3f hc (pg_name hN hi hx fx) (pg_name hN hj hy fy) h2) hs hw h1) fun D σ H ⟨env,h,Da,S,q,l⟩=> ?_⟩
  refine ⟨env,h,S,he.mono env h _ _ (fun w env1 h1 z v H1 S1 x1 r1=> ?_) q⟩
  have kp:=x1.keeps S
  have go:∀(a:Addr) (x0:W) (r:List W) (vs:List V),v= .ref a→(SqT X.K H1 a vs∨SqL X.K H1 a vs)→RepL G.K H1 (x0::r) vs→Da.nx ((env1.set i (some (.val x0))).set j (some (.own (.seq r)))) h1→B6R X.K (gName i) (gName j) v σ H1 D.nx:=fun a x0 r vs ev hq rl z=> by
    obtain ⟨u,us,rfl,ru,rr⟩:=rl.of_cons
    refine ⟨a,u,us,ev,hq,fun p hp=> ?_⟩
    have nw:New H1 (upd H1 p (.lst us)):=New.upd hp
    have S2:=nw.bs S1
    obtain ⟨g1,g2,g3⟩:=S1.noAt hp
    have S3:BS G (env1.set i (some (.val x0))) h1 (σ.set i (some u)) (upd H1 p (.lst us)):=S2.set (r:= .val x0) i (Rep.mono nw.keeps _ _ ru) trivial
    have no:¬OwnAt (env1.set i (some (.val x0))) (σ.set i (some u)) p:=fun ⟨m,c,e1,e2⟩=> by
      by_cases hm:i=m
      · subst hm
        by_cases hl:i < env1.length
        · rw [List.getElem?_set_self hl] at e1;cases e1
        · rw [List.getElem?_eq_none (by rw [List.length_set];omega)] at e1;cases e1
      · rw [List.getElem?_set_ne hm] at e1 e2
        exact g3 ⟨m,c,e1,e2⟩
    have S4:=S3.set (r:= .own (.seq r)) j (v:= .ref p) ⟨p,rfl,⟨us,upd_same,RepL.mono nw.keeps _ _ rr⟩,g1,g2,no⟩ trivial
    exact l.nx _ _ _ _ S4 (kp.trans nw.keeps) z
  split at z
  · rename_i x0 r
    obtain ⟨a,vs,ev,hq,rl⟩:=Rep.of_tup (K:=G.K) (H:=H1) r1
    exact go a x0 r vs ev (.inl (gk▸hq)) rl z
  · rename_i x0 r
    obtain ⟨a,vs,ev,hq,rl⟩:=Rep.of_lst (K:=G.K) (H:=H1) r1
    exact go a x0 r vs ev (.inr hq.sq) rl z
  · exact z.elim
end
theorem A1c {X:Cx} {G:Gx} {x:Str} {i:Int} {pos:Pos} (hg:Gl X x) (hm:∃t,X.mg x=some (.int i t)) (hd:(x==("__debug__":Str))=false:=by decide):AE X G (.Name x pos) (aC (.int i)):=by
  obtain ⟨t,hm⟩:=hm
  exact A2j (v:= .int i) (pe_glob (v:= .int i) hg hm ⟨t,rfl⟩ hd) fun _=> .int
theorem B0W {X:Cx} {G:Gx} {x:Str} {ws:List W} {pos:Pos} (gk:G.K=X.K) (hg:Gl X x) (hm:∃a vs,X.mg x=some (.ref a)∧(∀H,SqT X.K H a vs)∧∀H,RepL X.K H ws vs) (hd:(x==("__debug__":Str))=false:=by decide) (hne:ws≠[]:=by simp):AE X G (.Name x pos) (aC (.tup ws)):=by
  obtain ⟨a,vs,hm,hq,hr⟩:=hm
  exact A2j (v:= .ref a) (pe_glob (v:= .ref a) hg hm rfl hd) fun H=> gk▸ .tup (C3b (fun e=> hne (by have:=(hr H).length;rw [e] at this;simpa using this)) hq H) (hr H)
end Ab
namespace Ab
open PySem PySem.Spec PyProof.Rows L2 RZ
open Sem (wp)
structure Itr (v:Value) (C:Heap→Prop) (at_:Heap→Addr) (nx:Heap→Heap):Prop where
  go:∀(P:Program) (w:World) (A:Around) (E:Value→Shared→Prop) (s:Shared) (Q:Value→Shared→Prop),C s.heap→Q (.ref (at_ s.heap)) { s with heap:=nx s.heap }→wpAny (model P w) A (pyIter v) Q E s
abbrev B1N (it:Addr):Obj:={ cls:= .type "enumerate",data:= .fields #[.none,.bool false,.ref it,rawInt 0,.none,.none] }
theorem C1k {v:Value} {C:Heap→Prop} {at_:Heap→Addr} {nx:Heap→Heap} (B:Itr v C at_ nx):
    Meets (Builtin.«enumerate.__new__» ⟨[.type "enumerate",v],[]⟩) (fun _ R s=> C s.heap∧R (.ok (.ret (.ref (nx s.heap).objs.size))) { s with heap:=(nx s.heap).push (B1N (at_ s.heap)) }):=
  .of_wp fun P w A R s h=> by
    obtain ⟨hp,gs,dr,tk,os⟩:=s
    obtain ⟨c1,h⟩:=h
    have hsub:=sub_enumerate
    have step:∀{B':Around} {E:Value→Shared→Prop} {Q:Value→Shared→Prop},Q (.ref (at_ hp)) ⟨nx hp,gs,dr,tk,os⟩→wpAny (model P w) B' (pyIter v) Q E ⟨hp,gs,dr,tk,os⟩:=
      fun q=> B.go P w _ _ ⟨hp,gs,dr,tk,os⟩ _ c1 q
    wp_walk using step
    refine wpAny_stack_any fun st=> wpAny_pure ?_
    split
    · rename_i c _ _ _ _ _
      cases (c==Value.type "enumerate") <;> (wp_walk using step;exact ⟨_,rfl,h⟩)
    · wp_walk using step
      exact ⟨_,rfl,h⟩
section
variable {P:Program} {w:World} {A:Around} {E:Value→Shared→Prop} {s:Shared}
theorem B5e {v:Value} {C:Heap→Prop} {at_:Heap→Addr} {nx:Heap→Heap} (B:Itr v C at_ nx) (c:C s.heap) {Q:Value→Shared→Prop}
    (h:∀h',h'=(nx s.heap).push (B1N (at_ s.heap))→IsEnum h' (nx s.heap).objs.size (at_ s.heap) 0 .none→Q (.ref (nx s.heap).objs.size) { s with heap:=h' }):
    wpAny (model P w) A (call (.type "enumerate") [v]) Q E s:=by
  refine callType_new F.called_enumerate (by decide) (F.typeCall_enumerate_1 _) (F.newCall_enumerate_1 _) (fun obj=> F.args_object_init_2 obj _) F.entry_enumerate_new (C1k B) ⟨c,?_⟩
  have g:IsEnum ((nx s.heap).push (B1N (at_ s.heap))) (nx s.heap).objs.size (at_ s.heap) 0 .none:=Heap.get?_push_size _ rfl
  exact ⟨⟨_,g,rfl⟩,h _ rfl g⟩
end
theorem C1I (a:Addr) (xs:Array Value):Itr (.ref a) (fun h=> h.IsTuple a xs) (fun h=> h.objs.size) (fun h=> h.push { cls:= .type "tuple_iterator",data:= .fields #[.ref a,.int 0 0] }):=
  ⟨fun P w A E s Q c q=> wpAny_pyIter_tuple c q⟩
theorem C1W (a:Addr) (xs:Array Value):Itr (.ref a) (fun h=> h.IsList a xs) (fun h=> h.objs.size) (fun h=> h.push { cls:= .type "list_iterator",data:= .fields #[.ref a,.int 0 0] }):=
  ⟨fun P w A E s Q c q=> wpAny_pyIter_list c q⟩
def B1n (K:PySem.W.Frag) (a:Addr):It:=
  ⟨fun i H=> ∃(xs:List V) (x:V),SqT K H a xs∧xs[i]? =some x,fun i H v H'=> ∃T x,v= .ref T∧H T=none∧H'=upd H T (.tup [.int (i:Nat),x])∧∀xs,SqT K H a xs→xs[i]? =some x,fun i H=> ∃xs:List V,SqT K H a xs∧xs.length≤i⟩
theorem C2F {P:Program} {w:World} {K:PySem.W.Frag} {elts:List Expr} {kk:Nat} {tpos:Pos} (a en it:Addr):
    Turn P w K (.Tuple elts kk tpos) (B1n K a) [en,it] en (fun i h=> (∃old,IsEnum h en it ((i:Nat):Int) old)∧h.IsTupleIter it a i∧en≠it) where
  mem:=by simp
  obj:=fun i h st b hb=> by
    obtain ⟨⟨old,g⟩,⟨o,ho,hc,hd⟩,_⟩:=st
    rcases (show b=en∨b=it by simpa using hb) with z | z
    · rw [z];exact ⟨_,g,fun v q=> nomatch q⟩
    · rw [z];exact ⟨o,ho,fun v q=> by rw [hd] at q;cases q⟩
  keep:=fun i h h' ⟨⟨old,g⟩,hi,ne⟩ k=> ⟨⟨old,k en (by simp) _ g⟩,hi.at fun o q=> k it (by simp) o q,ne⟩
  item:=by
    intro X hP hw hK hc i pins s σ H E I hf ⟨⟨old,g⟩,hit,ne⟩ ⟨xs,x,hq,hx⟩
    subst hP hw hK
    obtain ⟨its,rv,tp,hz⟩:=I.tuple hq
    obtain ⟨u,hu,ru⟩:=rv.get hx
    have hel:en < s.heap.objs.size:=Heap.lt_size g
    have hil:it < s.heap.objs.size:=by obtain ⟨_,q,_⟩:=hit;exact Heap.lt_size q
    have ai:a≠it:=fun z=> by
      obtain ⟨o1,e1,c1,_⟩:=tp
      obtain ⟨o2,e2,c2,_⟩:=hit
      rw [z,e2] at e1
      cases e1
      rw [c2] at c1
      exact absurd (Value.type.inj c1) (by decide)
    have ae:en∉[it,a]:=fun z=> by
      rcases (show en=it∨en=a by simpa using z) with z | z
      · exact ne z
      · obtain ⟨o1,e1,c1,_⟩:=tp
        rw [←z] at e1
        rw [show s.heap.get? en=_ from g] at e1
        cases e1
        exact absurd (Value.type.inj c1) (by decide)
    have hlt:i < its.toArray.size:=by
      have:=(List.getElem?_eq_some_iff.mp hu).1
      simpa using this
    refine wpAny_pyNext_enum_itemD (Draws.tuple (show X.A.in1.handled=none from I.ok.hd hc) it a ai its.toArray) g ⟨hit,tp⟩ hlt ne ae fun y h1 tk py out st2 hT hsz keep=> ?_
    have ey:y=u:=by
      have py:its.toArray[i]? =some y:=py
      have:its[i]? =some y:=by simpa using py
      rw [hu] at this
      exact (Option.some.inj this).symm
    subst ey
    refine ⟨_,rfl,wpAny_letOwnedTupleGo_enum (s:={ s with heap:=h1,toks:=tk+1 }) out fun h2 g2 sb=> ?_⟩
    have hT2:h2.get? s.heap.objs.size=some { cls:= .type "tuple",data:= .seq #[.int i tk,y] }:=(sb.2 _ (Nat.ne_of_gt hel)).trans hT
    have new:ObjOk X.prog X.w (upd H s.heap.objs.size (.tup [.int (i:Nat),x])) h2 s.heap.objs.size (.tup [.int (i:Nat),x]):=
      ⟨by show 2≤sizeLine;decide,[.int i tk,y],.cons ⟨_,rfl⟩ (.cons ru .nil),⟨_,hT2,rfl,_,rfl⟩⟩
    have I1:Inv X pins σ (upd H s.heap.objs.size (.tup [.int (i:Nat),x])) { s with heap:=h2,toks:=tk+1 }:=
      I.turnedNew (ch:=[en,it]) (fun b ob hb q=> (sb.2 b (fun z=> hb (by simp [z]))).trans (keep b ob (fun z=> hb (by simp [z])) (fun z=> hb (by simp [z])) q)) hf (Nat.le_refl _) new
    refine ⟨.ref s.heap.objs.size,_,I1,rfl,⟨_,x,rfl,I.hok.fresh (Nat.le_refl _),rfl,fun ys hy=> by rw [I.tuple_inj hy hq];exact hx⟩,⟨⟨y,?_⟩,st2.1.at fun o q=> (sb.2 it (Ne.symm ne)).trans q,ne⟩,fun b hb=> ?_⟩
    · rw [show ((i+1:Nat):Int)=(i:Int)+1 by omega];exact g2
    · have lt:b < s.heap.objs.size:=by
        rcases (show b=en∨b=it by simpa using hb) with z | z
        · rw [z];exact hel
        · rw [z];exact hil
      rw [upd_ne (Nat.ne_of_lt lt)]
      exact (hf b hb).1
  done:=by
    intro X hP hw hK hc i pins s σ H E I hf ⟨⟨old,g⟩,hit,ne⟩ ⟨xs,hq,hx⟩
    subst hP hw hK
    obtain ⟨its,rv,tp,hz⟩:=I.tuple hq
    obtain ⟨f0,f1,f2,f3,f4,f5⟩:=hf it (by simp)
    have ai:a≠it:=fun z=> by
      obtain ⟨o1,e1,c1,_⟩:=tp
      obtain ⟨o2,e2,c2,_⟩:=hit
      rw [z,e2] at e1
      cases e1
      rw [c2] at c1
      exact absurd (Value.type.inj c1) (by decide)
    have hn:its.toArray[i]? =none:=by
      have:=rv.length
      rw [Array.getElem?_eq_none_iff]
      simp
      omega
    have D:Draws X.prog X.w X.A.in1 it [it,a] i (fun _ _=> False) (fun j h=> j=i∧h.IsTupleIter it a i∧h.IsTuple a its.toArray):=
      ⟨fun j h ⟨_,⟨o,ho,_⟩,_⟩=> ⟨o,ho⟩,fun j h h' ⟨e,x1,x2⟩ k=> ⟨e,x1.at fun o q=> k it (by simp) o q,x2.at fun o q=> k a (by simp) o q⟩,fun j t Q E lt ⟨e,_⟩=> absurd lt (by rw [e];exact Nat.lt_irrefl _),
        fun t Q E ⟨_,x1,x2⟩ hE=> wpAny_nextOf_tuple_end (show X.A.in1.handled=none from I.ok.hd hc) x1 x2 hn hE⟩
    exact wpAny_pyNext_enum_endD D g ⟨rfl,hit,tp⟩ fun h' eb=> ⟨rfl,I.turned (t':=s.toks) (fun b o hb q=> eb b o hb q) f0 f1 f3 f4 f5⟩
  self:=fun A i s Q E ⟨⟨_,g⟩,_⟩ q=> wpAny_pyIter_enum g q
def C6O (K:PySem.W.Frag) (ta:TA):TI:=fun σ H R=> ta σ H fun vs H1=> ∃a xs,vs=[.ref a]∧((SqT K H1 a xs∧R (B1n K a) H1)∨(SqL K H1 a xs∧R (Ite K a) H1))
theorem B50 {X:Cx} {e:Expr} {ta:TA} {p pos tpos:Pos} {elts:List Expr} {kk:Nat} (hg:Gl X "enumerate") (hm:X.mg "enumerate"=none) (ha:PA X [e] ta) (hs:starEach [e] X.env=[(false,eval e X.env)]:=by rfl):
    PI X (.Tuple elts kk tpos) (.Call (.Name "enumerate" p) [e] [] pos) (C6O X.K ta):=by
  refine ⟨fun pins s σ H R I h=> ?_⟩
  refine Call_ (ld_blt I hg hm boot_enumerate (PyProof.Rows.callWith_type1 (thn (ha.run pos pins s σ H _ I h) fun us s1 ⟨vs,H1,I1,r1,a,xs,ex,hqq⟩=> ?_) hs rfl))
  subst ex
  cases r1 with
  | cons r rr=>
    cases rr
    cases r
    rcases hqq with ⟨hq,q⟩ | ⟨hq,q⟩
    · obtain ⟨its,rv,tp,hz⟩:=I1.tuple hq
      refine B5e (C1I a its.toArray) tp fun h' eh g=> wpAny_pyIter_enum g ?_
      have sz:(s1.heap.push { cls:= .type "tuple_iterator",data:= .fields #[.ref a,.int 0 0] }).objs.size=s1.heap.objs.size+1:=Heap.size_push ..
      have I2:Inv X pins σ H1 { s1 with heap:=h' }:=I1.kept (t':=s1.toks) fun b o y=> by rw [eh];exact Heap.get?_push_of_some _ (Heap.get?_push_of_some _ y)
      have hit:h'.IsTupleIter s1.heap.objs.size a 0:=⟨_,by rw [eh];exact Heap.get?_push_of_some _ (Heap.get?_push_size _ rfl),rfl,rfl⟩
      rw [sz] at g ⊢
      refine ⟨s1.heap.objs.size+1,[s1.heap.objs.size+1,s1.heap.objs.size],_,_,H1,rfl,I2,C2F a (s1.heap.objs.size+1) s1.heap.objs.size,⟨⟨.none,g⟩,hit,Nat.succ_ne_self _⟩,fun b hb=> ?_,q⟩
      have le:s1.heap.objs.size≤b:=by
        rcases (show b=s1.heap.objs.size+1∨b=s1.heap.objs.size by simpa using hb) with z | z
        · rw [z];exact Nat.le_succ _
        · rw [z];exact Nat.le_refl _
      exact I1.fpOk le (I1.hok.fresh le)
    · obtain ⟨its,rv,tp,hz⟩:=I1.list hq
      refine B5e (C1W a its.toArray) tp.isList fun h' eh g=> wpAny_pyIter_enum g ?_
      have sz:(s1.heap.push { cls:= .type "list_iterator",data:= .fields #[.ref a,.int 0 0] }).objs.size=s1.heap.objs.size+1:=Heap.size_push ..
      have I2:Inv X pins σ H1 { s1 with heap:=h' }:=I1.kept (t':=s1.toks) fun b o y=> by rw [eh];exact Heap.get?_push_of_some _ (Heap.get?_push_of_some _ y)
      have hit:h'.IsListIter s1.heap.objs.size a 0:=⟨_,by rw [eh];exact Heap.get?_push_of_some _ (Heap.get?_push_size _ rfl),rfl,rfl⟩
      rw [sz] at g ⊢
      refine ⟨s1.heap.objs.size+1,[s1.heap.objs.size+1,s1.heap.objs.size],_,_,H1,rfl,I2,turn_enum a (s1.heap.objs.size+1) s1.heap.objs.size,⟨⟨.none,g⟩,hit,Nat.succ_ne_self _⟩,fun b hb=> ?_,q⟩
      have le:s1.heap.objs.size≤b:=by
        rcases (show b=s1.heap.objs.size+1∨b=s1.heap.objs.size by simpa using hb) with z | z
        · rw [z];exact Nat.le_succ _
        · rw [z];exact Nat.le_refl _
      exact I1.fpOk le (I1.hok.fresh le)
section
variable {K:PySem.W.Frag}
def V3 (ws:List W):List W:=(List.range ws.length).map fun (i:Nat)=> W.tup [.int (i:Int),ws.getD i .non]
theorem B0N {ws:List W} {i:Nat} {w:W} (h:(V3 ws)[i]? =some w):∃u,ws[i]? =some u∧w= .tup [.int i,u]:=by
  unfold V3 at h
  rw [List.getElem?_map] at h
  cases q:(List.range ws.length)[i]? with
  | none=> rw [q] at h;cases h
  | some j=>
    rw [q] at h
    obtain ⟨hj,e⟩:=List.getElem?_eq_some_iff.mp q
    simp at hj e
    subst e
    cases h
    exact ⟨ws[i],List.getElem?_eq_getElem hj,by simp [List.getD_eq_getElem?_getD,hj]⟩
theorem B0V {ws:List W}:(V3 ws).length=ws.length:=by simp [V3]
theorem A98 {H:Hp} {a:Addr} {ws:List W} {vs:List V} (l:SqT K H a vs) (r:RepL K H ws vs):A2i K (B1n K a) H (V3 ws):=fun H' k i=> by
  refine ⟨fun h=> ⟨vs,k.sqT l,by rw [←r.length];rw [B0V] at h;exact h⟩,fun w e=> ?_⟩
  obtain ⟨u,eu,rfl⟩:=B0N e
  obtain ⟨v,ev,rv⟩:=r.get eu
  refine ⟨⟨vs,v,k.sqT l,ev⟩,fun x H2 ⟨T,y,ex,nT,e2,f⟩=> ?_⟩
  subst ex e2
  have ey:y=v:=Option.some.inj ((f vs (k.sqT l)).symm.trans ev)
  subst ey
  have nw:New H' (upd H' T (.tup [.int (i:Nat),y])):=New.upd nT
  exact ⟨nw,.tup (.inl upd_same) (.cons .int (.cons (Rep.mono (k.trans nw.keeps) _ _ rv) .nil))⟩
theorem B3t {H:Hp} {a:Addr} {ws:List W} {vs:List V} (l:LsF H a vs) (r:RepL K H ws vs):A2i K (Ite K a) H (V3 ws):=fun H' k i=> by
  have l':=(k.lsF l).sq (K:=K)
  refine ⟨fun h=> ⟨vs,l',by rw [←r.length];rw [B0V] at h;exact h⟩,fun w e=> ?_⟩
  obtain ⟨u,eu,rfl⟩:=B0N e
  obtain ⟨v,ev,rv⟩:=r.get eu
  refine ⟨⟨vs,v,l',ev⟩,fun x H2 ⟨T,y,ex,nT,e2,f⟩=> ?_⟩
  subst ex e2
  have ey:y=v:=Option.some.inj ((f vs l').symm.trans ev)
  subst ey
  have nw:New H' (upd H' T (.tup [.int (i:Nat),y])):=New.upd nT
  exact ⟨nw,.tup (.inl upd_same) (.cons .int (.cons (Rep.mono (k.trans nw.keeps) _ _ rv) .nil))⟩
end
def iEn (t:D5):X6:=fun env h Q=> t env h fun w env' h'=> match w with
  | .tup ws=> Q (V3 ws) env' h'
  | .lst ws=> Q (V3 ws) env' h'
  | .emp=> Q [] env' h'
  | _=> False
section
variable {X:Cx} {G:Gx} {e:Expr} {tv:D5} {p pos tpos:Pos} {elts:List Expr} {kk:Nat}
theorem iEn.mono (m:B9 tv):B9 (iEn tv):=fun env h Q Q' k q=> m env h _ _ (fun w e g z=> by
  split at z
  · exact k _ _ _ z
  · exact k _ _ _ z
  · exact k _ _ _ z
  · exact z) q
theorem B5X (gk:G.K=X.K) (hg:Gl X "enumerate") (hm:X.mg "enumerate"=none) (ha:AV X G e tv) (hs:starEach [e] X.env=[(false,eval e X.env)]:=by rfl):AI X G (.Tuple elts kk tpos) (.Call (.Name "enumerate" p) [e] [] pos) (iEn tv):=by
  have pa:PA X [e] (cA G (aCons tv aNil)):=(C9 (es:=[]) ha K8 hs).pa
  refine ⟨iEn.mono ha.mono,PI.imp (B50 hg hm pa hs) fun σ H R ⟨env,h,S,q⟩=> ⟨env,h,S,ha.mono env h _ _ (fun w e g z vs H1 S1 x1 r1=> ?_) q⟩⟩
  obtain ⟨v,t,rfl,r2,r3⟩:=r1.of_cons
  rw [r3.of_nil]
  split at z
  · obtain ⟨a,xs,ev,hq,rl⟩:=Rep.of_tup (K:=G.K) (H:=H1) r2
    subst ev
    exact ⟨a,xs,rfl,.inl ⟨gk▸hq,z _ H1 S1 x1 (gk▸A98 hq rl)⟩⟩
  · obtain ⟨a,xs,ev,hq,rl⟩:=Rep.of_lst (K:=G.K) (H:=H1) r2
    subst ev
    exact ⟨a,xs,rfl,.inr ⟨hq.sq,z _ H1 S1 x1 (gk▸B3t hq rl)⟩⟩
  · obtain ⟨a,ev,eq⟩:=Rep.of_emp (K:=G.K) (H:=H1) r2
    subst ev
    exact ⟨a,[],rfl,.inl ⟨gk▸eq.sq,z _ H1 S1 x1 (gk▸A98 (ws:=[]) eq.sq .nil)⟩⟩
  · exact z.elim
end
end Ab
namespace Ab
open PySem PySem.Spec PyProof.Rows L2 RZ
open Sem (wp)
section
variable {P:Program} {w:World} {A:Around} {E:Value→Shared→Prop} {s:Shared} {z TI TO i1 i2:Addr} {fp1 fp2:List Addr} {n1 n2 i:Nat} {P1 P2:Nat→Value→Prop} {St1 St2:Nat→Heap→Prop} {a1 a2 f0 f1:Value}
end
end Ab
namespace Ab
open PySem PySem.Spec PyProof.Rows L2 RZ
open Sem (wp)
section
variable {P:Program} {w:World} {A:Around} {E:Value→Shared→Prop} {s:Shared} {en it:Addr} {old:Value} {ch:List Addr}
end
section
variable {P:Program} {w:World} {A:Around} {E:Value→Shared→Prop} {s:Shared} {z TI TO i1 i2:Addr} {fp1 fp2:List Addr} {n1 n2 i:Nat} {P1 P2:Nat→Value→Prop} {St1 St2:Nat→Heap→Prop} {a1 a2 f0 f1:Value}
end
end Ab
namespace Ab
open PySem PySem.Spec PyProof.Rows L2 RZ
open Sem (wp)
def ItAt (k:Bool) (h:Heap) (it a:Addr) (i:Nat):Prop:=if k=true then h.IsTupleIter it a i else h.IsListIter it a i
def HpAt (k:Bool) (h:Heap) (a:Addr) (xs:Array Value):Prop:=if k=true then h.IsTuple a xs else h.IsList a xs
theorem ItAt.keep {k:Bool} {h h':Heap} {it a:Addr} {i:Nat} (x:ItAt k h it a i) (y:∀o,h.get? it=some o→h'.get? it=some o):ItAt k h' it a i:=by
  cases k with
  | true=> exact Heap.IsTupleIter.at (show h.IsTupleIter it a i from x) y
  | false=> exact Heap.IsListIter.at (show h.IsListIter it a i from x) y
theorem ItAt.obj {k:Bool} {h:Heap} {it a:Addr} {i:Nat} (x:ItAt k h it a i):∃o,h.get? it=some o∧∀v,o.data≠ .cell v:=by
  cases k with
  | true=>
    obtain ⟨o,e,_,d⟩:h.IsTupleIter it a i:=x
    exact ⟨o,e,fun v q=> by rw [d] at q;cases q⟩
  | false=>
    obtain ⟨o,e,_,d⟩:h.IsListIter it a i:=x
    exact ⟨o,e,fun v q=> by rw [d] at q;cases q⟩
theorem HpAt.keep {k:Bool} {h h':Heap} {a:Addr} {xs:Array Value} (x:HpAt k h a xs) (y:∀o,h.get? a=some o→h'.get? a=some o):HpAt k h' a xs:=by
  cases k with
  | true=> exact Heap.IsTuple.at (show h.IsTuple a xs from x) y
  | false=> exact Heap.IsList.at (show h.IsList a xs from x) y
theorem HpAt.lt {k:Bool} {h:Heap} {a:Addr} {xs:Array Value} (x:HpAt k h a xs):a < h.objs.size:=by
  cases k with
  | true=> obtain ⟨o,e,_⟩:h.IsTuple a xs:=x;exact Heap.lt_size e
  | false=> obtain ⟨o,e,_⟩:h.IsList a xs:=x;exact Heap.lt_size e
structure EzSep (en z TI TO i1 i2 a b:Addr):Prop where
  S:ZipSep2 z TI TO i1 i2 [i1,a] [i2,b]
  ez:en≠z
  eT:en≠TI
  eO:en≠TO
  e1:en≠i1
  e2:en≠i2
  a1:a≠i1
  b2:b≠i2
def ezW (ws us:List W):List W:=V3 (List.zipWith (fun a b=> W.tup [a,b]) ws us)
def W.items:W→Option (List W)
  | .tup xs=> some xs
  | .lst xs=> some xs
  | _=> none
def iEz (t:I6):X6:=fun env h Q=> t env h fun ws env' h'=> match ws with
  | [a,b]=> match a.items,b.items with
    | some xs,some ys=> Q (ezW xs ys) env' h'
    | _,_=> False
  | _=> False
section
variable {X:Cx} {G:Gx} {e e2:Expr} {ta:I6} {p p2 pos pos2 tpos:Pos} {elts:List Expr} {kk:Nat}
theorem iEz.mono (m:B9 ta):B9 (iEz ta):=fun env h Q Q' k q=> m env h _ _ (fun ws e g z=> by
  split at z
  · split at z
    · exact k _ _ _ z
    · exact z
  · exact z) q
end
end Ab
namespace Ab
open PySem PySem.Spec PyProof.Rows L2 RZ
section
variable {X:Cx} {G:Gx} {a b:Expr} {ta tb:AT} {pos:Pos}
end
def aAugS (f:Int→Int→Int) (to ti te:AT):D1:=fun D env h=> to env h fun ro env1 h1=> ti env1 h1 fun ri env2 h2=> match view env2 h2 ri with
  | .wv (.int k)=> (0≤k∧k < 2 ^ 62)∧(match P0 env2 h2 ro with
    | some (.seq xs)=> (match xs[k.toNat]? with
      | some (.int x)=> te env2 h2 fun re env3 h3=> (match view env3 h3 re with
        | .wv (.int y)=> (match P0 env3 h3 ro with
          | some (.seq ys)=> k.toNat < ys.length∧D.nx (A0S env3 ro (.seq (ys.set k.toNat (.int (f x y))))) (A0U h3 ro (.seq (ys.set k.toNat (.int (f x y)))))
          | _=> False)
        | _=> False)
      | _=> False)
    | _=> False)
  | _=> False
section
variable {X:Cx} {G:Gx} {o i e:Expr} {to ti te:AT} {tpos pos:Pos} {op:Operator} {f:Int→Int→Int}
theorem aAugS.mono (mo:B9 to) (mi:B9 ti) (me:B9 te):x9 (aAugS f to ti te):=fun D D' env h l q=> mo env h _ _ (fun ro e g z=> mi e g _ _ (fun ri e g z=> by
  split at z
  · refine ⟨z.1,?_⟩
    have z:=z.2
    split at z
    · split at z
      · refine me e g _ _ (fun re e g z=> ?_) z
        split at z
        · split at z
          · exact ⟨z.1,l.nx _ _ z.2⟩
          · exact z
        · exact z
      · exact z
    · exact z
  · exact z) z) q
end
section
variable {X:Cx} {G:Gx} {a b:Expr} {ta tb:AT} {pos p p2 pos2:Pos}
def B1J (ta:AT):AT:=fun env h Q=> ta env h fun r env1 h1=> match view env1 h1 r with
  | .wv (.int n)=> (0≤n∧n≤16777216)∧Q (.own (.seq (R9 0 n.toNat))) env1 h1
  | _=> False
theorem B4A {K:PySem.W.Frag} {H:Hp}:∀is:List Nat,RepL K H (is.map fun (i:Nat)=> W.int (0+(i:Int))) (is.map fun (i:Nat)=> V.int (0+(i:Int)))
  | []=> .nil
  | i::is=> .cons .int (B4A is)
theorem C3d {K:PySem.W.Frag} {H:Hp} {n:Int}:RepL K H (R9 0 n.toNat) (rgV 0 n):=by
  unfold R9 rgV
  rw [Int.sub_zero]
  exact B4A _
theorem C2Y (hc:X.calm=true) (hg:Gl X "list") (hm:X.mg "list"=none) (hgr:Gl X "range") (hmr:X.mg "range"=none) (ha:AE X G a ta)
    (na:starEach [.Call (.Name "range" p2) [a] [] pos2] X.env=(false,eval (.Call (.Name "range" p2) [a] [] pos2) X.env)::starEach [] X.env:=by rfl) (na2:starEach [a] X.env=(false,eval a X.env)::starEach [] X.env:=by rfl):
    AE X G (.Call (.Name "list" p) [.Call (.Name "range" p2) [a] [] pos2] [] pos) (B1J ta):=by
  refine ⟨fun env h Q Q' k q=> ha.mono env h _ _ (fun r e g z=> ?_) q,PE.imp (pe_listRg hc hg hm (prg_1 hgr hmr ha.pe na2) na) fun σ H Q ⟨env,h,S,q⟩=> ⟨env,h,S,ha.mono env h _ _ (fun r env1 h1 z v H1 S1 x1 r1 f1=> ?_) q⟩⟩
  · split at z
    · exact ⟨z.1,k _ _ _ z.2⟩
    · exact z
  · have rv:=r1.vr S1
    split at z
    · rename_i n en
      rw [en] at rv
      obtain ⟨⟨n0,n1⟩,z⟩:=z
      refine ⟨n,rv.int,.of_le (by omega) (by omega) (by omega) n0,fun p hp=> ?_⟩
      have nw:New H1 (upd H1 p (.lst (rgV 0 n))):=New.upd hp
      obtain ⟨g1,g2,g3⟩:=S1.noAt hp
      exact z (.ref p) _ (nw.bs S1) (x1.trans nw.xt) ⟨p,rfl,⟨_,upd_same,C3d⟩,g1,g2,g3⟩ fun p' e'=> by cases e';exact x1.fresh hp
    · exact z.elim
end
def aExt (to te:AT):AT:=fun env h Q=> to env h fun ro env1 h1=> A85 (P0 env1 h1 ro)∧te env1 h1 fun re env2 h2=> match view env2 h2 re with
  | .cv (.seq ys)=> (match P0 env2 h2 ro with
    | some (.seq xs)=> xs.length+ys.length≤sizeLine∧Q (.val .non) (A0S env2 ro (.seq (xs++ys))) (A0U h2 ro (.seq (xs++ys)))
    | _=> False)
  | _=> False
section
variable {X:Cx} {G:Gx} {o e:Expr} {to te:AT} {apos cpos:Pos}
theorem aExt.mono (mo:B9 to) (me:B9 te):B9 (aExt to te):=fun env h Q Q' k q=> mo env h _ _ (fun ro e g ⟨i,z⟩=> ⟨i,me e g _ _ (fun re e g z=> by
  split at z
  · split at z
    · exact ⟨z.1,k _ _ _ z.2⟩
    · exact z
  · exact z) z⟩) q
theorem B6O (ho:AE X G o to) (he:AE X G e te)
    (hbase:attributeBase o "extend" X.env (eval o X.env)=eval o X.env:=by rfl)
    (hfew:((backTo cpos (starEach [e] X.env)).all (fun x=> !x.1) && (backToKw cpos (keywordEach [] X.env)).all (fun x=> x.1.isSome)
      && decide ([e].length+([]:List Keyword).length+(if ([]:List Keyword).isEmpty then 0 else 1) < 30))=true:=by rfl)
    (hline:(apos.endLine==cpos.line)=true:=by rfl) (hs:starEach [e] X.env=(false,eval e X.env)::starEach [] X.env:=by rfl) (hplain:(backTo cpos (starEach [] X.env)).any (·.1)=false:=by rfl):
    AE X G (.Call (.Attribute o "extend" apos) [e] [] cpos) (aExt to te):=by
  refine ⟨aExt.mono ho.mono he.mono,PE.imp (pe_bm PySem.F.plainAttrs_list PySem.F.slot_list_extend PySem.F.type_list_extend mt_extend ho.pe (F4 (es:=[]) he H7 hs).pa hbase hfew hline hs hplain) fun σ H Q ⟨env,h,S,q⟩=> ?_⟩
  refine ⟨env,h,S,ho.mono env h _ _ (fun ro env1 h1 ⟨is,z⟩ x H1 S1 x1 r1 f1=> ?_) q⟩
  have ty:tyV X.K "list" x H1:=by
    cases e:P0 env1 h1 ro with
    | none=> rw [e] at is;exact is.elim
    | some c=>
      cases c with
      | map _=> rw [e] at is;exact is.elim
      | seq xs=>
        obtain ⟨p,rfl,⟨vs,l,_⟩,_⟩:=A3i S1 r1 e
        exact .inl ⟨rfl,_,.inl (.inl l)⟩
  refine ⟨ty,env1,h1,S1,he.mono env1 h1 _ _ (fun re env2 h2 z vs H2 S2 x2 r2=> ?_) z⟩
  cases r2 with
  | cons rb rr=>
    cases rr
    have rv:=rb.vr S2
    split at z
    · rename_i ys ey
      rw [ey] at rv
      obtain ⟨b,rfl,vb,lb,rlb⟩:=rv
      split at z
      · rename_i xs ex
        obtain ⟨p,rfl,⟨us,lu,rlu⟩,put⟩:=A3i S2 (r1.xt S1 x2) ex
        refine ⟨p,b,us,vb,rfl,rfl,lu,lb,by rw [←rlu.length,←rlb.length];exact z.1,?_⟩
        obtain ⟨S3,x3⟩:=put (.lst (us++vb)) (.seq (xs++ys)) fun kk=> ⟨_,upd_same,RepL.mono kk _ _ (rlu.append rlb)⟩
        exact z.2 .non _ S3 (x1.trans (x2.trans x3)) (show Rep G.K _ _ _ from .non) trivial
      · exact z.elim
    · exact z.elim
end
end Ab
namespace Ab
open PySem PySem.Spec PyProof.Rows L2 RZ
def B1E (i:Nat) (t:AT):D1:=fun D env h=> t env h fun r env1 h1=> match r with
  | .own c=> D.nx (env1.set i (some (.own c))) h1
  | _=> False
section
variable {X:Cx} {G:Gx} {i:Nat} {y:Str} {py:Pos} {elt tg iter:Expr} {ifs:List Expr} {scope:Scope} {own:List (Str×Nat)} {pos spos:Pos} {ti:X6} {g:K5} {tt:L8} {te:D5} {sl:List Nat}
theorem C2E (hc:X.calm=true) (hN:X.N.Nodup) (hy:X.N[i]? =some y) (hk:X.env.scope.kind= .function) (hyl:X.env.scope.names.lookup y=some .local) (hi:AI X G tg iter ti) (ok:BlkOk X.N X.env.scope scope own) (hsl:∀i∈sl,i∈own.map (·.2))
    (hg:∀(s:Shared) (H:Hp) (C:Addr) (cl:List (Str×Addr)) (fp:List Addr),AG (X.blk s H scope (compEnvC scope cl C X.env) fp) G tg sl g) (ht:∀(s:Shared) (H:Hp) (C:Addr) (cl:List (Str×Addr)) (fp:List Addr),APs (X.blk s H scope (compEnvC scope cl C X.env) fp) G ifs tt)
    (he:∀(s:Shared) (H:Hp) (C:Addr) (cl:List (Str×Addr)) (fp:List Addr),AV (X.blk s H scope (compEnvC scope cl C X.env) fp) G elt te)
    (hl:(py.line==pos.line)=true:=by rfl) (hany:(scope.names.any fun (n,k)=> n==y && (k== .local || k== .cell))=false:=by rfl) (hs:∀x,foldedSetIterable iter X.env x=pure x:=by intro _;rfl):
    AS X G (.Assign [.Name y py] (.ListComp elt [⟨tg,iter,ifs,0⟩] scope pos) spos) (B1E i (W1 (own.map (·.2)) ti g tt te)):=by
  have mg:=(hg X.s_0 X.H_0 0 [] []).mono
  have mt:=(ht X.s_0 X.H_0 0 [] []).mono
  have me:=(he X.s_0 X.H_0 0 [] []).mono
  have mo:B9 (W1 (own.map (·.2)) ti g tt te):=fun env h Q Q' k q=> hi.mono env h _ _ (fun ws e1 h1 z=> lcLoop.mono mg mt me (fun a e h q=> k _ _ _ q) ws [] e1 h1 z) q
  refine ⟨fun D D' env h l q=> mo env h _ _ (fun r e k z=> ?_) q,PS.imp (ps_setLc hc hN hy hyl (sw_true hk hyl hl hany) hi.pi ok (fun s H C cl fp=> (hg s H C cl fp).pg) (fun s H C cl fp=> (ht s H C cl fp).pts) (fun s H C cl fp=> (he s H C cl fp).pe) hs) fun D σ H ⟨env,h,Da,S,q,l⟩=> ?_⟩
  · split at z
    · exact l.nx _ _ z
    · exact z
  · refine B5I hi hsl mg mt me ⟨env,h,S,mo env h _ _ (fun r env1 h1 z v H1 S1 x1 r1 f1=> ?_) q⟩
    split at z
    · exact l.nx _ _ _ _ (S1.set i r1 trivial) (x1.keeps S) z
    · exact z.elim
end
end Ab
namespace Ab
open PySem PySem.Spec PyProof.Rows L2 RZ
section
variable {X:Cx} {G:Gx} {es:List Expr} {k n:Nat} {u:A1x} {sl:List Nat} {pos:Pos}
theorem PG.or {tg:Expr} {t t':TG} (a:PG X tg t) (b:PG X tg t'):PG X tg (fun v σ H Q=> t v σ H Q∨t' v σ H Q):=⟨fun pins s σ H v u Q I r q=> q.elim (fun z=> a.run pins s σ H v u Q I r z) fun z=> b.run pins s σ H v u Q I r z⟩
end
end Ab
namespace Ab
open PySem PySem.Spec PyProof.Rows L2 RZ
section
variable (l:Addr) (items:Array Value) (n:Nat) (dd:Option Addr) (sl:Array (Option Value)) (x:Int) (u:Tok)
abbrev B7X:Obj:={ cls:= .type "tuple",dict:=dd,data:= .seq items n,slots:=sl }
theorem C2A (u:Tok):Meets (Builtin.«tuple.__mul__» ⟨[.ref l,.int 1 u],[]⟩)
    (fun _ R s=> s.heap.get? l=some (B7X items n dd sl)∧R (.ok (.ret (Value.ref l))) s):=
  .of_wp fun prog w A R s h=> by
    obtain ⟨hp,g,d,tk,os⟩:=s
    obtain ⟨hl,h⟩:=h
    have f1:=AutoSeq1.idx_int
    have c0:(decide ((1:Int) < -(2 ^ 63)) || decide ((1:Int)≥2 ^ 63))=false:=by decide
    have c1:(items.isEmpty || (1:Int)==1)=true:=by simp
    wp_walk using wpAny_loadPart' hl
    repeat (first
      | (apply wpAny_ite_false (decide_eq_false (by rw [c0];decide));wp_walk using wpAny_loadPart' hl)
      | (apply wpAny_ite_true (decide_eq_true c1);wp_walk using wpAny_loadPart' hl))
    all_goals first | exact ⟨_,rfl,h⟩ | skip
theorem C2M (hx:x≤0) (hx2: -(2 ^ 63)≤x) (hi:items.isEmpty=false):Meets (Builtin.«tuple.__mul__» ⟨[.ref l,.int x u],[]⟩)
    (fun _ R s=> s.heap.get? l=some (B7X items n dd sl)∧
      R (.ok (.ret (Value.ref s.heap.objs.size))) { s with heap:=s.heap.push { cls:=Value.type "tuple",data:=Data.seq #[] },toks:=s.toks }):=
  .of_wp fun prog w A R s h=> by
    obtain ⟨hp,g,d,tk,os⟩:=s
    obtain ⟨hl,h⟩:=h
    have f1:=AutoSeq1.idx_int
    have c0:(decide (x < -(2 ^ 63)) || decide (x≥2 ^ 63))=false:=by
      rw [decide_eq_false (by omega),decide_eq_false (by omega)]
      rfl
    have c1:(items.isEmpty || x==1)=false:=by
      rw [hi,Bool.false_or]
      exact beq_eq_false_iff_ne.mpr (by omega)
    have c2:(decide (x≤0) || items.isEmpty)=true:=by
      rw [decide_eq_true hx]
      rfl
    wp_walk using wpAny_loadPart' hl
    repeat (first
      | (apply wpAny_ite_false (decide_eq_false (by rw [c0];decide));wp_walk using wpAny_loadPart' hl)
      | (apply wpAny_ite_false (decide_eq_false (by rw [c1];decide));wp_walk using wpAny_loadPart' hl)
      | (apply wpAny_ite_true (decide_eq_true c2);wp_walk using wpAny_loadPart' hl))
    all_goals first | exact ⟨_,rfl,h⟩ | skip
end
def B6u (K:PySem.W.Frag):R2:=fun x y H Q=> ∃l k xs,x= .ref l∧y= .int k∧SqT K H l xs∧xs≠[]∧ -(2 ^ 63)≤k∧k≤1000∧xs.length≤1000∧
  (k=1→Q (.ref l) H)∧(k≠1→∀p,H p=none→Q (.ref p) (upd H p (.tup (List.replicate k.toNat xs).flatten)))
theorem C3R {X:Cx}:OpR X (binaryOp .Mult) (B6u X.K):=by
  intro pins s σ H x y v u Q I rx ry h
  obtain ⟨l,k,xs,rfl,rfl,hT,hne,h1,h2,hz,q1,q⟩:=h
  by_cases k2:2≤k
  · exact op_repT pins s σ H _ _ v u Q I rx ry ⟨l,k,xs,rfl,rfl,hT,hne,k2,h2,hz,q (by omega)⟩
  cases rx
  obtain ⟨t,rfl⟩:=ry
  obtain ⟨its,r,⟨⟨cls,dd,data,sl⟩,ho,hc,n,hd⟩,hs⟩:=I.tuple hT
  simp only at hc hd
  subst hc hd
  have hle:its.length=xs.length:=r.length.symm
  have hi:its.toArray.isEmpty=false:=by
    cases its with
    | nil=> exact absurd (List.eq_nil_of_length_eq_zero hle.symm) hne
    | cons a b=> rfl
  have road:∀{R:Value→Shared→Prop} {E:Value→Shared→Prop},wpAny (model X.prog X.w) X.A (call (.builtin "tuple.__mul__") [.ref l,.int k t]) R E s→wpAny (model X.prog X.w) X.A (binaryOp .Mult (.ref l) (.int k t)) R E s:=fun {R E} z=>
    wpAny_binaryOp_repeat_ref (T:="tuple") (U:="int") (by decide) ⟨_,ho,rfl⟩ (fun s'=> typeIs_int s' k t) noFill_tuple_mul F.fills_int_mul F.slot_int_rmul repeat_tuple F.slot_int_index.lookup
      (call_meets F.slot_int_rmul (typeIs_int s k t) F.entry_int_rmul (F.args_int_rmul_2 _ _) (int_rmul_tuple k t l its.toArray n dd sl) ⟨ho,rfl,⟨_,ho,rfl⟩,z⟩)
  by_cases k1:k=1
  · subst k1
    exact road (call_meets F.slot_tuple_mul ⟨_,ho,rfl⟩ F.entry_tuple_mul (F.args_tuple_mul_2 _ _) (C2A l its.toArray n dd sl t) ⟨ho,.ref l,H,I,rfl,q1 rfl⟩)
  · refine road (call_meets F.slot_tuple_mul ⟨_,ho,rfl⟩ F.entry_tuple_mul (F.args_tuple_mul_2 _ _) (C2M l its.toArray n dd sl k t (by omega) h1 hi) ⟨ho,?_⟩)
    have ek:k.toNat=0:=by omega
    have z:=q k1 s.heap.objs.size (I.hok.fresh (Nat.le_refl _))
    rw [ek] at z
    exact ⟨.ref s.heap.objs.size,_,I.laid (t':=s.toks) (o:= .tup []) (fun b ob q=> Heap.get?_push_of_some _ q) (Nat.le_refl _) ⟨by decide,_,.nil,IsTup.new _ _⟩,rfl,z⟩
def oMulT:M7:=fun a b Q=> match b with
  | .wv (.int j)=> match a with
    | .wv (.int i)=> CMulW i j∧Q (.val (.int (i*j)))
    | .cv (.seq xs)=> (-(2 ^ 63)≤j∧j < 2 ^ 63∧xs.length*j.toNat≤sizeLine)∧Q (.own (.seq (List.replicate j.toNat xs).flatten))
    | .wv (.tup xs)=> (-(2 ^ 63)≤j∧j≤1000∧1≤xs.length∧xs.length≤1000)∧Q (.val (.tup (List.replicate j.toNat xs).flatten))
    | _=> False
  | _=> False
theorem oMulT.mono (a b:Vw) (Q Q':RV→Prop) (k:∀r,Q r→Q' r) (q:oMulT a b Q):oMulT a b Q':=by
  unfold oMulT at q ⊢
  split at q
  · split at q
    · exact ⟨q.1,k _ q.2⟩
    · exact ⟨q.1,k _ q.2⟩
    · exact ⟨q.1,k _ q.2⟩
    · exact q
  · exact q
theorem C1s {K:PySem.W.Frag}:OpA K (fun x y H Q=> (rI CMulW (fun i j=> .int (i*j)) x y H Q∨rRep x y H Q)∨B6u K x y H Q) oMulT:=
  ⟨oMulT.mono,fun a b x y H Q0 Q ra rb q k=> by
    unfold oMulT at q
    split at q
    · rename_i j
      have ey:y= .int j:=rb.int
      split at q
      · rename_i i
        have ex:x= .int i:=ra.int
        exact .inl (.inl ⟨i,j,ex,ey,q.1,k _ _ (.val q.2 .int)⟩)
      · rename_i xs
        obtain ⟨p,ex,vs,l,rl⟩:=ra
        exact .inl (.inr ⟨p,j,vs,ex,ey,l,q.1.1,q.1.2.1,by rw [←rl.length];exact q.1.2.2,fun p' n=> k _ _ (.lst n q.2 (rl.rep _))⟩)
      · rename_i xs
        obtain ⟨p,vs,ex,l,rl⟩:=Rep.of_tupT (K:=K) (H:=H) ra
        refine .inr ⟨p,j,vs,ex,ey,l.sq,fun e=> ?_,q.1.1,q.1.2.1,by rw [←rl.length];exact q.1.2.2.2,fun e=> ?_,fun _ p' n=> k _ _ (.tup n q.2 (rl.rep _))⟩
        · have:=rl.length
          rw [e] at this
          have:=q.1.2.2.1
          simp_all
        · subst e
          have q2:=q.2
          rw [show (1:Int).toNat=1 from rfl] at q2
          simp only [List.replicate,List.flatten_cons,List.flatten_nil,List.append_nil] at q2
          exact k _ _ (.val q2 (.tup l rl))
      · exact q.elim
    · exact q.elim⟩
theorem A2O {X:Cx} {G:Gx} {a b:Expr} {ta tb:AT} {pos:Pos} (gk:G.K=X.K) (ha:AE X G a ta) (hb:AE X G b tb):AE X G (.BinOp a .Mult b pos) (aOp2 oMulT ta tb):=A3l ((op_mulW.or op_rep).or C3R) (gk▸C1s) ha hb
end Ab
namespace HT
open PySem PySem.Spec PyProof.Rows
section
variable {prog:Program} {w:World} {A:Around} {E:Value→Shared→Prop} {s:Shared}
end
end HT
namespace Ab
open PySem PySem.Spec PyProof.Rows L2 RZ
section
variable {X:Cx} {e st:Expr} {te ts:TE} {pos p2:Pos}
end
theorem RepL.reverse {K:PySem.W.Frag} {H:Hp}:∀{ws:List W} {vs:List V},RepL K H ws vs→RepL K H ws.reverse vs.reverse
  | [],vs,h=> by rw [h.of_nil];exact .nil
  | w::ws,vs,h=> by
    obtain ⟨v,r,rfl,a,t⟩:=h.of_cons
    rw [List.reverse_cons,List.reverse_cons]
    exact t.reverse.append (.cons a .nil)
def oBack:M3:=fun as Q=> match as with
  | [.wv (.tup xs),.wv (.int i)]=> i= -1∧Q (.val (.tup xs.reverse))
  | _=> False
theorem oBack.mono {as:List Vw} {Q Q':RV→Prop} (k:∀r,Q r→Q' r) (q:oBack as Q):oBack as Q':=by
  unfold oBack at q ⊢
  split at q
  · exact ⟨q.1,k _ q.2⟩
  · exact q.elim
section
variable {X:Cx} {G:Gx} {a st:Expr} {ta ts:AT} {pos p2:Pos}
end
end Ab
namespace Ab
open PySem PySem.Spec PyProof.Rows L2 RZ
def ins (a:Int):List Int→List Int
  | []=> [a]
  | b::r=> if a≤b then a::b::r else b::ins a r
def srt:List Int→List Int
  | []=> []
  | a::r=> ins a (srt r)
def B40:M3:=oInts fun ns Q=> Q (.own (.seq ((srt ns).map W.int)))
end Ab
namespace Ab
open PySem PySem.Spec PyProof.Rows L2 RZ
section
variable {G:Gx} {env env' env2:A1} {h h':AH} {σ:L2.St} {H H1 H2:Hp} {p:Addr}
end
def B1S {α:Type}:List (α×α)→List α
  | []=> []
  | p::r=> p.1::p.2::B1S r
structure AD (X:Cx) (G:Gx) (pos:Pos) (keys:List (Option Expr)) (values:List Expr) (t:I6):Prop where
  mono:B9 t
  all:keys.all (·.isSome)=true
  len:keys.length=values.length
  pp:∃trs,PPs X pos keys values trs∧∀σ H Q env h,BS G env h σ H→(t env h fun ws env' h'=> ∀ps H',BS G env' h' σ H'→Xt env h σ H env' h' H'→RepL G.K H' ws (B1S ps)→Q ps H')→tPairs trs σ H Q
section
variable {X:Cx} {G:Gx} {pos:Pos}
end
end Ab
namespace Ab
open PySem PySem.Spec PyProof.Rows L2 RZ
def B6s (kvs:List (W×W)) (k:Key) (d:W):W:=((kvs.find? fun p=> decide (A1L p.1=some k)).map (·.2)).getD d
def B69 (kvs:List (W×W)):Prop:=kvs≠[]∧∀p∈kvs,(A1L p.1).isSome=true
def aGetD (i:Nat) (tk td:D5):AT:=fun env h Q=> (∃kvs,env[i]? =some (some (.own (.map kvs))))∧tk env h fun w env1 h1=> td env1 h1 fun d env2 h2=>
  ∃kvs key,env2[i]? =some (some (.own (.map kvs)))∧B69 kvs∧A1L w=some key∧Q (.val (B6s kvs key d)) env2 h2
theorem aGetD.mono {i:Nat} {tk td:D5} (m:B9 tk) (n:B9 td):B9 (aGetD i tk td):=fun env h Q Q' k q=>
  ⟨q.1,m env h _ _ (fun w e g z=> n e g _ _ (fun d e g ⟨kvs,key,z1,z2,z3,z4⟩=> ⟨kvs,key,z1,z2,z3,k _ _ _ z4⟩) z) q.2⟩
section
variable {X:Cx} {G:Gx}
end
end Ab
namespace Ab
open PySem PySem.Spec PyProof.Rows L2 RZ
section
variable {X:Cx} {G:Gx}
def aPrm (t:AT):D5:=fun env h Q=> t env h fun r env' h'=> match r with
  | .own c=> ∀p,h' p=none→Q (.ref p) env' (C6 h' p (.cont c))
  | _=> False
theorem aPrm.mono {t:AT} (m:B9 t):B9 (aPrm t):=fun env h Q Q' k q=> m env h _ _ (fun r e g z=> by
  cases r with
  | own c=> exact fun p n=> k _ _ _ (z p n)
  | val w=> exact z.elim
  | slot i=> exact z.elim) q
theorem A1C {e:Expr} {t:AT} (a:AE X G e t):AV X G e (aPrm t):=by
  refine ⟨aPrm.mono a.mono,PE.imp a.pe fun σ H Q ⟨env,h,S,q⟩=> ?_⟩
  refine ⟨env,h,S,a.mono env h _ _ (fun r env1 h1 z v H1 S1 x1 r1 f1=> ?_) q⟩
  cases r with
  | val w=> exact z.elim
  | slot i=> exact z.elim
  | own c=>
    obtain ⟨p,rfl,cr,n,n0,no⟩:=r1
    have fr:H p=none:=f1 p rfl
    refine z p n (.ref p) H1 ⟨S1.len,S1.val,fun j d z=> ?_,S1.uni,fun a o z=> ?_,S1.fr,fun a o z y=> ?_,S1.tr,S1.tabs⟩ ⟨x1.fr,fun q o z y=> ?_,x1.th,x1.sl⟩ .ref
    · obtain ⟨q,a,b,x,y⟩:=S1.own j d z
      have nq:q≠p:=fun z2=> no ⟨j,d,z,by rw [a,z2]⟩
      exact ⟨q,a,b,by rw [F7 nq];exact x,y⟩
    · by_cases ha:a=p
      · subst ha;rw [M2] at z;cases z;exact cr
      · rw [F7 ha] at z;exact S1.hp a o z
    · by_cases ha:a=p
      · subst ha;exact n0
      · rw [F7 ha] at z;exact S1.ext a o z y
    · by_cases hq:q=p
      · subst hq;exact fr
      · rw [F7 hq] at z;exact x1.hn q o z y
def C31 (h:AH) (p:Addr):AH:=fun b=> if b=p then none else h b
def demL:List W→AH→(List W→AH→Prop)→Prop
  | [],h,Q=> Q [] h
  | w::ws,h,Q=> match w with
    | .ref p=> (match h p with
      | some (.cont c)=> demL ws (C31 h p) fun us h'=> Q (c.fz::us) h'
      | _=> False)
    | _=> False
theorem demL.mono:∀{ws:List W} {h:AH} {Q Q':List W→AH→Prop},(∀us h',Q us h'→Q' us h')→demL ws h Q→demL ws h Q'
  | [],h,Q,Q',k,q=> k _ _ q
  | w::ws,h,Q,Q',k,q=> by
    cases w with
    | ref p=>
      unfold demL at q ⊢
      dsimp only at q ⊢
      split at q
      · exact demL.mono (fun us h' q=> k _ _ q) q
      · exact q.elim
    | _=> exact q.elim
end
end Ab
namespace Ab
open PySem PySem.Spec PyProof.Rows L2 LamX
def A6g (f:Addr) (q:Str) (params:Arguments) (body:Expr) (scope:Scope) (cl:List (Str×Addr)) (c:Addr):HO:=
  .ext fun h=> ∃pm ctv:Value,h.get? f=some (PySem.W.kla_obj "<lambda>" q params body scope cl pm c ctv)
theorem C3F {f c:Addr} {q:Str} {params:Arguments} {body:Expr} {scope:Scope} {cl:List (Str×Addr)}:NT (A6g f q params body scope cl c):=fun ps e=> by
  unfold A6g at e;cases e
theorem C1b {c:Addr} {q:Str}:NT (CodeO c q):=fun ps e=> by
  unfold CodeO at e;cases e
section
variable {X:Cx} {pins:List (Addr×Obj)} {σ:L2.St} {H:Hp} {s:Shared} {T:List (Addr×Str)} {c P:Addr} {params:Arguments} {body:Expr} {scope:Scope} {pos:Pos}
structure Made (X:Cx) (T:List (Addr×Str)) (P:Addr) (params:Arguments) (body:Expr) (scope:Scope) (H H1:Hp) (f c:Addr):Prop where
  but:∀b o,H b=some o→b≠P→H1 b=some o
  tab:∃ps,H1 P=some (.tbl ps)
  tabs:Tabs T H1
  new:H f=none
  lam:H1 f=some (A6g f (X.env.qual++"<lambda>") params body scope (cloFrom X.env.cells scope.names []) c)
  code:H1 c=some (CodeO c (X.env.qual++"<lambda>"))
end
end Ab
namespace Ab
open PySem PySem.Spec PyProof.Rows L2 LamX
abbrev ALT:=A1→AH→(Addr→List W→A1→AH→Prop)→Prop
def C5t (t:ALT):Prop:=∀env h Q Q',(∀f ws e k,Q f ws e k→Q' f ws e k)→t env h Q→t env h Q'
structure LamD where
  params:Arguments
  body:Expr
  scope:Scope
def LamF (X:Cx) (d:LamD) (H:Hp) (f:Addr):Prop:=
  ∃c,H f=some (A6g f (X.env.qual++"<lambda>") d.params d.body d.scope (cloFrom X.env.cells d.scope.names []) c)∧H c=some (CodeO c (X.env.qual++"<lambda>"))
def cL (X:Cx) (G:Gx) (d:LamD) (t:ALT):TA:=fun σ H Q=> ∃env h,BS G env h σ H∧t env h fun f ws env' h'=> ∀vs H',BS G env' h' σ H'→Xt env h σ H env' h' H'→RepL G.K H' ws vs→LamF X d H' f→Q vs H'
structure AL (X:Cx) (G:Gx) (d:LamD) (es:List Expr) (n:Nat) (t:ALT):Prop where
  mono:C5t t
  pa:PA X es (cL X G d t)
  ln:∀env h (R:Addr→List W→A1→AH→Prop),t env h R→t env h fun f ws e g=> ws.length=n∧R f ws e g
theorem BS.nmu {G:Gx} {env:A1} {h:AH} {σ:L2.St} {H:Hp} (S:BS G env h σ H) {p:Addr} {o:HO} (e:H p=some o) (i:¬Mu o):h p=none∧¬OwnAt env σ p:=by
  refine ⟨?_,fun ⟨j,c,a,b⟩=> ?_⟩
  · cases q:h p with
    | none=> rfl
    | some u=>
      obtain ⟨o',e',m⟩:=(S.hp p u q).there
      rw [e] at e';cases e'
      exact absurd m i
  · obtain ⟨p',b',cr,_⟩:=S.own j c a
    rw [b] at b';cases b'
    exact i (cr.mu_at e)
theorem BS.but {G:Gx} {env:A1} {h:AH} {σ:L2.St} {H H1:Hp} (S:BS G env h σ H) (b:∀p o,H p=some o→NT o→H1 p=some o) (th:∀p o,H p=some o→∃u,H1 p=some u) (t:TabsK G.K H1):
    BS G env h σ H1∧Xt env h σ H env h H1:=by
  have k:Keeps H H1:=fun p o e i=> b p o e i.nt
  refine ⟨⟨S.len,fun i w e=> ?_,fun i c e=> ?_,S.uni,fun a o e=> ?_,fun p o e n y=> b p o (S.fr p o e n y) y,S.ext,fun p o e=> ?_,t⟩,⟨fun p o e _ _ y=> b p o e y,fun p o e n=> (by rw [n] at e;cases e),th,fun i c e=> ⟨c,e⟩⟩⟩
  · obtain ⟨v,x,y⟩:=S.val i w e
    exact ⟨v,x,Rep.mono k w v y⟩
  · obtain ⟨p,x,y,n,n0⟩:=S.own i c e
    obtain ⟨o,eo,m⟩:=y.there
    exact ⟨p,x,y.mono k ((b p o eo m.nt).trans eo.symm),n,n0⟩
  · obtain ⟨u,eu,m⟩:=(S.hp a o e).there
    exact (S.hp a o e).mono k ((b a u eu m.nt).trans eu.symm)
  · obtain ⟨u,y⟩:=S.tr p o e
    exact th p u y
section
variable {X:Cx} {G:Gx} {d:LamD} {e:Expr} {es:List Expr} {c P:Addr} {pos:Pos} {n:Nat}
theorem C0c {f c:Addr} {q:Str} {params:Arguments} {body:Expr} {scope:Scope} {cl:List (Str×Addr)}:¬Mu (A6g f q params body scope cl c):=fun z=> z
theorem B93 {c:Addr} {q:Str}:¬Mu (CodeO c q):=fun z=> z
theorem LamF.xt {env env':A1} {h h':AH} {σ:L2.St} {H H':Hp} {f:Addr} (S:BS G env h σ H) (x:Xt env h σ H env' h' H') (l:LamF X d H f):LamF X d H' f:=by
  obtain ⟨c,a,b⟩:=l
  obtain ⟨a1,a2⟩:=S.nmu a C0c
  obtain ⟨b1,b2⟩:=S.nmu b B93
  exact ⟨c,x.fr _ _ a a1 a2 C3F,x.fr _ _ b b1 b2 C1b⟩
structure LamAt (X:Cx) (d:LamD) (c P:Addr):Prop where
  TB:TabB X.base X.mg c P
  code:X.env.code= .ref c
  mem:(P,X.env.qual++"<lambda>")∈A6E X.K
  uni:∀p∈A6E X.K,p.1=P→p.2=X.env.qual++"<lambda>"
  dfl:defaultsOf d.params X.env=([],[])
  free:X.Ok→∀y∈d.scope.names,y.2= .free→∃c,X.env.cells.lookup y.1=some c
end
structure LamP (sc scope:Scope) (N ps:List Str):Prop where
  kind:scope.kind= .function
  co:scope.isCoroutine=false
  gen:scope.isGenerator=false
  own:∀y∈scope.names,y.2≠ .cell∧(y.2= .local→y.1∈ps)
  par:∀x∈ps,scope.names.lookup x=some .local∧x∉N
  nd:ps.Nodup
  free:∀y∈scope.names,y.2= .free→sc.names.lookup y.1=some .cell∨sc.names.lookup y.1=some .free
theorem LamP.has {X:Cx} {scope:Scope} {N ps:List Str} (L:LamP X.env.scope scope N ps) (ok:X.Ok):∀y∈scope.names,y.2= .free→∃c,X.env.cells.lookup y.1=some c:=fun y hy e=>
  (L.free y hy e).elim (fun k=> ok.has _ (.inl k)) fun k=> ok.has _ (.inr k)
end Ab
namespace Ab
open PySem PySem.Spec PyProof.Rows L2 LamX
section
variable {X:Cx} {pins:List (Addr×Obj)} {σ:L2.St} {H HZ:Hp} {s s1:Shared}
end
structure LamHas (Z:Cx) (G:Gx) (f:Addr) (n:Nat) (sp:I9):Prop where
  m:R0 sp
  fn:∀(s:Shared) (H:Hp),(∀p o,G.H0 p=some o→G.h0 p=none→NT o→H p=some o)→HOk Z.prog Z.w H s.heap→PySem.W.FnAt f s.heap
  run:∀(s:Shared) (H:Hp) (us:List Value) (vs:List V) (Q:VK) (E:XK),(∀p o,G.H0 p=some o→G.h0 p=none→NT o→H p=some o)→Un Z.fs [] Z.H_0 H Z.s_0.heap s.heap→Env0 Z.prog Z.w Z.K Z.mg Z.base Z.A Z.stack s H→Vals vs us→O9 Z.K n sp vs H Q E→
    codeAny (model Z.prog Z.w) Z.A (.call (.ref f) ⟨us,[]⟩) (CR (L2.CX Z.prog Z.w) Z.stack Z.prog Z.w H s Q E) s
def A79 (env:A1) (ws:List W):A1:=env.map (fun o=> match o with
  | some (.val w)=> some (.val w)
  | _=> none)++ws.map fun w=> some (.val w)
theorem A9w {env:A1} {ws:List W} {i:Nat} {sv:SV} (e:(A79 env ws)[i]? =some (some sv)):(∃w,sv= .val w∧env[i]? =some (some (.val w))∧i < env.length)∨∃w,sv= .val w∧env.length≤i∧ws[i - env.length]? =some w:=by
  unfold A79 at e
  by_cases hi:i < env.length
  · rw [List.getElem?_append_left (by simpa using hi),List.getElem?_map] at e
    cases q:env[i]? with
    | none=> rw [q] at e;cases e
    | some o=>
      rw [q] at e
      cases o with
      | none=> cases e
      | some sv'=>
        cases sv' with
        | val w=> cases e;exact .inl ⟨w,rfl,rfl,hi⟩
        | own c=> cases e
  · rw [List.getElem?_append_right (by simpa using hi),List.length_map,List.getElem?_map] at e
    cases q:ws[i - env.length]? with
    | none=> rw [q] at e;cases e
    | some w=> rw [q] at e;cases e;exact .inr ⟨w,rfl,by omega,rfl⟩
theorem BS.lam {K:PySem.W.Frag} {G:Gx} {env:A1} {h0 h:AH} {σ:L2.St} {H0 H:Hp} {ws:List W} {vs:List V} (gk:G.K=K) (S:BS G env h0 σ H0) (k:Keeps H0 H) (hp:∀a o,h a=some o→ORep K H a o) (tb:TabsK K H) (r:RepL K H ws vs):
    BS ⟨K,h,H⟩ (A79 env ws) h (σ++vs.map some) H:=by
  subst gk
  refine ⟨?_,fun i w e=> ?_,fun i c e=> ?_,fun i j c c' p e=> ?_,hp,fun p o e _ _=> e,fun a o e n=> (by have n:h a=none:=n;rw [n] at e;cases e),fun p o e=> ⟨o,e⟩,tb⟩
  · unfold A79
    rw [List.length_append,List.length_map,List.length_map,List.length_append,List.length_map,S.len,r.length]
  · rcases A9w e with ⟨w',z,y,hi⟩ | ⟨w',z,hi,y⟩
    · cases z
      obtain ⟨v,ev,rv⟩:=S.val i w y
      exact ⟨v,by rw [List.getElem?_append_left (by rw [←S.len];exact hi)];exact ev,Rep.mono k w v rv⟩
    · cases z
      obtain ⟨v,ev,rv⟩:=r.get y
      refine ⟨v,?_,rv⟩
      rw [List.getElem?_append_right (by rw [←S.len];exact hi),←S.len,List.getElem?_map,ev]
      rfl
  · rcases A9w e with ⟨w',z,_⟩ | ⟨w',z,_⟩ <;> cases z
  · rcases A9w e with ⟨w',z,_⟩ | ⟨w',z,_⟩ <;> cases z
section
variable {X:Cx} {G:Gx} {env:A1} {h:AH} {σ:L2.St} {H:Hp} {s:Shared} {pins:List (Addr×Obj)} {d:LamD} {f g c:Addr} {cdg:Value} {Ng:List Str} {qg:Str} {sg:Scope} {ps:List Str} {k:Nat} {t:(AExc→A1→AH→Prop)→AT} {Eg:XK}
end
end Ab
namespace Ab
open PySem PySem.Spec PyProof.Rows L2 LamX
section
variable {X:Cx} {G:Gx} {sp:I9} {n i:Nat} {f:Addr} {a:Str} {p pos:Pos} {e:Expr} {es:List Expr} {t:I6} {E:AExc→A1→AH→Prop}
end
section
variable {X:Cx} {G:Gx} {d:LamD} {n kg kl:Nat} {g:Addr} {fd:FuncData} {x:Str} {st:Stmt} {Ng psg ps:List Str} {p pos:Pos} {e:Expr} {es:List Expr} {t:ALT} {tb:(AExc→A1→AH→Prop)→AT} {tc:Addr→I9→(AExc→A1→AH→Prop)→D1} {E:AExc→A1→AH→Prop}
end
end Ab
namespace Ab
open PySem PySem.Spec PyProof.Rows L2 LamX
structure MakesL (K:PySem.W.Frag) (mg:Str→Option Value) (base:Heap) (q:Str) (cdv:Value):Prop where
  ex:∃c P,cdv= .ref c∧TabB base mg c P∧(P,q)∈A6E K∧∀p∈A6E K,p.1=P→p.2=q
section
variable {P:Program} {w:World} {K:PySem.W.Frag} {mg:Str→Option Value} {base:Heap} {x qual:Str} {params:Arguments} {body:List Stmt} {scope:Scope} {f:Addr} {fd:FuncData} {N ps:List Str} {k n:Nat} {sp:I9} {st:Stmt}
end
section
variable {X:Cx} {G:Gx} {d:LamD} {e:Expr} {es:List Expr} {pos:Pos} {n:Nat} {q:Str} {N ps:List Str}
end
end Ab
namespace Ab
open PySem PySem.Spec PyProof.Rows L2 RZ
def A4Y (o:Obj):Bool:=match o.cls with
  | .type c=> decide (c="list")
  | _=> false
def frK (g:Addr→Option Obj) (as:List Addr):PySem.W.Frag:=He.frG (fun a=> (g a).bind fun o=> if A4Y o=true then none else some o) as
theorem C4K {as:List Addr} {h:Heap}:(frK h.get? as).In h:=fun a o e=> by
  have z:=He.frG_at (g:=fun a=> (h.get? a).bind fun o=> if A4Y o=true then none else some o) as e
  cases q:h.get? a with
  | none=> rw [q] at z;cases z
  | some u=>
    rw [q] at z
    have z:(if A4Y u=true then none else some u)=some o:=z
    split at z
    · cases z
    · exact z
def A9E (K:PySem.W.Frag):Prop:=∀a o,K.lookup a=some o→o.cls≠ .type "list"
theorem C4c {g:Addr→Option Obj} {as:List Addr}:A9E (frK g as):=fun a o e c=> by
  have z:=He.frG_at (g:=fun a=> (g a).bind fun o=> if A4Y o=true then none else some o) as e
  cases q:g a with
  | none=> rw [q] at z;cases z
  | some u=>
    rw [q] at z
    have z:(if A4Y u=true then none else some u)=some o:=z
    split at z
    · cases z
    · rename_i n
      cases z
      exact n (by unfold A4Y;rw [c];rfl)
def A84 (g:Addr→Option Obj) (a:Addr):List Addr:=match g a with
  | some o=> match o.data with
    | .seq its _=> its.toList.flatMap He.refV
    | .dict es _=> es.toList.flatMap fun e=> He.refV e.val
    | .func fd=> He.refV fd.code++He.refV fd.defaults++He.refV fd.kwdefaults++fd.closure.map (·.2)
    | .cls cd=> [cd.ns]
    | .cell (some v)=> He.refV v
    | _=> []
  | none=> []
def asK (g:Addr→Option Obj):List Addr:=
  let l1:=A84 g mainGlobals
  let l2:=l1.flatMap (A84 g)
  let l3:=l2.flatMap (A84 g)
  let l4:=l3.flatMap (A84 g)
  mainGlobals::(l1++l2++l3++l4)
def asL (g:Addr→Option Obj) (ls:List (Str×Option Str)):List Addr:=match ls with
  | []=> asK g
  | l::r=> asK g++B6y::(l::r).map fun x=> He.codeOf (frK g (asK g)) x
abbrev AlK:Type:=He.AlD×Bool
def B7J (g:Addr→Option Obj) (K:PySem.W.Frag):Bool:=(A2q K).all fun p=> PySem.W.codeHdIn K p.1.1 p.1.2 && (match K.lookup p.1.2 with
  | none=> true
  | some _=> false) && (match g p.1.2 with
  | some o=> He.emptyTab o
  | none=> false)
def B1x (K:PySem.W.Frag) (h:Heap):Prop:=∀p∈A2q K,PySem.W.codeHdIn K p.1.1 p.1.2=true∧K.lookup p.1.2=none∧h.get? p.1.2=some { cls:= .none,data:= .fields #[] }
theorem C3I {h:Heap} {K:PySem.W.Frag} (e:B7J h.get? K=true):B1x K h:=fun p hp=> by
  have z:=List.all_eq_true.mp e p hp
  simp only [Bool.and_eq_true] at z
  obtain ⟨⟨z1,z2⟩,z3⟩:=z
  refine ⟨z1,?_,?_⟩
  · cases q:K.lookup p.1.2 with
    | none=> rfl
    | some o=> rw [q] at z2;cases z2
  · cases q:h.get? p.1.2 with
    | none=> rw [q] at z3;cases z3
    | some o=> rw [q] at z3;rw [He.emptyTab_eq z3]
def B1t (fa:List He.Fa) (fn:List He.DefD) (ex:PySem.W.Frag→Bool) (ls:List (Str×Option Str)) (g:Addr→Option Obj):AlK:=
  let K:=frK g (asL g ls)
  (He.obsD fa fn K,ex K && B7J g K)
def B68 (fa:List He.Fa) (fn:List He.DefD) (ex:PySem.W.Frag→Bool) (ls:List (Str×Option Str)):PySem.W.Hook where
  α:=AlK
  obs:=fun s=> B1t fa fn ex ls s.heap.get?
  val:=fun _=> (He.valD fn,true)
  says:=fun _ h=> ∃K:PySem.W.Frag,K.In h∧(He.SaysD fa fn K∧ex K=true)∧A9E K∧B1x K h
  of:=fun _ _ e=> by
    have z:=congrArg Prod.snd e
    have z:=Bool.and_eq_true_iff.mp z
    exact ⟨_,C4K,⟨congrArg Prod.fst e,z.1⟩,C4c,C3I z.2⟩
  keeps:=fun _ _ _ ⟨K,hK,c,n,t⟩ k=> ⟨K,PySem.W.Frag.In.keeps hK k,c,n,fun p hp=> ⟨(t p hp).1,(t p hp).2.1,k _ _ (t p hp).2.2⟩⟩
theorem C2q {fa:List He.Fa} {fn:List He.DefD} {ex:PySem.W.Frag→Bool} {ls:List (Str×Option Str)} {g:Addr→Option Obj} {s:Shared} (h:∀a,g a=s.heap.get? a):B1t fa fn ex ls g=(B68 fa fn ex ls).obs s:=by
  have e:g=s.heap.get?:=funext h
  rw [e] <;> rfl
theorem FunD.one {K:PySem.W.Frag} {x q x' q':Str} {a a':Arguments} {b b':List Stmt} {sc sc':Scope} {d d':List V} {k k':List (Str×V)} {f:Addr} {fd fd':FuncData} (F:FunD K x q a b sc d k f fd) (F':FunD K x' q' a' b' sc' d' k' f fd'):fd=fd':=by
  obtain ⟨oc,od,dV,kV,doc,pm,an,cdv,ct,osl,_,lk,_⟩:=F.ex
  obtain ⟨oc',od',dV',kV',doc',pm',an',cdv',ct',osl',_,lk',_⟩:=F'.ex
  rw [lk] at lk'
  cases lk'
  rfl
def B1I (sp:I9):Prop:=∀(ns:List Int),ns.length≤63→sp [W.lst (ns.map .int)] (fun _=> none) (fun r _=> r= .val (.bl true)) fun _ _=> False
def B7E (K:PySem.W.Frag):Sp:=fun vs H Q _=> ∃(a:Addr) (ns:List Int),vs=[.ref a]∧ns.length≤63∧SqL K H a (ns.map V.int)∧(∀p∈A2q K,H p.1.2=some (.tbl #[]))∧(∀H',Q (.bl true) H')
theorem B5o {K:PySem.W.Frag} {sp:I9} (ls:B1I sp) {H:Hp} {a:Addr} {ns:List Int} {Q:VK} {E:XK} (hl:ns.length≤63) (hS:LsF H a (ns.map V.int)) (hT:TabsK K H) (q:∀H',Q (.bl true) H'):O9 K 1 sp [.ref a] H Q E:=
  ⟨[.lst (ns.map .int)],fun _=> none,_,_,rfl,(fun _ _ e=> nomatch e),hT,.cons (.lst hS .ints) .nil,ls ns hl,fun r h' v H' e _ rr=> by
    subst e
    have z:=Rep.of_bl (K:=K) (H:=H') rr
    rw [z];exact q H',fun _ _ _ _ _ z _ _=> z.elim⟩
theorem B4x {K:PySem.W.Frag} {H:Hp} (h:∀p∈A2q K,H p.1.2=some (.tbl #[])):TabsK K H:=fun p hp=> by
  obtain ⟨q,hq,rfl⟩:=List.mem_map.mp hp
  exact LamX.TabS.nil (h q hq)
theorem C3n {P:Program} {w:World} {K:PySem.W.Frag} {mg:Str→Option Value} {base:Heap} {k:Nat} {f:Addr} {fd:FuncData} {ps:List Str} {sp:I9} (ls:B1I sp) (no:A9E K) (F:FnOk P w K mg base (L2.CX P w) k f fd ps (O9 K 1 sp)) (hp:ps.length=1):
    FnOk P w K mg base (L2.CX P w) k f fd ps (B7E K):=by
  refine ⟨fun vs H Q E ⟨a,ns,e,_⟩=> by rw [e,hp];rfl,fun A outer s H args us vs Q E hr e0 hb hv ⟨a,ns,ev,hl,hS,hT,q⟩=> ?_⟩
  subst ev
  rcases hS with (h | h) | ⟨o,its,n,l,c,_⟩
  ·
    obtain ⟨l1,its,n,rv,ho⟩:=e0.hok a _ h
    have keep:∀b o,H b=some o→(∀xs,o≠ .lst xs)→upd H a (.frz { cls:= .type "list",data:= .seq its.toArray n } (.lst (ns.map V.int))) b=some o:=fun b o e m=> by
      have ne:b≠a:=fun z=> by
        rw [z,h] at e
        exact m _ (Option.some.inj e).symm
      rw [upd_ne ne];exact e
    have non:∀b,H b=none→upd H a (.frz { cls:= .type "list",data:= .seq its.toArray n } (.lst (ns.map V.int))) b=none:=fun b e=> by
      have ne:b≠a:=fun z=> by rw [z,h] at e;cases e
      rw [upd_ne ne];exact e
    have sub:∀b o,ObjOk P w H s.heap b o→ObjOk P w (upd H a (.frz { cls:= .type "list",data:= .seq its.toArray n } (.lst (ns.map V.int)))) s.heap b o:=by
      intro b o
      induction o with
      | dT kvs=>
        rintro ⟨a1,a2,xs,a3,a4⟩
        exact ⟨a1,a2,xs,a3.mono fun x y ⟨b1,b2,b3⟩=> ⟨b1,keep _ _ b2 (fun xs z=> by cases z),b3⟩,a4⟩
      | ins C dx fs=>
        rintro ⟨a1,a2⟩
        exact ⟨keep _ _ a1 (fun xs z=> by cases z),a2⟩
      | frz o u ih=> rintro ⟨a1,a2⟩;exact ⟨a1,ih a2⟩
      | _=> exact id
    have hok:HOk P w (upd H a (.frz { cls:= .type "list",data:= .seq its.toArray n } (.lst (ns.map V.int)))) s.heap:=fun b o e=> by
      by_cases hb:b=a
      · subst hb
        rw [upd_same] at e
        cases e
        exact ⟨ho,l1,its,n,rv,ho⟩
      · rw [upd_ne hb] at e
        exact sub b o (e0.hok b o e)
    have hT2:TabsK K (upd H a (.frz { cls:= .type "list",data:= .seq its.toArray n } (.lst (ns.map V.int)))):=B4x fun p m=> keep _ _ (hT p m) fun xs z=> by cases z
    have run:=F.run A outer s _ args us [.ref a] Q E hr ⟨e0.frames,e0.mod,fun b o e=> ⟨(e0.bs b o e).1,non b (e0.bs b o e).2⟩,e0.bsz,e0.funs,fun b m=> non b (e0.frf b m),hok,e0.bare⟩ hb hv (B5o ls hl ⟨_,upd_same⟩ hT2 q)
    refine codeAny_mono run fun r s' z=> ?_
    cases r with
    | error e=>
      obtain ⟨a',B,H',cls,d,e1,e2,e3,e4,e5,e6,e7,e8⟩:=z
      have nn:∀b,upd H a (.frz { cls:= .type "list",data:= .seq its.toArray n } (.lst (ns.map V.int))) b=none→H b=none:=fun b e=> by
        by_cases hb:b=a
        · subst hb;rw [upd_same] at e;cases e
        · rw [upd_ne hb] at e;exact e
      exact ⟨a',B,H',cls,d,e1,e2,e3,⟨fun b o x y=> e4.keep b o x (non b y),e4.slot,fun b o x y=> e4.free b o x (non b y),e4.there,fun b xs x=> e4.tups b xs (keep _ _ x fun xs z=> by cases z),fun b o u x=> e4.frzs b o u (keep _ _ x fun xs z=> by cases z),fun b ps x=> e4.tbls b ps (keep _ _ x fun xs z=> by cases z)⟩,e5,e6,e7,e8⟩
    | ok fl=>
      cases fl with
      | ret u=>
        obtain ⟨v,H',e1,e2,e3,e4,e5,e6⟩:=z
        exact ⟨v,H',e1,e2,⟨fun b o x y=> e3.keep b o x (non b y),fun b o x y=> e3.slot b o x (non b y),fun b o x y=> e3.free b o x (non b y),e3.there,fun b xs x=> e3.tups b xs (keep _ _ x fun xs z=> by cases z),fun b o u x=> e3.frzs b o u (keep _ _ x fun xs z=> by cases z),fun b ps x=> e3.tbls b ps (keep _ _ x fun xs z=> by cases z)⟩,e4,e5,e6⟩
      | next=> exact z
      | brk=> exact z
      | cont=> exact z
  · exact F.run A outer s H args us [.ref a] Q E hr e0 hb hv (B5o ls hl h (B4x hT) q)
  · exact absurd c (no a o l)
theorem C5O {P:Program} {w:World} (H:Hp) (s:Shared) (e:Value) (s':Shared) (z:L2.CX P w [] H s (fun _ _ _=> False) e s'):False:=by
  obtain ⟨_,_,_,_,_,_,_,_,_,_,_,_,z⟩:=z
  exact z
theorem walk_end {l:PySem.W.OpenLaw} {j:Nat} {vw:Program} {lo:List Str} {A:(Str→Option Value)→Heap→Prop} {B:World→Heap→Prop} {d:DefRec} {y:Str} (h1:l.most=some 63) (h3:d.params.defaults=[]) (h4:Room j callerA)
    (F:∀(u:World) (g:Str→Option Value) (at_:Addr) (hp:Heap),B u hp→hp.Ns mainGlobals g→g d.name=some (.ref at_)→∃(K:PySem.W.Frag) (fd:FuncData) (sp:I9),K.In hp∧A9E K∧B1x K hp∧B1I sp∧(∀(t:Shared) (z:Value),BindsTo t fd ⟨[z],[]⟩ [(y,z)])∧
      ∀base:Heap,(∀p∈(A2q K).map (·.1),LamX.TabB base g p.1 p.2)→FnOk l.prog u K g base (L2.CX l.prog u) j at_ fd [y] (O9 K 1 sp)):
    PySem.W.WalkO vw lo A B l.row.toRowW d [] (fun f vs=> PySem.call f vs):=
  LamX.walk_ofTsE h1 (by decide) h3 h4 (fun u g at_ hp yb ns named=>
    let ⟨K,fd,sp,inK,no,te,ls,bind,ok⟩:=F u g at_ hp yb ns named
    ⟨K,inK,fd,(A2q K).map (·.1),B7E K,fun p m=> (by obtain ⟨q,hq,rfl⟩:=List.mem_map.mp m;exact (te q hq).2.2),fun p m=> (by obtain ⟨q,hq,rfl⟩:=List.mem_map.mp m;exact (te q hq).2.1),
      fun p m=> (by obtain ⟨q,hq,rfl⟩:=List.mem_map.mp m;exact PySem.W.codeHd_of_K inK (te q hq).1),bind,
      fun H b is few _ hT seq=> ⟨b,is,rfl,few,seq,fun p m=> hT p.1 (List.mem_map.mpr ⟨p,m,rfl⟩),fun _=> rfl⟩,fun base _ _ tb=> C3n ls no (ok base tb) rfl⟩) fun u H s e s'=> C5O H s e s'
end Ab
namespace Ab
open PySem PySem.Spec PyProof.Rows L2 RZ
def A6S (tl:List Value):List Value→Bool
  | .ref _::r=> A6S tl r
  | l=> l==tl
abbrev tlV:List Value:=[.type "ValueError",.type "Exception",.type "BaseException",.type "object"]
abbrev tlL:List Value:=[.type "LookupError",.type "Exception",.type "BaseException",.type "object"]
abbrev tlI:List Value:=[.type "IndexError",.type "LookupError",.type "Exception",.type "BaseException",.type "object"]
def xcTab:List (Str×List Str):=
  [("BadSizes",["HideError"]),("BadCounts",["HideError"]),("BadStand",["HideError"]),("BadDeed",["HideError"]),("BadRow",["HideError"]),("BadTimes",["HideError"]),("BadName",["HideError"]),("BadText",["HideError"]),("Taken",["HideError"]),
   ("InUse",["HideError"]),("Tapped",["HideError"]),("TooLong",["HideError"]),("TooMany",["HideError"]),("Unlike",["HideError"]),("NoRound",["Missing"]),("NoDrop",["Missing"]),("NoCask",["Missing"]),("NothingLeft",[])]
def C6Z (n c:Str):Bool:=decide (n=c) || decide (c∈(xcTab.lookup n).getD [])
def B1L (n:String) (bm:List Value):Bool:=(decide (n="ValueError.__new__") && A6S tlV bm) || ((decide (n="LookupError.__new__") && A6S tlL bm) || (decide (n="IndexError.__new__") && A6S tlI bm))
def B1q (K:PySem.W.Frag) (C:Addr):Bool:=match K.lookup C with
  | some ⟨.type t,_,.cls cd,sl⟩=> decide (t="type") && (match cd.mro,sl.toList with
    | .ref C'::bm,[_,_,_,_,some (.builtin n),_]=> decide (C'=C) && (B1L n bm && (!cd.hasDel && cd.hasDict))
    | _,_=> false)
  | _=> false
def xkB (K:PySem.W.Frag) (x:Str) (fs:List Str):Bool:=
  B1q K (He.ga K x) && (decide (PySem.W.findIn K (.ref (He.ga K x)) "__setattr__"=some (some (.builtin "object.__setattr__"))) && (decide (PySem.W.subIn K (.ref (He.ga K x)) (.type "BaseException")=some true) &&
    (decide (PySem.W.typeIn K (.ref (He.ga K x))=some (.type "type")) && (PySem.W.keepIn K (.ref (He.ga K x)) && (decide (PySem.W.findIn K (.ref (He.ga K x)) "__init__"=some (some (.ref (He.ma K (He.ga K x) "__init__")))) &&
      (decide (PySem.W.typeIn K (.ref (He.ma K (He.ga K x) "__init__"))=some (.type "function")) && (xfB K (He.ga K x) && (("word":Str)::fs).all fun f=> decide (PySem.W.findIn K (.ref (He.ga K x)) f=some none))))))))
def neB (K:PySem.W.Frag) (C:Str):Bool:=decide (PySem.W.findIn K (.ref (He.ga K C)) "__ne__"=some (some (.builtin "object.__ne__"))) && decide (PySem.W.mroIn K (He.ga K C) (.type "object")=some true)
def B7I (K:PySem.W.Frag) (n C:Str) (b:Bool):Bool:=decide (PySem.W.findIn K (.ref (He.ga K n)) "__class__"=some (some (.builtin "object.__class__"))) && (decide (PySem.W.specialIn K (.builtin "object.__class__") "__get__"=some (some (.builtin "getset_descriptor.__get__"))) &&
  (decide (PySem.W.takesIn K (.builtin "object.__class__")=some true) && (decide (PySem.W.mroIn K (He.ga K n) (.type "object")=some true) && (decide (PySem.W.kitOne K (.ref (He.ga K n)) (.ref (He.ga K C))=some b) && (decide (PySem.W.kitOne K (.type "list") (.ref (He.ga K C))=some false) && (decide (PySem.W.kitOne K (.type "tuple") (.ref (He.ga K C))=some false) && decide (PySem.W.kitOne K (.type "str") (.ref (He.ga K C))=some false)))))))
def R4 (i:Nat):Stmt:=PySem.Challenge.pw_hidelater_k28_books_and_their_twins.main.body.getD i (.Pass ⟨0,0,0,0⟩)
def meth (i j:Nat):Stmt:=match R4 i with
  | .ClassDef _ _ _ b _ _ _ _ _ _ _=> b.getD j (.Pass ⟨0,0,0,0⟩)
  | _=> .Pass ⟨0,0,0,0⟩
abbrev i9:Stmt:=R4 14
abbrev j7:Stmt:=R4 19
abbrev j5:Stmt:=R4 20
abbrev k8:Stmt:=R4 21
abbrev c5:Stmt:=R4 28
abbrev T6:Stmt:=R4 29
abbrev i8:Stmt:=R4 30
abbrev j9:Stmt:=R4 33
abbrev P3:Stmt:=R4 34
abbrev V4:Stmt:=R4 35
abbrev Y9:Stmt:=R4 36
abbrev b8:Stmt:=R4 37
abbrev f9:Stmt:=R4 38
abbrev i6:Stmt:=R4 39
abbrev Z8:Stmt:=R4 40
abbrev d7:Stmt:=R4 41
abbrev Y6:Stmt:=R4 42
abbrev j3:Stmt:=R4 43
abbrev b9:Stmt:=R4 44
abbrev T5:Stmt:=meth 31 6
abbrev X8:Stmt:=meth 31 7
abbrev Y0:Stmt:=meth 31 13
abbrev U3:Stmt:=meth 31 14
abbrev T4:Stmt:=meth 31 5
abbrev Z0:Stmt:=R4 45
abbrev i4:Stmt:=R4 45
abbrev U2:Stmt:=meth 31 0
abbrev e9:Stmt:=meth 31 11
abbrev f7:Stmt:=meth 31 10
abbrev d9:Stmt:=meth 31 8
abbrev Z9:Stmt:=meth 31 9
abbrev X9:Stmt:=meth 31 12
abbrev i5:Stmt:=R4 46
abbrev Y7:Stmt:=meth 31 16
abbrev i7:Stmt:=meth 31 15
abbrev g9:Stmt:=meth 31 2
abbrev o3:Stmt:=R4 47
abbrev A7Z:Stmt:=meth 5 0
abbrev A7h:Stmt:=meth 4 0
abbrev A7W:Stmt:=meth 3 0
abbrev A7s:Stmt:=meth 7 0
abbrev A7d:Stmt:=meth 10 0
abbrev A7z:Stmt:=meth 6 0
abbrev A7a:Stmt:=meth 8 0
abbrev A7e:Stmt:=meth 9 0
def B2z:He.DefD:=⟨("look_sizes",none),"look_sizes","look_sizes",defArgs i9,defBody i9,defScope i9,[],[]⟩
def B3H:He.DefD:=⟨("has_count",none),"has_count","has_count",defArgs j7,defBody j7,defScope j7,[],[]⟩
def B3G:He.DefD:=⟨("first_bad",none),"first_bad","first_bad",defArgs j5,defBody j5,defScope j5,[],[]⟩
def B3h:He.DefD:=⟨("fault_of",none),"fault_of","fault_of",defArgs k8,defBody k8,defScope k8,[],[]⟩
def B3w:He.DefD:=⟨("is_name",none),"is_name","is_name",defArgs c5,defBody c5,defScope c5,[],[]⟩
def B32:He.DefD:=⟨("is_call",none),"is_call","is_call",defArgs T6,defBody T6,defScope T6,[],[]⟩
def B20:He.DefD:=⟨("call_fault",none),"call_fault","call_fault",defArgs i8,defBody i8,defScope i8,[],[]⟩
def B3E:He.DefD:=⟨("_law_open",none),"_law_open","_law_open",defArgs j9,defBody j9,defScope j9,[],[]⟩
def B3M:He.DefD:=⟨("_law_take",none),"_law_take","_law_take",defArgs P3,defBody P3,defScope P3,[],[]⟩
def B3N:He.DefD:=⟨("_law_pick",none),"_law_pick","_law_pick",defArgs V4,defBody V4,defScope V4,[],[]⟩
def B3B:He.DefD:=⟨("_law_same",none),"_law_same","_law_same",defArgs Y9,defBody Y9,defScope Y9,[],[]⟩
def B29:He.DefD:=⟨("_law_sizes",none),"_law_sizes","_law_sizes",defArgs b8,defBody b8,defScope b8,[],[]⟩
def B2V:He.DefD:=⟨("_law_any_sizes",none),"_law_any_sizes","_law_any_sizes",defArgs f9,defBody f9,defScope f9,[],[]⟩
def B2m:He.DefD:=⟨("_law_number",none),"_law_number","_law_number",defArgs i6,defBody i6,defScope i6,[],[]⟩
def B2Z:He.DefD:=⟨("_law_shuffled",none),"_law_shuffled","_law_shuffled",defArgs Z8,defBody Z8,defScope Z8,[],[]⟩
def B2N:He.DefD:=⟨("_law_some_casks",none),"_law_some_casks","_law_some_casks",defArgs d7,defBody d7,defScope d7,[],[]⟩
def B2x:He.DefD:=⟨("_law_alike",none),"_law_alike","_law_alike",defArgs Y6,defBody Y6,defScope Y6,[],[]⟩
def B3T:He.DefD:=⟨("_law_deed",none),"_law_deed","_law_deed",defArgs j3,defBody j3,defScope j3,[],[]⟩
def B3U:He.DefD:=⟨("_law_row",none),"_law_row","_law_row",defArgs b9,defBody b9,defScope b9,[],[]⟩
def B3J:He.DefD:=⟨("_law_told",none),"_law_told","_law_told",defArgs Z0,defBody Z0,defScope Z0,[],[]⟩
def B2i:He.DefD:=⟨("_law_told",none),"_law_told","_law_told",defArgs i4,defBody i4,defScope i4,[],[]⟩
def B2c:He.DefD:=⟨("_law_written",none),"_law_written","_law_written",defArgs i5,defBody i5,defScope i5,[],[]⟩
def B6t:He.DefD:=⟨("law",none),"law","law",defArgs o3,defBody o3,defScope o3,[],[]⟩
def B2t:He.DefD:=⟨("Book",some "there"),"there",(("Book":Str)++"."++"there"),defArgs T5,defBody T5,defScope T5,[],[]⟩
def B2s:He.DefD:=⟨("Book",some "steps"),"steps",(("Book":Str)++"."++"steps"),defArgs X8,defBody X8,defScope X8,[],[]⟩
def B22:He.DefD:=⟨("Book",some "flat"),"flat",(("Book":Str)++"."++"flat"),defArgs Y0,defBody Y0,defScope Y0,[],[]⟩
def B2W:He.DefD:=⟨("Book",some "callers"),"callers",(("Book":Str)++"."++"callers"),defArgs U3,defBody U3,defScope U3,[],[]⟩
def B2l:He.DefD:=⟨("Book",some "names"),"names",(("Book":Str)++"."++"names"),defArgs T4,defBody T4,defScope T4,[],[]⟩
def B2T:He.DefD:=⟨("Book",some "__init__"),"__init__",(("Book":Str)++"."++"__init__"),defArgs U2,defBody U2,defScope U2,[],[]⟩
def B2Q:He.DefD:=⟨("Book",some "look_new"),"look_new",(("Book":Str)++"."++"look_new"),defArgs e9,defBody e9,defScope e9,[],[]⟩
def B2R:He.DefD:=⟨("Book",some "laid_out"),"laid_out",(("Book":Str)++"."++"laid_out"),defArgs f7,defBody f7,defScope f7,[],[]⟩
def B2L:He.DefD:=⟨("Book",some "look_step"),"look_step",(("Book":Str)++"."++"look_step"),defArgs d9,defBody d9,defScope d9,[],[]⟩
def B2e:He.DefD:=⟨("Book",some "length"),"length",(("Book":Str)++"."++"length"),defArgs Z9,defBody Z9,defScope Z9,[],[]⟩
def B2k:He.DefD:=⟨("Book",some "write"),"write",(("Book":Str)++"."++"write"),defArgs X9,defBody X9,defScope X9,[],[]⟩
def B26:He.DefD:=⟨("Book",some "twin"),"twin",(("Book":Str)++"."++"twin"),defArgs Y7,defBody Y7,defScope Y7,[],[]⟩
def B23:He.DefD:=⟨("Book",some "drop"),"drop",(("Book":Str)++"."++"drop"),defArgs i7,defBody i7,defScope i7,[],[]⟩
def B2f:He.DefD:=⟨("Book",some "__eq__"),"__eq__",(("Book":Str)++"."++"__eq__"),defArgs g9,defBody g9,defScope g9,[],[]⟩
def B3W:He.DefD:=⟨("BadName",some "__init__"),"__init__","BadName.__init__",defArgs A7Z,defBody A7Z,defScope A7Z,[],[]⟩
def B3r:He.DefD:=⟨("BadRow",some "__init__"),"__init__","BadRow.__init__",defArgs A7h,defBody A7h,defScope A7h,[],[]⟩
def B3P:He.DefD:=⟨("BadSizes",some "__init__"),"__init__","BadSizes.__init__",defArgs A7W,defBody A7W,defScope A7W,[],[]⟩
def B4e:He.DefD:=⟨("InUse",some "__init__"),"__init__","InUse.__init__",defArgs A7s,defBody A7s,defScope A7s,[],[]⟩
def B3g:He.DefD:=⟨("NoRound",some "__init__"),"__init__","NoRound.__init__",defArgs A7d,defBody A7d,defScope A7d,[],[]⟩
def B4M:He.DefD:=⟨("Taken",some "__init__"),"__init__","Taken.__init__",defArgs A7z,defBody A7z,defScope A7z,[],[]⟩
def B3c:He.DefD:=⟨("TooLong",some "__init__"),"__init__","TooLong.__init__",defArgs A7a,defBody A7a,defScope A7a,[],[]⟩
def B3a:He.DefD:=⟨("TooMany",some "__init__"),"__init__","TooMany.__init__",defArgs A7e,defBody A7e,defScope A7e,[],[]⟩
def hFn:List He.DefD:=[B2z,B3H,B3G,B3h,B3w,B32,B20,B3E,B3M,B3N,B3B,B29,B2V,B2m,B2Z,B2N,B2x,B3T,B3U,B3J,B2i,B2c,B6t,B3W,B3r,B3P,B4e,B3g,B4M,B3c,B3a,B2t,B2s,B22,B2W,B2l,B2T,B2Q,B2R,B2L,B2e,B2k,B26,B23,B2f]
def hFa:List He.Fa:=[.glo "look_sizes",.glo "has_count",.glo "first_bad",.glo "fault_of",.glo "is_name",.glo "is_call",.glo "call_fault",.glo "_law_open",.glo "_law_take",.glo "_law_pick",.glo "_law_same",.glo "_law_sizes",.glo "_law_any_sizes",.glo "_law_number",.glo "_law_shuffled",.glo "_law_some_casks",.glo "_law_alike",.glo "_law_deed",.glo "_law_row",.glo "_law_told",.glo "_law_told",.glo "_law_written",.glo "law",.free "all",.free "any",.free "bool",.free "enumerate",.free "int",.free "isinstance",.free "len",.free "list",.free "range",.free "str",.free "sum",.free "tuple",.int "GREAT" 1000000000000000000000000000000,.str "LETTERS" ("abcdefghijklmnopqrstuvwxyz":Str),.int "LONGEST" 8,.int "MOST_CALLS" 9,.int "MOST_CASKS" 6,.int "MOST_FLAT" 200,.int "MOST_ROUNDS" 12,.int "MOST_SIZE" 40,.glo "PATHS",.glo "PLAIN",.glo "BadName",.glo "BadRow",.glo "BadSizes",.glo "InUse",.glo "NoRound",.glo "Taken",.glo "TooLong",.glo "TooMany",.glo "Book",.cls "Book",.noat "Book" "casks",.noat "Book" "laid",.noat "Book" "written",.meth "Book" "there",.meth "Book" "steps",.meth "Book" "flat",.meth "Book" "callers",.meth "Book" "names",.meth "Book" "__init__",.meth "Book" "look_new",.meth "Book" "laid_out",.meth "Book" "look_step",.meth "Book" "length",.meth "Book" "write",.meth "Book" "twin",.meth "Book" "drop",.meth "Book" "__eq__",.mkr "Book"]
def hEx:PySem.W.Frag→Bool:=fun K=> He.tupB K "PATHS" [.str ("over":Str),.str ("down":Str)] && He.tupB K "PLAIN" [.str ("swap":Str),.str ("tap":Str),.str ("drain":Str)] && xkB K "BadName" [] && xkB K "BadRow" ["step","place"] && xkB K "BadSizes" ["cask"] && xkB K "InUse" ["name"] && xkB K "NoRound" ["name"] && xkB K "Taken" ["name"] && xkB K "TooLong" ["most"] && xkB K "TooMany" ["most"] && neB K "Book" && B7I K "Book" "Book" true
def hLs:List (Str×Option Str):=[]
def C6N:List Str:=["__name__","HideError","Missing","BadSizes","BadRow","BadName","Taken","InUse","TooLong","TooMany","NoRound","MOST_CASKS","MOST_SIZE","look_sizes","GREAT","PATHS","PLAIN","has_count","first_bad","fault_of","MOST_ROUNDS","MOST_FLAT","MOST_CALLS","LONGEST","LETTERS","is_name","is_call","call_fault","Book","_law_open"]
def C6H:List Str:=["_law_take","_law_pick","_law_same","_law_sizes","_law_any_sizes","_law_number","_law_shuffled","_law_some_casks","_law_alike","_law_deed","_law_row","_law_told","_law_written"]
def hNms:List Str:=C6N++C6H
abbrev hR:PySem.W.OpenRow:=PySem.W.OpenLaw.row PySem.Challenge.rw_hidelater_k28_books_and_their_twins
abbrev hHk:PySem.W.Hook:=B68 hFa hFn hEx hLs
def hOb (s:PySem.W.SharedT):AlK:=B1t hFa hFn hEx hLs (HandSHeadRun.getT s)
theorem hOb_eq (s:PySem.W.SharedT):hOb s=hHk.obs s.abs:=C2q (HandSHeadRun.getT_eq s)
theorem hRun (w:World):HandSHeadRun.RunEq hR (PySem.W.view hR.prog [47]) hHk hOb 5000 hNms w:=by
  intro os
  kernel_rfl
end Ab
namespace Ab
open PySem PySem.Spec PyProof.Rows L2
open Builtin Builtin.ObjectAttr in
structure MroG (bm bmB:List Value):Prop where
  cont:∀X:String,bm.contains (.type X)=bmB.contains (.type X)
  pass:∀self:Value,refuseLoop self "__setattr__" bm=pure ()
  ne:bm.isEmpty=false
  ob:bmB.contains (.type "object")=true
open Builtin Builtin.ObjectAttr in
theorem MroG.cons {bm bmB:List Value} (m:MroG bm bmB) (c:Addr):MroG (.ref c::bm) bmB:=
  ⟨fun X=> by rw [List.contains_cons,m.cont];rfl,fun s=> by rw [refuseLoop_ref];exact m.pass s,rfl,m.ob⟩
theorem A97 {tl:List Value} (m:MroG tl tl):∀l:List Value,A6S tl l=true→MroG l tl:=by
  intro l
  induction l with
  | nil=> exact fun e=> (show ([]:List Value)=tl from beq_iff_eq.mp e)▸m
  | cons a r ih=>
    intro e
    cases a with
    | ref c=> exact (ih e).cons c
    | _=> rw [show (_::r:List Value)=tl from beq_iff_eq.mp e];exact m
theorem C53:MroG tlV tlV:=⟨fun _=> rfl,fun s=> F.store_ValueError.passes s,rfl,by decide+kernel⟩
theorem C51:MroG tlL tlL:=⟨fun _=> rfl,fun s=> by kernel_rfl,rfl,by decide+kernel⟩
theorem C5n:MroG tlI tlI:=⟨fun _=> rfl,fun s=> by kernel_rfl,rfl,by decide+kernel⟩
structure OexG (K:PySem.W.Frag) (C:Addr):Prop where
  cls:∃nm q N bs bm bmB B newId initId sn sub ab col dd k0 k1 k2 k3 k5,K.lookup C=some (excClassObj nm q C N bs bm true sn sub ab col dd k0 k1 k2 k3 k5 newId)∧ExcBaseFacts B newId initId bmB∧MroG bm bmB
  sa:PySem.W.findIn K (.ref C) "__setattr__"=some (some (.builtin "object.__setattr__"))
  exC:PySem.W.subIn K (.ref C) (.type "BaseException")=some true
  tyC:PySem.W.typeIn K (.ref C)=some (.type "type")
  kC:PySem.W.keepIn K (.ref C)=true
section
open Builtin Builtin.ObjectAttr
variable {prog:Program} {w:World} {A:Around} {E:Value→Shared→Prop} {R:Result→Shared→Prop} {hp:Heap} {g:Array GenState} {d:Drawn} {t:Nat} {os:OsState}
theorem C2O {K:PySem.W.Frag} {name:Str} {tk:Tok} {v:Value} {x C:Addr} {fv:Array Value} {cd:ClassData} {bmB:List Value} (X:K.In hp) (hx:hp.get? x=some { cls:= .ref C,data:= .fields fv }) (hcd:PySem.W.clsIn K C=some cd) (hm:MroG cd.mro bmB)
    (hh:cd.hasDict=true) (ha:PySem.W.findIn K (.ref C) name=some none)
    (hq:∀h' tk' dx,(∀b o,b≠x→hp.get? b=some o→h'.get? b=some o)→hp.objs.size≤dx→dx≠x→h'.get? x=some { cls:= .ref C,dict:=some dx,data:= .fields fv }→
      h'.Ns1 dx (fun y=> if y=name then some v else none)→R (.ok (.ret .none)) ⟨h',g,d,tk',os⟩):
    codeAny (model prog w) A (.call (.builtin "object.__setattr__") ⟨[.ref x,.str name tk,v],[]⟩) R ⟨hp,g,d,t,os⟩:=by
  have I:PySem.W.InstAt hp x { cls:= .ref C,data:= .fields fv } C none:=⟨hx,rfl,rfl,trivial⟩
  have SF:=F.store_object
  have ne:=hm.ne
  have hob:cd.mro.contains (.type "object")=true:=(hm.cont "object").trans hm.ob
  have hxs:x≠hp.objs.size:=Nat.ne_of_lt (Heap.lt_size hx)
  have sub:PySem.W.Looks (model prog w) hp (isInstance (.ref x) (.type "object")) true:=I.type.andThen (PySem.W.looks_mroIn X (by unfold PySem.W.mroIn;rw [hcd,Option.bind_some,if_neg (by rw [ne];decide),hob]))
  refine codeAny_call_builtin SF.slot.plain SF.entry (@PySem.W.check_slot (model prog w) _ _ ⟨hp,g,d,t,os⟩ "object.__setattr__" "object" "__setattr__" (.ref x) [.str name tk,v] [] _ SF.kind SF.split sub (SF.args (.ref x) (.str name tk) v) ?_)
  have hmr:PySem.W.Looks (model prog w) hp (mroOf (.ref C)) cd.mro:=(PySem.W.looks_clsIn X hcd).andThen .now
  have L3:PySem.W.Looks (model prog w) hp (storeTaker? none) none:= .now
  have hcls:PySem.W.Looks (model prog w) hp (classData C) cd:=PySem.W.looks_clsIn X hcd
  rw [PySem.W.osa_eq,refuse_eq]
  refine wpAny_bind (wpAny_bind (I.type.at (wpAny_bind (hmr.at ?_))))
  rw [hm.pass]
  refine wpAny_pure (wpAny_bind (I.type.at (wpAny_bind ((PySem.W.looks_findIn X ha).at (wpAny_bind (L3.at ?_))))))
  show wpAny _ _ (storeInOwnDict (.ref x) (.ref C) (.str name tk) name v false) _ _ _
  obtain ⟨nm,bs,mro,ns,qn,hd,sn,sb,ab,col,del⟩:=cd
  dsimp only at hh
  subst hh
  unfold storeInOwnDict ownDictForStores
  repeat (first | with_reducible refine PySem.HandSPX.store_in_new ?_ ?_ | with_reducible refine wpAny_loadPart_at hx ?_ | with_reducible refine hcls.at ?_ | wp_step)
  · exact ⟨_,#[],_,(Heap.get?_update_ne _ _ _ _ hxs.symm).trans (Heap.get?_push_at rfl rfl),rfl,fun e he=> absurd he (by simp),fun _=> rfl⟩
  · intro h' tk' hn' hs
    have hx₁:(hp.push { cls:= .type "dict",data:= .dict #[] }).get? x=some { cls:= .ref C,data:= .fields fv }:=Heap.get?_push_of_some _ hx
    refine hq h' tk' hp.objs.size (fun b o hb ho=> ?_) (Nat.le_refl _) hxs.symm ?_ hn'
    · exact (hs.2 b (Nat.ne_of_lt (Heap.lt_size ho))).trans ((Heap.get?_update_ne _ _ _ _ hb).trans (Heap.get?_push_of_some _ ho))
    · exact (hs.2 x hxs).trans (Heap.get?_update_self _ hx₁ rfl)
theorem C2G {K:PySem.W.Frag} {name:Str} {tk:Tok} {v:Value} {x C dx:Addr} {fv:Array Value} {cd:ClassData} {bmB:List Value} {m0:Str→Option Value} {nl:List Str} (X:K.In hp) (hx:hp.get? x=some { cls:= .ref C,dict:=some dx,data:= .fields fv }) (hns:hp.Ns1 dx m0)
    (hw:Within m0 nl) (hz:nl.length≤1000) (hcd:PySem.W.clsIn K C=some cd) (hm:MroG cd.mro bmB) (hh:cd.hasDict=true) (ha:PySem.W.findIn K (.ref C) name=some none)
    (hq:∀h' tk',(∀b o,b≠dx→hp.get? b=some o→h'.get? b=some o)→h'.Ns1 dx (fun y=> if y=name then some v else m0 y)→R (.ok (.ret .none)) ⟨h',g,d,tk',os⟩):
    codeAny (model prog w) A (.call (.builtin "object.__setattr__") ⟨[.ref x,.str name tk,v],[]⟩) R ⟨hp,g,d,t,os⟩:=by
  obtain ⟨oD,esD,epD,hoD,hdD,_⟩:=hns.count hw
  have I:PySem.W.InstAt hp x { cls:= .ref C,dict:=some dx,data:= .fields fv } C (some oD):=⟨hx,rfl,rfl,hoD⟩
  have SF:=F.store_object
  have ne:=hm.ne
  have hob:cd.mro.contains (.type "object")=true:=(hm.cont "object").trans hm.ob
  have sub:PySem.W.Looks (model prog w) hp (isInstance (.ref x) (.type "object")) true:=I.type.andThen (PySem.W.looks_mroIn X (by unfold PySem.W.mroIn;rw [hcd,Option.bind_some,if_neg (by rw [ne];decide),hob]))
  refine codeAny_call_builtin SF.slot.plain SF.entry (@PySem.W.check_slot (model prog w) _ _ ⟨hp,g,d,t,os⟩ "object.__setattr__" "object" "__setattr__" (.ref x) [.str name tk,v] [] _ SF.kind SF.split sub (SF.args (.ref x) (.str name tk) v) ?_)
  have hmr:PySem.W.Looks (model prog w) hp (mroOf (.ref C)) cd.mro:=(PySem.W.looks_clsIn X hcd).andThen .now
  have L3:PySem.W.Looks (model prog w) hp (storeTaker? none) none:= .now
  have hcls:PySem.W.Looks (model prog w) hp (classData C) cd:=PySem.W.looks_clsIn X hcd
  rw [PySem.W.osa_eq,refuse_eq]
  refine wpAny_bind (wpAny_bind (I.type.at (wpAny_bind (hmr.at ?_))))
  rw [hm.pass]
  refine wpAny_pure (wpAny_bind (I.type.at (wpAny_bind ((PySem.W.looks_findIn X ha).at (wpAny_bind (L3.at ?_))))))
  show wpAny _ _ (storeInOwnDict (.ref x) (.ref C) (.str name tk) name v false) _ _ _
  obtain ⟨nm,bs,mro,ns,qn,hd,sn,sb,ab,col,del⟩:=cd
  dsimp only at hh
  subst hh
  unfold storeInOwnDict ownDictForStores
  repeat (first | with_reducible refine PySem.OEX.store_in_old hns hw hz ?_ | with_reducible refine wpAny_loadPart_at hx ?_ | with_reducible refine hcls.at ?_ | wp_step)
  intro h' tk' hn' hs
  exact hq h' tk' (fun b o hb ho=> (hs.2 b hb).trans ho) hn'
end
section
variable {X:Cx} {pins:List (Addr×Obj)} {σ:L2.St} {H:Hp} {s:Shared} {a C dx:Addr} {f:Str} {y:V} {u:Value} {fs:List (Str×V)} {Q:Unit→Shared→Prop} {E:Value→Shared→Prop} {A:Around}
theorem OexG.data {K:PySem.W.Frag} (T:OexG K C):∃cd bmB,PySem.W.clsIn K C=some cd∧MroG cd.mro bmB∧cd.hasDict=true:=by
  obtain ⟨nm,q,N,bs,bm,bmB,B,ni,ii,sn,sub,ab,col,dd,k0,k1,k2,k3,k5,hC,_,hm⟩:=T.cls
  exact ⟨{ name:=nm,bases:=bs,mro:= .ref C::bm,ns:=N,qualname:=q,hasDict:=true,slotNames:=sn,subclasses:=sub,abstract:=ab,collection:=col,hasDel:=false },bmB,by unfold PySem.W.clsIn;rw [hC] <;> rfl,hm.cons C,rfl⟩
theorem C1T (T:OexG X.K C) (I:L2.Inv X pins σ H s) (e:H a=some (exo a C none)) (hno:PySem.W.findIn X.K (.ref C) f=some none) (ry:RelV y u)
    (h:∀dx s',H dx=none→dx≠a→L2.Inv X pins σ (upd (upd H dx (exd dx [(f,y)])) a (exo a C (some dx))) s'→Q () s'):wpAny (model X.prog X.w) A (setAttr (.ref a) f u) Q E s:=by
  obtain ⟨cd,bmB,hcl,hm,hh⟩:=T.data
  obtain ⟨t1,ho⟩:=exo_at I.hok e
  obtain ⟨hp,g,d,t,os⟩:=s
  refine PySem.W.set_plain I.kIn (ox:={ cls:= .ref C,dict:=none,data:= .fields #[.ref t1,.none,.none,.none,.bool false,.none] }) (od:=none) ⟨ho,rfl,rfl,trivial⟩ T.sa ?_
  refine C2O I.kIn ho hcl hm hh hno (fun h' tk' dx k dn dne hx hn=> ?_)
  have hnd:H dx=none:=I.hok.fresh dn
  have nd:∀{b:Addr} {o:Obj},hp.get? b=some o→b≠dx:=fun {b o} q=> Nat.ne_of_lt (Nat.lt_of_lt_of_le (Heap.lt_size q) dn)
  have na:∀{b:Addr},H b=none→b≠a:=fun {b} n z=> by
    rw [z,e] at n
    cases n
  have U1:Un X.fs [] H (upd (upd H dx (exd dx [(f,y)])) a (exo a C (some dx))) hp h':={
    keep:=fun b o q n _ _=> k b o (na n) q
    slot:=fun b o q n _ _=> ⟨o.slots,k b o (na n) q⟩
    free:=fun b o q n _=> by rw [upd_ne (na n),upd_ne (nd q)];exact n
    there:=fun b o q _=> by
      by_cases hb:b=a
      · exact ⟨_,by rw [hb];exact hx⟩
      · exact ⟨o,k b o hb q⟩
    tups:=fun b xs q=> by rw [upd_ne (at_ne e q exo_tup),upd_ne (ne_of_none q hnd)];exact q
    frzs:=fun b o v q=> by rw [upd_ne (at_ne e q exo_frz),upd_ne (ne_of_none q hnd)];exact q
    tbls:=fun b ps q=> ⟨#[],by rw [upd_ne (at_ne e q exo_tbl),upd_ne (ne_of_none q hnd),q];simp⟩ }
  refine h dx _ hnd dne (I.un (t':=tk') U1 fun b o q=> ?_)
  by_cases hb:b=a
  · subst hb
    rw [upd_same] at q
    cases q
    exact exo_ok hx
  rw [upd_ne hb] at q
  by_cases hd:b=dx
  · subst hd
    rw [upd_same] at q
    cases q
    exact exd_ok hn (relO_put (fs:=[]) ry fun g=> True.intro)
  rw [upd_ne hd] at q
  exact (I.hok b o q).stay (fun c v hc z=> k c v (by
      rcases hc with hc | hc
      · rw [hc];exact hb
      · exact at_ne e hc exo_own) z)
    (fun c hc=> by rw [upd_ne (at_ne e hc exo_own),upd_ne (ne_of_none hc hnd)];exact hc) (fun c xs hc=> by rw [upd_ne (at_ne e hc exo_tup),upd_ne (ne_of_none hc hnd)];exact hc)
theorem C2N (T:OexG X.K C) (I:L2.Inv X pins σ H s) (e:H a=some (exo a C (some dx))) (ed:H dx=some (exd dx fs)) (hl:fs.length≤900) (hno:PySem.W.findIn X.K (.ref C) f=some none) (ry:RelV y u)
    (h:∀s',L2.Inv X pins σ (upd H dx (exd dx ((f,y)::fs))) s'→Q () s'):wpAny (model X.prog X.w) A (setAttr (.ref a) f u) Q E s:=by
  obtain ⟨cd,bmB,hcl,hm,hh⟩:=T.data
  obtain ⟨t1,ho⟩:=exo_at I.hok e
  obtain ⟨mA,hns,rel⟩:=exd_at I.hok ed
  have hw:=within_of rel
  obtain ⟨hp,g,d,t,os⟩:=s
  obtain ⟨oD,_,_,hoD,_,_⟩:=hns.count hw
  refine PySem.W.set_plain I.kIn (ox:={ cls:= .ref C,dict:=some dx,data:= .fields #[.ref t1,.none,.none,.none,.bool false,.none] }) (od:=some oD) ⟨ho,rfl,rfl,hoD⟩ T.sa ?_
  refine C2G I.kIn ho hns hw (by rw [List.length_map];omega) hcl hm hh hno (fun h' tk' k hn=> ?_)
  have hd:∃o,h'.get? dx=some o:=by
    obtain ⟨o,_,_,e',_⟩:=hn
    exact ⟨o,e'⟩
  exact h _ (I.write (t':=tk') (x:=dx) (e:=dx) (o:=exd dx ((f,y)::fs)) (by rw [ed];exact True.intro) (.inl rfl) k hd (exd_ok hn (relO_put ry rel)))
end
def C52 (K:PySem.W.Frag) (f:Str) (to te:TE):TS:=fun D σ H=> te σ H fun y H1=> to σ H1 fun x H2=> ∃a C:Addr,x= .ref a∧OexG K C∧PySem.W.findIn K (.ref C) f=some none∧
  ((H2 a=some (exo a C none)∧∀dx,H2 dx=none→dx≠a→D.nx σ (upd (upd H2 dx (exd dx [(f,y)])) a (exo a C (some dx))))∨
    ∃(dx:Addr) (fs:List (Str×V)),H2 a=some (exo a C (some dx))∧H2 dx=some (exd dx fs)∧fs.length≤900∧D.nx σ (upd H2 dx (exd dx ((f,y)::fs))))
section
variable {X:Cx} {o e:Expr} {es:List Expr} {to te:TE} {ta:TA} {f:Str} {p p' pos:Pos}
theorem A38 (ho:PE X o to) (he:PE X e te) (hs:swapsWith e (some (.Attribute o f p')) pos.line X.env=pure false:=by rfl):PS X (.Assign [.Attribute o f p'] e pos) (C52 X.K f to te):=by
  refine ⟨fun pins s σ H D I h=> ?_⟩
  refine plainObj_wpAny_Assign_Attribute (thn (he.run pins s σ H _ I h) fun v s1 ⟨y,H1,I1,r1,q1⟩=> thn (ho.run pins s1 σ H1 _ I1 q1) fun u s2 ⟨x,H2,I2,r2,a,C,ex,T,hno,q⟩=> ?_) hs
  subst ex
  obtain rfl:u=Value.ref a:=r2
  rcases q with ⟨ea,q⟩ | ⟨dx,fs,ea,ed,hl,q⟩
  · exact C1T T I2 ea hno r1 fun dx s' n ne J=> ⟨σ,_,J,q dx n ne⟩
  · exact C2N T I2 ea ed hl hno r1 fun s' J=> ⟨σ,_,J,q⟩
abbrev MkG (C:Addr) (sp:Sp) (vs:List V) (H1:Hp) (Q:XK):Prop:=vs.length≤1000∧∀a,H1 a=none→sp (.ref a::vs) (upd H1 a (exo a C none))
  (fun v H2=> v= .non∧∃(d:Addr) (fs:List (Str×V)),H2 a=some (exo a C (some d))∧H2 d=some (exd d fs)∧H1 d=none∧Q (.ref C) (some d) (upd (L2.del H2 a) d (.xd fs))) (fun _ _ _=> False)
theorem B55 {CX:CXT} {C fI:Addr} {k:Nat} {fd:FuncData} {ps:List Str} {sp:Sp} {pins:List (Addr×Obj)} {s:Shared} {σ:L2.St} {H:Hp} {us:List Value} {vs:List V} {Q:XK} (T:OexG X.K C) (iC:PySem.W.findIn X.K (.ref C) "__init__"=some (some (.ref fI)))
    (tI:PySem.W.typeIn X.K (.ref fI)=some (.type "function")) (F1:FnOk X.prog X.w X.K X.mg X.base CX k fI fd ps sp) (hr:Room (k+1) X.A) (hb:Binds X.K fd ps []) (hx:Passes CX X (fun _ _ _=> False)) (I1:L2.Inv X pins σ H s) (r1:Vals vs us) (q1:MkG C sp vs H Q):
    wpAny (model X.prog X.w) X.A (call (.ref C) us) (MkP X pins σ Q) X.xe s:=by
  obtain ⟨nm,q,N,bs,bm,bmB,B,ni,ii,sn,sub,ab,col,dd,k0,k1,k2,k3,k5,hC,FB,hm⟩:=T.cls
  obtain ⟨hz,q1⟩:=q1
  obtain ⟨hp,g,dr,tk,os⟩:=s
  have hsz:hp.objs.size≤hp.objs.size+1:=Nat.le_succ _
  have hn:H (hp.objs.size+1)=none:=I1.hok.fresh hsz
  have hq:=q1 (hp.objs.size+1) hn
  have kk:∀b o,hp.get? b=some o→((hp.push (PySem.W.kdv_tup us)).push (PySem.HandSPX.excO C hp.objs.size)).get? b=some o:=fun b o e=> Heap.get?_push_of_some _ (Heap.get?_push_of_some _ e)
  have hget:((hp.push (PySem.W.kdv_tup us)).push (PySem.HandSPX.excO C hp.objs.size)).get? (hp.objs.size+1)=some (PySem.HandSPX.excO C hp.objs.size):=by heap_get
  have I2:L2.Inv X pins σ (upd H (hp.objs.size+1) (exo (hp.objs.size+1) C none)) ⟨(hp.push (PySem.W.kdv_tup us)).push (PySem.HandSPX.excO C hp.objs.size),g,dr,tk,os⟩:=
    I1.laid (t':=tk) (a:=hp.objs.size+1) (o:=exo (hp.objs.size+1) C none) (h':=(hp.push (PySem.W.kdv_tup us)).push (PySem.HandSPX.excO C hp.objs.size)) kk hsz (exo_ok hget)
  have r2:Vals (V.ref (hp.objs.size+1)::vs) (Value.ref (hp.objs.size+1)::us):= .cons rfl r1
  have hl:((Value.ref (hp.objs.size+1)::us)++[]).length=ps.length:=by
    have e:=r2.length
    rw [F1.len _ _ _ _ hq] at e
    rw [List.append_nil]
    exact e.symm
  have hus:us.length≤sizeLine:=by
    rw [←Paired.length r1,sizeLine_eq]
    omega
  have b2:=hb _ (Value.ref (hp.objs.size+1)::us) I2.kIn hl
  rw [List.append_nil] at b2
  refine wpAny_call (PySem.HandSPX.call_own FB hm.cont (I1.kIn _ _ hC) (PySem.W.looks_findIn I1.kIn iC) (fun self=> PySem.W.bind_fn I1.kIn self tI) hus
    (codeAny_mono (F1.run _ X.stack _ _ ⟨Value.ref (hp.objs.size+1)::us,[]⟩ (Value.ref (hp.objs.size+1)::us) _ _ (fun _ _ _=> False) (hr.make C us []) (I2.env0.make C us []) b2 r2 hq) fun r s' hq'=> ?_))
  cases r with
  | error er=> exact hx pins σ _ _ er s' I2 hq'
  | ok fl=>
    cases fl with
    | ret u=>
      obtain ⟨v,H2,os2,bare2,un2,hok2,rv,ev,d,fs,ea,ed,hd1,q2⟩:=hq'
      subst ev
      obtain ⟨h2,g2,d2,t2,os'⟩:=s'
      exact ⟨rv,mk_end (raises_own T.exC T.tyC) I1 hsz kk un2 hok2 os2 bare2 ea ed hd1 q2⟩
    | next=> exact False.elim hq'
    | brk=> exact False.elim hq'
    | cont=> exact False.elim hq'
def B7K (C:Addr) (sp:Sp) (ta:TA):L2.St→Hp→XK→Prop:=fun σ H Q=> ta σ H fun vs H1=> MkG C sp vs H1 Q
theorem C5u {CX:CXT} {x:Str} {C fI:Addr} {k:Nat} {fd:FuncData} {ps:List Str} {sp:Sp} (T:OexG X.K C) (iC:PySem.W.findIn X.K (.ref C) "__init__"=some (some (.ref fI))) (tI:PySem.W.typeIn X.K (.ref fI)=some (.type "function"))
    (F1:FnOk X.prog X.w X.K X.mg X.base CX k fI fd ps sp) (hr:Room (k+1) X.A) (hb:Binds X.K fd ps []) (hx:Passes CX X (fun _ _ _=> False)) (hg:Gl X x) (hm:X.mg x=some (.ref C)) (ha:PA X (e::es) ta)
    (hdb:(x==("__debug__":Str))=false:=by decide) (he:starEach (e::es) X.env=(false,eval e X.env)::starEach es X.env:=by rfl) (hpl:(backTo pos (starEach es X.env)).any (·.1)=false:=by rfl):
    PMk X (.Call (.Name x p) (e::es) [] pos) (B7K C sp ta):=by
  intro pins s σ H Q I h
  refine wpAny_Call_Name_kw (ld_glob I hg hm ?_ hdb)
  exact PySem.W.callWith_K (h₀:=X.base) I.ok.mod.kin T.kC (thn (ha.run pos pins s σ H _ I h) fun us s1 ⟨vs,H1,I1,r1,q1⟩=> ⟨I1.kIn,B55 T iC tI F1 hr hb hx I1 r1 q1⟩) he hpl
theorem C4o {CX:CXT} {x:Str} {C fI:Addr} {k:Nat} {fd:FuncData} {ps:List Str} {sp:Sp} (T:OexG X.K C) (iC:PySem.W.findIn X.K (.ref C) "__init__"=some (some (.ref fI))) (tI:PySem.W.typeIn X.K (.ref fI)=some (.type "function"))
    (F1:FnOk X.prog X.w X.K X.mg X.base CX k fI fd ps sp) (hr:Room (k+1) X.A) (hb:Binds X.K fd ps []) (hx:Passes CX X (fun _ _ _=> False)) (hg:Gl X x) (hm:X.mg x=some (.ref C)) (hdb:(x==("__debug__":Str))=false:=by decide):
    PMk X (.Call (.Name x p) [] [] pos) (B7K C sp fun σ H K=> K [] H):=by
  intro pins s σ H Q I h
  refine wpAny_Call_Name_kw (ld_glob I hg hm ?_ hdb)
  exact PySem.W.callWith_K0 I.kIn T.kC (B55 T iC tI F1 hr hb hx I .nil h)
end
def initF {α:Type} (word:α) (fs:List Str) (vs:List α):List (Str×α):=(fs.zip vs).reverse++[(("word":Str),word)]
def A8Z (C:Addr) (word:Str) (fs:List Str):Sp:=fun vs H Q _=> ∃a us,vs= .ref a::us∧us.length=fs.length∧H a=some (exo a C none)∧
  ∀d H2,H d=none→d≠a→H2 a=some (exo a C (some d))→H2 d=some (exd d (initF (V.str word) fs us))→(∀b,b≠a→b≠d→H2 b=H b)→Q .non H2
section
variable {P:Program} {w:World} {K:PySem.W.Frag} {mg:Str→Option Value} {base:Heap} {qual word f g:Str} {params:Arguments} {scope:Scope} {fI C:Addr} {fd:FuncData} {q1 q2 q3 q4 q5 q6 q7 q8 r5 r6 r7 r8:Pos} {j:Nat}
theorem C5H (F:FunD K "__init__" qual params [.Assign [.Attribute (.Name "self" q1) "word" q2] (.Constant (.str word) j q3) q4] scope [] [] fI fd) (S:FnScope ["self"] ["self"] scope)
    (T:OexG K C) (nw:PySem.W.findIn K (.ref C) "word"=some none):
    FnOk P w K mg base (L2.CX P w) 1 fI fd ["self"] (A8Z C word []):=by
  have v0:Vis scope "self":=(S.par "self" (by simp)).imp id .inl
  refine F.ok S (fun vs H Q E ⟨a,us,e,l,_⟩=> by rw [e];simpa using l) fun cdv A outer s H vs Q E hr ⟨a,us,e,l,ea,q⟩=> ?_
  subst e
  obtain rfl:us=[]:=List.length_eq_zero_iff.mp l
  refine ⟨_,pss_one (A38 (pe_var (i:=0) rfl v0) pe_str),?_⟩
  refine ⟨.ref a,rfl,a,C,rfl,T,nw,.inl ⟨ea,fun d nd da=> ?_⟩⟩
  exact q d _ nd da upd_same (by rw [upd_ne da,upd_same];rfl) fun b h1 h2=> by rw [upd_ne h1,upd_ne h2]
theorem C47 (F:FunD K "__init__" qual params [.Assign [.Attribute (.Name "self" q1) "word" q2] (.Constant (.str word) j q3) q4,.Assign [.Attribute (.Name "self" q5) f q6] (.Name f q7) q8] scope [] [] fI fd) (S:FnScope ["self",f] ["self",f] scope)
    (T:OexG K C) (nw:PySem.W.findIn K (.ref C) "word"=some none) (nf:PySem.W.findIn K (.ref C) f=some none) (hd:(f==("__debug__":Str))=false:=by decide) (hcd:(f==("__classdict__":Str))=false:=by decide):
    FnOk P w K mg base (L2.CX P w) 1 fI fd ["self",f] (A8Z C word [f]):=by
  have v0:Vis scope "self":=(S.par "self" (by simp)).imp id .inl
  have v1:Vis scope f:=(S.par f (by simp)).imp id .inl
  refine F.ok S (fun vs H Q E ⟨a,us,e,l,_⟩=> by rw [e];simpa using l) fun cdv A outer s H vs Q E hr ⟨a,us,e,l,ea,q⟩=> ?_
  subst e
  obtain ⟨y,rfl⟩:∃y,us=[y]:=by
    match us,l with
    | [y],_=> exact ⟨y,rfl⟩
  refine ⟨_,pss_cons (A38 (pe_var (i:=0) rfl v0) pe_str) (pss_one (A38 (pe_var (i:=0) rfl v0) (pe_var (i:=1) rfl v1 hd hcd))),?_⟩
  refine ⟨.ref a,rfl,a,C,rfl,T,nw,.inl ⟨ea,fun d nd da=> ?_⟩⟩
  refine ⟨y,rfl,.ref a,rfl,a,C,rfl,T,nf,.inr ⟨d,_,upd_same,by rw [upd_ne da,upd_same],by simp,?_⟩⟩
  exact q d _ nd da (by rw [upd_ne (Ne.symm da),upd_same]) (by rw [upd_same];rfl) fun b h1 h2=> by rw [upd_ne h2,upd_ne h1,upd_ne h2]
theorem C5J (F:FunD K "__init__" qual params [.Assign [.Attribute (.Name "self" q1) "word" q2] (.Constant (.str word) j q3) q4,.Assign [.Attribute (.Name "self" q5) f q6] (.Name f q7) q8,.Assign [.Attribute (.Name "self" r5) g r6] (.Name g r7) r8] scope [] [] fI fd) (S:FnScope ["self",f,g] ["self",f,g] scope)
    (T:OexG K C) (nw:PySem.W.findIn K (.ref C) "word"=some none) (nf:PySem.W.findIn K (.ref C) f=some none) (ng:PySem.W.findIn K (.ref C) g=some none) (hd:(f==("__debug__":Str))=false:=by decide) (hcd:(f==("__classdict__":Str))=false:=by decide)
    (hd':(g==("__debug__":Str))=false:=by decide) (hcd':(g==("__classdict__":Str))=false:=by decide):
    FnOk P w K mg base (L2.CX P w) 1 fI fd ["self",f,g] (A8Z C word [f,g]):=by
  have v0:Vis scope "self":=(S.par "self" (by simp)).imp id .inl
  have v1:Vis scope f:=(S.par f (by simp)).imp id .inl
  have v2:Vis scope g:=(S.par g (by simp)).imp id .inl
  refine F.ok S (fun vs H Q E ⟨a,us,e,l,_⟩=> by rw [e];simpa using l) fun cdv A outer s H vs Q E hr ⟨a,us,e,l,ea,q⟩=> ?_
  subst e
  obtain ⟨y,z,rfl⟩:∃y z,us=[y,z]:=by
    match us,l with
    | [y,z],_=> exact ⟨y,z,rfl⟩
  refine ⟨_,pss_cons (A38 (pe_var (i:=0) rfl v0) pe_str) (pss_cons (A38 (pe_var (i:=0) rfl v0) (pe_var (i:=1) rfl v1 hd hcd)) (pss_one (A38 (pe_var (i:=0) rfl v0) (pe_var (i:=2) rfl v2 hd' hcd')))),?_⟩
  refine ⟨.ref a,rfl,a,C,rfl,T,nw,.inl ⟨ea,fun d nd da=> ?_⟩⟩
  refine ⟨y,rfl,.ref a,rfl,a,C,rfl,T,nf,.inr ⟨d,_,upd_same,by rw [upd_ne da,upd_same],by simp,?_⟩⟩
  refine ⟨z,rfl,.ref a,rfl,a,C,rfl,T,ng,.inr ⟨d,_,by rw [upd_ne (Ne.symm da),upd_same],upd_same,by simp,?_⟩⟩
  exact q d _ nd da (by rw [upd_ne (Ne.symm da),upd_ne (Ne.symm da),upd_same]) (by rw [upd_same];rfl) fun b h1 h2=> by rw [upd_ne h2,upd_ne h2,upd_ne h1,upd_ne h2]
end
structure XkOk (P:Program) (w:World) (K:PySem.W.Frag) (mg:Str→Option Value) (base:Heap) (x word:Str) (fs:List Str):Prop where
  gl:mg x=some (.ref (He.ga K x))
  cls:OexG K (He.ga K x)
  ini:∃fI fd ps,PySem.W.findIn K (.ref (He.ga K x)) "__init__"=some (some (.ref fI))∧PySem.W.typeIn K (.ref fI)=some (.type "function")∧Binds K fd ps []∧FnOk P w K mg base (L2.CX P w) 1 fI fd ps (A8Z (He.ga K x) word fs)
def w9 (E:AExc→A1→AH→Prop) (x word:Str) (fs:List Str) (t:I6):D1:=fun _ env h=> t env h fun ws env1 h1=> E ⟨x,initF (W.str word) fs ws⟩ env1 h1
theorem RepL.initF {K:PySem.W.Frag} {H:Hp} {word:Str}:∀{fs:List Str} {ws:List W} {vs:List V},RepL K H ws vs→ws.length=fs.length→FRep K H (initF (W.str word) fs ws) (initF (V.str word) fs vs):=fun {fs ws vs} r l=> by
  have lv:vs.length=fs.length:=by rw [←r.length,l]
  refine ⟨?_,?_⟩
  · unfold Ab.initF
    rw [List.map_append,List.map_append,List.map_reverse,List.map_reverse,List.map_fst_zip (by omega),List.map_fst_zip (by omega)]
    rfl
  · unfold Ab.initF
    rw [List.map_append,List.map_append,List.map_reverse,List.map_reverse,List.map_snd_zip (by omega),List.map_snd_zip (by omega)]
    refine RepL.append ?_ (.cons .str .nil)
    clear l lv
    induction ws generalizing vs with
    | nil=> rw [r.of_nil];exact .nil
    | cons w ws ih=>
      obtain ⟨v,t,rfl,a,b⟩:=r.of_cons
      rw [List.reverse_cons,List.reverse_cons]
      exact (ih b).append (.cons a .nil)
section
variable {X:Cx} {G:Gx} {x word:Str} {fs:List Str} {t:I6} {e:Expr} {es:List Expr} {E:AExc→A1→AH→Prop} {p pos pos2:Pos} {k:Nat}
theorem A2N (R:XkOk X.prog X.w X.K X.mg X.base x word fs) (gk:G.K=X.K) (hc:X.calm=true) (tk:Takes X (cW G E)) (hr:Room k X.A) (hk:2≤k) (hg:Gl X x) (ha:AN X G (e::es) fs.length t) (hl:fs.length≤900:=by decide)
    (hdb:(x==("__debug__":Str))=false:=by decide) (he:starEach (e::es) X.env=(false,eval e X.env)::starEach es X.env:=by rfl) (hpl:(backTo pos (starEach es X.env)).any (·.1)=false:=by rfl):
    AS X G (.Raise (some (.Call (.Name x p) (e::es) [] pos)) none pos2) (w9 E x word fs t):=by
  obtain ⟨fI,fd,ps,iC,tI,hb,F⟩:=R.ini
  refine ⟨fun D D' env h l q=> q,PS.imp (ps_raise hc tk (C5u R.cls iC tI F (hr.mono hk) hb (passes_call (W:=fun _ _ _ _=> False) takes0 fun _ _ _ _ z=> z) hg R.gl ha.aa.pa hdb he hpl)) fun D σ H ⟨env,h,Da,S,q,l⟩=> ?_⟩
  refine ⟨env,h,S,ha.aa.mono env h _ _ (fun ws env1 h1 ⟨wl,z⟩ vs H1 S1 x1 r1=> ?_) (ha.ln _ _ _ q)⟩
  have lv:vs.length=fs.length:=by rw [←r1.length,wl]
  refine ⟨by omega,fun a na=> ⟨a,vs,rfl,lv,upd_same,fun d H2 nd da e1 e2 e3=> ⟨rfl,d,_,e1,e2,?_,?_⟩⟩⟩
  · rw [upd_ne da] at nd;exact nd
  · have nd1:H1 d=none:=by rw [upd_ne da] at nd;exact nd
    have nw:New H1 (upd (L2.del H2 a) d (.xd (initF (V.str word) fs vs))):=fun p o ep=> by
      have pa:p≠a:=ne_of_none ep na
      have pd:p≠d:=ne_of_none ep nd1
      rw [upd_ne pd,del_ne pa,e3 p pa pd,upd_ne pa]
      exact ep
    refine ⟨⟨x,initF (W.str word) fs ws⟩,env1,h1,nw.bs S1,⟨by rw [gk],d,_,rfl,upd_same,RepL.initF (RepL.mono nw.keeps _ _ r1) wl⟩,z⟩
theorem C1M (R:XkOk X.prog X.w X.K X.mg X.base x word []) (gk:G.K=X.K) (hc:X.calm=true) (tk:Takes X (cW G E)) (hr:Room k X.A) (hk:2≤k) (hg:Gl X x) (hdb:(x==("__debug__":Str))=false:=by decide):
    AS X G (.Raise (some (.Call (.Name x p) [] [] pos)) none pos2) (w9 E x word [] aNil):=by
  obtain ⟨fI,fd,ps,iC,tI,hb,F⟩:=R.ini
  refine ⟨fun D D' env h l q=> q,PS.imp (ps_raise hc tk (C4o R.cls iC tI F (hr.mono hk) hb (passes_call (W:=fun _ _ _ _=> False) takes0 fun _ _ _ _ z=> z) hg R.gl hdb)) fun D σ H ⟨env,h,Da,S,q,l⟩=> ?_⟩
  refine ⟨Nat.zero_le _,fun a na=> ⟨a,[],rfl,rfl,upd_same,fun d H2 nd da e1 e2 e3=> ⟨rfl,d,_,e1,e2,?_,?_⟩⟩⟩
  · rw [upd_ne da] at nd;exact nd
  · have nd1:H d=none:=by rw [upd_ne da] at nd;exact nd
    have nw:New H (upd (L2.del H2 a) d (.xd (initF (V.str word) [] []))):=fun p o ep=> by
      have pa:p≠a:=ne_of_none ep na
      have pd:p≠d:=ne_of_none ep nd1
      rw [upd_ne pd,del_ne pa,e3 p pa pd,upd_ne pa]
      exact ep
    refine ⟨⟨x,initF (W.str word) [] []⟩,env,h,nw.bs S,⟨by rw [gk],d,_,rfl,upd_same,RepL.initF .nil rfl⟩,q⟩
end
end Ab
namespace Ab
open PySem PySem.Spec PyProof.Rows L2
abbrev A6A:=Addr→Value→Option Addr→TS
def B7T (K:PySem.W.Frag) (Wout:WX) (D:Ends):List (Value×Nat×A6A)→WX
  | []=> Wout
  | (c,i,u)::r=> fun cls d σ H=> ∃b,PySem.W.exmOne K cls c=some b∧
      (b=true→∀x,H x=none→u x cls d { nx:=fun σ1 H1=> D.nx (σ1.set i none) H1,rt:=D.rt,bk:=fun σ1 H1=> D.bk (σ1.set i none) H1,ct:=fun σ1 H1=> D.ct (σ1.set i none) H1 } (σ.set i (some (.ref x))) H)∧
      (b=false→B7T K Wout D r cls d σ H)
inductive HdsAs (X:Cx):List ExceptHandler→List (Value×Nat×A6A)→Prop where
  | nil:HdsAs X [] []
  | cons {x n:Str} {c:Value} {i:Nat} {b:Stmt} {suite:List Stmt} {np pos:Pos} {u:A6A} {hds:List ExceptHandler} {l:List (Value×Nat×A6A)} (hi:X.N[i]? =some n) (hln:X.env.kindOf n=some .local) (hc:Names X x c)
      (hsu:∀(a:Addr) (oe:Obj) (cls:Value) (d:Option Addr) (pn:List (Addr×Obj)),Zc cls d oe→(∃vs,oe.data= .fields vs)→PSs (X.suite a ((a,oe)::pn)) (b::suite) (u a cls d)) (t:HdsAs X hds l):
      HdsAs X (.ExceptHandler (some (.Name x np)) (some n) (b::suite) pos::hds) ((c,i,u)::l)
section
variable {X:Cx} {pins:List (Addr×Obj)} {s:Shared} {Wout:WX} {D:Ends}
theorem C89 {B h:Heap} {sI:Shared} {pinsI:List (Addr×Obj)} {σ:L2.St} {H:Hp} {a:Addr} {cls:Value} {d:Option Addr} (stk:X.stack=X.env::X.outer) (fr:X.env.frame=some X.env.locals) (nd:X.N.Nodup) (tk:Takes X Wout) (ok:X.Ok)
    (J:L2.Inv X pins σ H sI) (kb:∀b o,sI.heap.get? b=some o→b∉frs X.stack→B.get? b=some o) (up:sI.heap.UpToSlots s.heap) (na:H a=none) (os:s.os=sI.os) (ag:AllBare s.gens)
    (fl:HandSPX.FlyingZ B (X.env::X.outer) a (Zc cls d) h) (uph:s.heap.UpToSlots h) (hk:X.A.frames=some (X.env::X.outer)):
    ∀{hds:List ExceptHandler} {l:List (Value×Nat×A6A)},HdsAs X hds l→B7T X.K Wout D l cls d σ H→wpAny (model X.prog X.w) X.A (handleBy (.ref a) X.env hds) (SP X pins D) X.xe { s with heap:=h }:=by
  intro hds l hh
  induction hh with
  | nil=>
    intro wish
    have wish:Wout cls d σ H:=wish
    refine wpAny_handleBy_nil ?_
    obtain ⟨_,_,_,ox,xs,T,oT,_,hx,_,hdx,h1x,_⟩:=id fl
    unfold PySem.passOn
    refine wpAny_bind (wpAny_field hx hdx h1x ?_)
    rw [if_neg (by simp:¬((Value.ref T==Value.none)=true))]
    have away:wpAny (model X.prog X.w) X.A (setFlight (.ref a) X.env.frame) (fun _ r=> wpAny (model X.prog X.w) X.A (throw (.ref a):Sem Flow) (SP X pins D) X.xe r) X.xe { s with heap:=h }:=by
      rw [fr]
      refine HandSPX.setFlight_upZ fl fun g hg ug=> wpAny_throw (tk _ _ ?_)
      exact ⟨a,B,sI,pins,σ,H,cls,d,rfl,J,kb,(up.trans uph).trans ug,.inr (.inr (by rw [stk];exact hg)),na,os,ag,wish⟩
    first
      | exact wpAny_bind (wpAny_pure (wpAny_bind away))
      | exact wpAny_bind away
  | cons hi hln hc hsu t ih=>
    rename_i x n c i b suite np pos u hds l
    intro wish
    obtain ⟨y,hy,yes,no⟩:=wish
    have lc:Loc X.env.scope n:= .inl hln
    have J1:L2.Inv X pins σ H { s with heap:=h }:=J.landed kb fl.1 (up.trans uph) os ag
    obtain ⟨ox,xs,hx,hzx,hdx⟩:=fl.there
    have off:∀{g:Heap} {o:Obj} {vs:Array Value},g.FunFrames B (X.env::X.outer)→g.get? a=some o→o.data= .fields vs→a∉frs (X.env::X.outer):=fun {g o vs} ff e dd hm=> by
      obtain ⟨_,o1,e1,nf⟩:=ff.mem hm
      rw [e] at e1;cases e1
      exact nf _ dd
    have offA:=off fl.2.2.1 hx hdx
    have aL:a≠X.env.locals:=fun z=> offA (List.mem_filterMap.mpr ⟨X.env,List.mem_cons_self,by rw [fr,z]⟩)
    have aF:a∉X.fs:=fun hm=> by
      obtain ⟨e,he,q⟩:=List.mem_filterMap.mp hm
      exact offA (List.mem_filterMap.mpr ⟨e,List.mem_cons_of_mem _ he,q⟩)
    have J2:=J1.suite hx hdx na aL aF
    have ty:PySem.W.Looks (model X.prog X.w) h (typeOf (.ref a)) cls:=fun A Q E s k q=> wpAny_typeOf_ref (k _ _ hx) (by rw [hzx.1];exact q)
    have hit:=PySem.W.exm_one (M:=model X.prog X.w) (J1.kIn) ty hy
    have named:∀{Q:Value→Shared→Prop} {E:Value→Shared→Prop},Q c { s with heap:=h }→wpAny (model X.prog X.w) (X.A.mark (some (.ref a))) (eval (.Name x np) X.env) Q E { s with heap:=h }:=fun {Q E} q=> by
      obtain ⟨g1,g2,g3 | ⟨g3,g4,g5⟩⟩:=hc
      · exact ld_glob (X:=X.suite a ((a,ox)::(X.pn++pins))) J2 g1 g3 q g2
      · exact ld_blt (X:=X.suite a ((a,ox)::(X.pn++pins))) J2 g1 g3 g4 q g5 g2
    refine wpAny_handleBy_cons (codeAny_handlers_test (named (hit.here ?_))) (by intro z;cases z)
    cases y with
    | false=> exact ih (no rfl)
    | true=>
      refine codeAny_handlers_suite_as (HandSPX.lands_againZ fl fun g flg ug=> ?_)
      have J3:L2.Inv X pins σ H { s with heap:=g }:=J.landed kb flg.1 ((up.trans uph).trans ug) os ag
      obtain ⟨oy,ys,hoy,hzy,hdy⟩:=flg.there
      have J4:=J3.suite hoy hdy na aL aF
      refine store_ok (X:=X.suite a ((a,oy)::(X.pn++pins))) (v:= .ref a) J4 nd hi lc rfl (fun s5 J5=> ?_) (.inr hln)
      refine wpAny_mono ((hsu a oy cls d (X.pn++pins) hzy ⟨_,hdy⟩).run [] s5 _ H _ J5 (yes rfl a na)) (fun f s6 done=> ?_) (fun _ _ z=> False.elim z)
      have shut:∀{σ6:L2.St} {H6:Hp} {Q:Shared→Prop},L2.Inv (X.suite a ((a,oy)::(X.pn++pins))) [] σ6 H6 s6→(∀s7,L2.Inv X pins (σ6.set i none) H6 s7→Q s7)→
          wpAny (model X.prog X.w) X.A (do bindName X.env n .none;unbindBehindTheSuite X.env n pos) (fun _ s7=> Q s7) X.xe s6:=fun {σ6 H6 Q} J6 hq=> gone_ok (J6.unsuite ok) nd hi hln hq
      cases f with
      | next=>
        obtain ⟨σ6,H6,J6,q6⟩:=done
        exact shut J6 fun s7 J7=> ⟨_,_,J7,q6⟩
      | brk=>
        obtain ⟨σ6,H6,J6,q6⟩:=done
        exact shut J6 fun s7 J7=> ⟨_,_,J7,q6⟩
      | cont=>
        obtain ⟨σ6,H6,J6,q6⟩:=done
        exact shut J6 fun s7 J7=> ⟨_,_,J7,q6⟩
      | ret v=>
        obtain ⟨v6,σ6,H6,J6,r6,q6⟩:=done
        exact shut J6 fun s7 J7=> ⟨_,_,_,J7,r6,q6⟩
end
end Ab
namespace Ab
open PySem PySem.Spec PyProof.Rows L2
abbrev XT:=AExc→(W→Prop)→Prop
abbrev XTs:=AExc→(List W→Prop)→Prop
def B6n (t:XT):Prop:=∀x K K',(∀w,K w→K' w)→t x K→t x K'
def C4J (t:XTs):Prop:=∀x K K',(∀w,K w→K' w)→t x K→t x K'
structure XS (G:Gx) (i:Nat) (a:Addr) (cls:Value) (d:Option Addr) (x:AExc) (env:A1) (h:AH) (σ:L2.St) (H:Hp):Prop where
  bs:BS G env h σ H
  at_:σ[i]? =some (some (V.ref a))
  rep:XRep G.K H x cls d
theorem XRep.new {K:PySem.W.Frag} {H H':Hp} {x:AExc} {cls:Value} {d:Option Addr} (n:New H H') (r:XRep K H x cls d):XRep K H' x cls d:=by
  obtain ⟨e,dd,vs,ed,ea,f1,f2⟩:=r
  exact ⟨e,dd,vs,ed,n _ _ ea,f1,RepL.mono n.keeps _ _ f2⟩
structure XV (X:Cx) (G:Gx) (i:Nat) (ks:List Str) (e:Expr) (t:XT):Prop where
  mono:B6n t
  pe:∀(a:Addr) (oe:Obj) (cls:Value) (d:Option Addr) (pn:List (Addr×Obj)),Zc cls d oe→(∃vs,oe.data= .fields vs)→PE (X.suite a ((a,oe)::pn)) e (fun σ H Q=> ∃x env h,XS G i a cls d x env h σ H∧x.n∈ks∧
    t x fun w=> ∀v H',New H H'→Rep G.K H' w v→Q v H')
structure XVs (X:Cx) (G:Gx) (i:Nat) (ks:List Str) (es:List Expr) (t:XTs):Prop where
  mono:C4J t
  pa:∀(a:Addr) (oe:Obj) (cls:Value) (d:Option Addr) (pn:List (Addr×Obj)),Zc cls d oe→(∃vs,oe.data= .fields vs)→PA (X.suite a ((a,oe)::pn)) es (fun σ H Q=> ∃x env h,XS G i a cls d x env h σ H∧x.n∈ks∧
    t x fun ws=> ∀vs H',New H H'→RepL G.K H' ws vs→Q vs H')
theorem FRep.lookup {K:PySem.W.Frag} {H:Hp}:∀{fs:List (Str×W)} {vs:List (Str×V)} {f:Str} {w:W},FRep K H fs vs→fs.lookup f=some w→∃v,vs.lookup f=some v∧Rep K H w v
  | [],_,_,_,_,e=> by cases e
  | (g,x)::fs,vs,f,w,⟨n,r⟩,e=> by
    obtain ⟨v,t,ev,rv,rt⟩:=RepL.of_cons (K:=K) (H:=H) r
    cases vs with
    | nil=> cases ev
    | cons p vs=>
      obtain ⟨g',y⟩:=p
      simp only [List.map_cons,List.cons.injEq] at n ev
      obtain ⟨n1,n2⟩:=n
      obtain ⟨v1,v2⟩:=ev
      subst n1 v1 v2
      rw [List.lookup_cons] at e ⊢
      cases q:(f==g) with
      | true=>
        rw [q] at e
        cases e
        exact ⟨_,rfl,rv⟩
      | false=>
        rw [q] at e
        exact FRep.lookup (fs:=fs) (vs:=vs) ⟨n2,rt⟩ e
section
variable {X:Cx} {G:Gx} {i:Nat} {ks:List Str} {n f:Str} {p pos:Pos} {e:Expr} {es:List Expr}
end
abbrev HdL:=List (Str×Nat×Nat×XT)
def B6W (env:A1):Bool:=env.all fun o=> match o with
  | some (.own _)=> false
  | _=> true
theorem B4B {env:A1} (h:B6W env=true) {i:Nat} {c:Cont} (e:env[i]? =some (some (.own c))):False:=by
  have z:=List.all_eq_true.mp h _ (List.mem_of_getElem? e)
  cases z
theorem BS.into {G:Gx} {env:A1} {h:AH} {σ:L2.St} {H:Hp} (S:BS G env h σ H) (no:B6W env=true):BS ⟨G.K,h,H⟩ env h σ H:=
  ⟨S.len,S.val,fun i c e=> (B4B no e).elim,fun i j c c' p e=> (B4B no e).elim,S.hp,fun p o e _ _=> e,fun a o e n=> (by have n:h a=none:=n;rw [n] at e;cases e),fun p o e=> ⟨o,e⟩,S.tabs⟩
theorem BS.keeps {K:PySem.W.Frag} {G:Gx} {env env':A1} {h h':AH} {σ σ':L2.St} {H H':Hp} (S:BS G env h σ H) (T:BS ⟨K,h,H⟩ env' h' σ' H'):Keeps H H':=fun p o e i=> T.fr p o e (S.imm e i).1 i.nt
inductive HdA (X:Cx) (ks:List Str):List ExceptHandler→HdL→Prop where
  | nil:HdA X ks [] []
  | cons {c n y:Str} {i j:Nat} {e:Expr} {np py pos pos':Pos} {sv:XT} {hds:List ExceptHandler} {l:HdL} (hi:X.N[i]? =some n) (hln:X.env.kindOf n=some .local) (hg:Gl X c) (hm:X.mg c=some (.ref (He.ga X.K c)))
      (ex:∀k∈ks,PySem.W.exmOne X.K (.ref (He.ga X.K k)) (.ref (He.ga X.K c))=some (C6Z k c)) (hj:X.N[j]? =some y) (hy:Loc X.env.scope y) (fy:X.fn y=true∨X.env.scope.names.lookup y=some .local) (ne:i≠j)
      (hv:∀G:Gx,G.K=X.K→XV X G i ks e sv) (hs:swapsWithSole [.Name y py] e pos.line X.env=pure false) (hw:swappedStores [.Name y py] e X.env=pure none) (h1:(assignEach [.Name y py] X.env).map (·.2)=[assign (.Name y py) X.env])
      (hdb:(c==("__debug__":Str))=false) (t:HdA X ks hds l):HdA X ks (.ExceptHandler (some (.Name c np)) (some n) [.Assign [.Name y py] e pos] pos'::hds) ((c,i,j,sv)::l)
section
variable {X:Cx} {G:Gx} {ks:List Str} {hs:HdL} {body:List Stmt} {h₀:ExceptHandler} {hds:List ExceptHandler} {t:(AExc→A1→AH→Prop)→D1} {E:AExc→A1→AH→Prop} {pos:Pos}
def GLe (G G':Gx):Prop:=∀H:Hp,(∀p o,G'.H0 p=some o→G'.h0 p=none→NT o→H p=some o)→∀p o,G.H0 p=some o→G.h0 p=none→NT o→H p=some o
theorem GLe.refl {G:Gx}:GLe G G:=fun _ h=> h
theorem _root_.Ab.LamHas.to {Z:Cx} {G':Gx} {f:Addr} {n:Nat} {sp:I9} (L:LamHas Z G f n sp) (g:GLe G G') (pn:List (Addr×Obj)) (xe:Value→Shared→Prop):LamHas (Z.tr pn xe) G' f n sp:=
  ⟨L.m,fun s H k=> L.fn s H (g H k),fun s H us vs Q E k=> L.run s H us vs Q E (g H k)⟩
end
end Ab
namespace Ab
open PySem PySem.Spec PyProof.Rows L2
section
variable {prog:Program} {w:World} {A:Around} {R:Result→Shared→Prop} {I:Addr} {fp wr:List Addr} {n:Nat} {P:Nat→Value→Prop} {St:Nat→Heap→Prop}
end
section
variable {prog:Program} {w:World} {A:Around} {E:Value→Shared→Prop} {s:Shared} {l:Addr} {xs:Array (Int×Tok)}
end
section
variable {X:Cx} {G:Gx} {e:Expr} {p pos kpos cp:Pos} {j:Nat} {t:X7}
end
end Ab
namespace Ab
open PySem PySem.Spec PyProof.Rows L2
section
variable {X:Cx} {G:Gx} {c:Expr} {body:List Stmt} {pos:Pos} {tc:L8} {tb:D1}
end
end Ab
namespace Ab
open PySem PySem.Spec PyProof.Rows L2
section
variable {prog:Program} {w:World} {K:Type} [DecidableEq K] {kd:KeyKind prog w K} {A:Around} {E:Value→Shared→Prop} {s:Shared}
end
section
variable {X:Cx} {pins:List (Addr×Obj)} {σ:L2.St} {H:Hp} {s:Shared} {a:Addr} {kvs:List (List Key×V)} {A:Around} {E:Value→Shared→Prop} {o i e:Expr} {td ty tv:TE} {pos pos':Pos}
end
end Ab
namespace Ab
open PySem PySem.Spec PyProof.Rows L2 RZ
def A4e (l:List (List Int×W)):List (W×W):=(W.lst [],W.non)::l.map fun p=> (W.tup (p.1.map .int),p.2)
def A6R (l:List (List Int×W)) (ns:List Int):Option W:=(l.find? fun p=> decide (p.1=ns)).map (·.2)
section
variable {X:Cx} {G:Gx}
def aInT (neg:Bool) (i:Nat) (tk:D5):AT:=fun env h Q=> tk env h fun w env1 h1=> (∃(l:List (List Int×W)) (ns:List Int),env1[i]? =some (some (.own (.map (A4e l))))∧w= .tup (ns.map .int)∧
  Q (.val (.bl (if neg=true then !(A6R l ns).isSome else (A6R l ns).isSome))) env1 h1)∨neg=false∧(∃l:List (List Int×W),env1[i]? =some (some (.own (.map (A4e l)))))∧w= .non∧Q (.val (.bl false)) env1 h1
theorem aInT.mono {neg:Bool} {i:Nat} {tk:D5} (m:B9 tk):B9 (aInT neg i tk):=fun env h Q Q' k q=> m env h _ _ (fun w e g z=> by
  rcases z with ⟨l,ns,z1,z2,z3⟩ | ⟨z1,z2,z3,z4⟩
  · exact .inl ⟨l,ns,z1,z2,k _ _ _ z3⟩
  · exact .inr ⟨z1,z2,z3,k _ _ _ z4⟩) q
def aGetT (i:Nat) (tk:D5):AT:=fun env h Q=> (∃kvs,env[i]? =some (some (.own (.map kvs))))∧tk env h fun w env1 h1=> ∃(l:List (List Int×W)) (ns:List Int) (v:W),env1[i]? =some (some (.own (.map (A4e l))))∧w= .tup (ns.map .int)∧
  A6R l ns=some v∧Q (.val v) env1 h1
theorem aGetT.mono {i:Nat} {tk:D5} (m:B9 tk):B9 (aGetT i tk):=fun env h Q Q' k q=> ⟨q.1,m env h _ _ (fun w e g ⟨l,ns,v,z1,z2,z3,z4⟩=> ⟨l,ns,v,z1,z2,z3,k _ _ _ z4⟩) q.2⟩
def aGetDT (i:Nat) (tk td:D5):AT:=fun env h Q=> (∃kvs,env[i]? =some (some (.own (.map kvs))))∧tk env h fun w env1 h1=> td env1 h1 fun d env2 h2=>
  ∃(l:List (List Int×W)) (ns:List Int),env2[i]? =some (some (.own (.map (A4e l))))∧w= .tup (ns.map .int)∧Q (.val ((A6R l ns).getD d)) env2 h2
theorem aGetDT.mono {i:Nat} {tk td:D5} (m:B9 tk) (n:B9 td):B9 (aGetDT i tk td):=fun env h Q Q' k q=>
  ⟨q.1,m env h _ _ (fun w e g z=> n e g _ _ (fun d e g ⟨l,ns,z1,z2,z3⟩=> ⟨l,ns,z1,z2,k _ _ _ z3⟩) z) q.2⟩
end
end Ab
namespace Ab
open PySem PySem.Spec PyProof.Rows L2 RZ
section
variable {X:Cx} {G:Gx} {k v:Expr} {pos:Pos} {tk tv:TE}
end
section
variable {X:Cx} {G:Gx} {k v:Expr} {pos:Pos}
def aDispT (tk tv:D5):AT:=fun env h Q=> tk env h fun w env1 h1=> tv env1 h1 fun y env2 h2=> ∃ns:List Int,w= .tup (ns.map .int)∧Q (.own (.map (A4e [(ns,y)]))) env2 h2
theorem aDispT.mono {tk tv:D5} (m:B9 tk) (n:B9 tv):B9 (aDispT tk tv):=fun env h Q Q' k q=> m env h _ _ (fun w e g z=> n e g _ _ (fun y e g ⟨ns,z1,z2⟩=> ⟨ns,z1,k _ _ _ z2⟩) z) q
end
end Ab
namespace Ab
open PySem PySem.Spec PyProof.Rows L2 RZ
def B6c (i j:Int):Prop:=0≤j∧(PySem.Builtin.Int.intBits i:Int)*j≤2 ^ 27
section
variable {X:Cx} {G:Gx} {a b:Expr} {ta tb:AT} {pos:Pos}
end
end Ab
namespace Ab
open PySem PySem.Spec PyProof.Rows L2 RZ
def oIndexW (a:Vw) (ws:List W) (Q:RV→Prop):Prop:=match ws with
  | [.int x]=> ∃ns:List Int,a.seq=some (ns.map W.int)∧x∈ns∧Q (.val (.int (ns.idxOf x)))
  | _=> False
def aIdx (to:AT) (t:I6):AT:=fun env h Q=> to env h fun ro env1 h1=> (∃ns:List Int,(view env1 h1 ro).seq=some (ns.map W.int))∧t env1 h1 fun ws env2 h2=> oIndexW (view env2 h2 ro) ws fun r=> Q r env2 h2
theorem oIndexW.mono {a:Vw} {ws:List W} {Q Q':RV→Prop} (k:∀r,Q r→Q' r) (q:oIndexW a ws Q):oIndexW a ws Q':=by
  unfold oIndexW at q ⊢
  split at q
  · obtain ⟨ns,e,m,q⟩:=q
    exact ⟨ns,e,m,k _ q⟩
  · exact q.elim
theorem aIdx.mono {to:AT} {t:I6} (a:B9 to) (b:B9 t):B9 (aIdx to t):=fun env h Q Q' k q=>
  a env h _ _ (fun ro e g z=> ⟨z.1,b e g _ _ (fun ws e2 g2 z=> z.mono fun r q=> k _ _ _ q) z.2⟩) q
section
variable {X:Cx} {G:Gx} {o e:Expr} {es:List Expr} {to:AT} {t:I6} {apos cpos:Pos}
end
end Ab
namespace Ab
open PySem PySem.Spec PyProof.Rows L2 RZ
structure OkD (P:Program) (w:World) (K:PySem.W.Frag) (mg:Str→Option Value) (base:Heap) (x:Str) (st:Stmt) (k n:Nat) (ps:List Str) (kws:List (Str×V)) (sp:I9):Prop where
  m:R0 sp
  ex:∃f fd,mg x=some (.ref f)∧FunD K x x (defArgs st) (defBody st) (defScope st) [] kws f fd∧FnOk P w K mg base (L2.CX P w) k f fd ps (O9 K n sp)
theorem OkD.mk' {P:Program} {w:World} {K:PySem.W.Frag} {mg:Str→Option Value} {base:Heap} {x:Str} {st:Stmt} {f:Addr} {fd:FuncData} {N ps:List Str} {k n:Nat} {kws:List (Str×V)} {sp:I9} {t:(AExc→A1→AH→Prop)→D1} (sm:R0 sp) (hm:mg x=some (.ref f)) (F:FunD K x x (defArgs st) (defBody st) (defScope st) [] kws f fd) (S:FnScope N ps (defScope st)) (hn:ps.length=n)
    (hb:∀(cdv:Value) (A:Around) (outer:List Env) (s:Shared) (H:Hp) (E:XK) (G:Gx) (E':AExc→A1→AH→Prop),Room k (A.deeper (envOfC x (defScope st) s.heap.objs.size f cdv))→G.K=K→Takes (bx P w K mg base N x (defScope st) f cdv A outer s H E) (cW G E')→
      ASs (bx P w K mg base N x (defScope st) f cdv A outer s H E) G (defBody st) (t E'))
    (hq:∀ws h Qa Ea,ws.length=n→sp ws h Qa Ea→t (E2 Ea) (C4 Qa) (L0 N.length ws) h):OkD P w K mg base x st (k+1) n ps kws sp:=
  ⟨sm,f,fd,hm,F,B0y [] kws F S hn hb hq⟩
def A89 {α:Type} (d:α) (n0 m0:Nat) (perm:List Nat) (ds us ws:List α):List α:=if us.length==n0 && ws.length==m0 then perm.map fun i=> (us++(ws++ds)).getD i d else []
abbrev gMx (n0 m0:Nat) (perm:List Nat) (ds:List W):List W→List W→List W:=A89 W.non n0 m0 perm ds
theorem B0I:∀{as bs:List V} {us ws:List Value},Vals as us→Vals bs ws→Vals (as++bs) (us++ws)
  | _,_,_,_,.nil,b=> b
  | _,_,_,_,.cons r a,b=> .cons r (B0I a b)
section
variable {X:Cx} {G:Gx} {sp:I9} {st:Stmt} {k j n0:Nat} {ps ks:List Str} {kws0 ms:List (Str×V)} {ds:List W} {x:Str} {p pos:Pos} {e:Expr} {es:List Expr} {kws:List Keyword} {t tk:I6} {E:AExc→A1→AH→Prop} {perm:List Nat}
theorem C21 {K:PySem.W.Frag} {H:Hp} {ws zs:List W} {vs us ds':List V} {n0 m0:Nat} (l1:ws.length=n0) (l2:zs.length=m0) (r:RepL K H ws vs) (q:RepL K H zs us) (d:RepL K H ds ds'):RepL K H (gMx n0 m0 perm ds ws zs) (perm.map fun i=> (vs++(us++ds')).getD i .non):=by
  unfold gMx A89
  rw [if_pos (by simp [l1,l2])]
  have rr:=r.append (q.append d)
  have:∀t:List Nat,RepL K H (t.map fun i=> (ws++(zs++ds)).getD i W.non) (t.map fun i=> (vs++(us++ds')).getD i V.non):=fun t=> by
    induction t with
    | nil=> exact .nil
    | cons i t ih=> exact .cons (rr.getD' i) ih
  exact this perm
end
section
variable {X:Cx} {G:Gx} {sp:I9} {st:Stmt} {k j:Nat} {ps:List Str} {x:Str} {p pos:Pos} {E:AExc→A1→AH→Prop}
end
def B1w (neg:Bool):M7:=fun a b Q=> ∃x y:Bool,a= .wv (.bl x)∧b= .wv (.bl y)∧Q (.val (.bl (if neg then !decide (x=y) else decide (x=y))))
section
variable {X:Cx} {G:Gx} {a b:Expr} {ta tb:AT} {pos:Pos}
end
def aRevL (ta:AT):AT:=fun env h Q=> ta env h fun r env1 h1=> ∃xs,(view env1 h1 r).seq=some xs∧Q (.own (.seq xs.reverse)) env1 h1
theorem aRevL.mono {ta:AT} (m:B9 ta):B9 (aRevL ta):=fun env h Q Q' k q=> m env h _ _ (fun r e g ⟨xs,z1,z2⟩=> ⟨xs,z1,k _ _ _ z2⟩) q
section
variable {X:Cx} {G:Gx} {a:Expr} {ta:AT} {k:Nat} {p1 p2 p3 pos:Pos}
end
end Ab
namespace Ab
open PySem PySem.Spec PyProof.Rows L2 RZ
def oLenSet:M3:=fun as Q=> match as with
  | [.wv (.tup ws)]=> ∃ns:List Int,ws=ns.map W.int∧ns≠[]∧ns.length≤4000∧∀m:Int,(m=1↔∀x∈ns,∀y∈ns,x=y)→Q (.val (.int m))
  | _=> False
theorem oLenSet.mono {as:List Vw} {Q Q':RV→Prop} (k:∀r,Q r→Q' r) (q:oLenSet as Q):oLenSet as Q':=by
  unfold oLenSet at q ⊢
  split at q
  · obtain ⟨ns,a,b,c,q⟩:=q
    exact ⟨ns,a,b,c,fun m e=> k _ (q m e)⟩
  · exact q.elim
section
variable {X:Cx} {G:Gx} {e:Expr} {p p2 q pos kpos cp:Pos} {j:Nat} {t:X7}
end
end Ab
namespace Ab
open PySem PySem.Spec PyProof.Rows L2 RZ
def u6 (f:Str) (w:W):List (Str×W)→List (Str×W)
  | []=> [(f,w)]
  | (g,x)::r=> if g=f then (g,w)::r else (g,x)::u6 f w r
theorem FRep.look {K:PySem.W.Frag} {H:Hp} {f:Str}:∀{fs:List (Str×W)} {vs:List (Str×V)},FRep K H fs vs→(∀w,fs.lookup f=some w→∃v,vs.lookup f=some v∧Rep K H w v)∧(fs.lookup f=none→vs.lookup f=none)
  | [],[],_=> ⟨fun _ e=> by simp at e,fun _=> rfl⟩
  | [],v::vs,h=> by cases h.1
  | p::fs,[],h=> by cases h.1
  | (g,w)::fs,(g',v)::vs,⟨h1,h2⟩=> by
    rw [List.map_cons,List.map_cons] at h1
    injection h1 with e1 e2
    have e1:g=g':=e1
    subst e1
    obtain ⟨v',r',e3,a,b⟩:=RepL.of_cons (w:=w) (ws:=fs.map (·.2)) h2
    rw [List.map_cons] at e3
    injection e3 with e3 e4
    subst e3 e4
    obtain ⟨i1,i2⟩:=FRep.look (f:=f) (fs:=fs) (vs:=vs) ⟨e2,b⟩
    simp only [List.lookup]
    cases q:f==g with
    | true=> exact ⟨fun w e=> by cases e;exact ⟨_,rfl,a⟩,fun e=> by cases e⟩
    | false=> exact ⟨i1,i2⟩
theorem FRep.put {K:PySem.W.Frag} {H:Hp} {f:Str} {w:W} {v:V} (r:Rep K H w v):∀{fs:List (Str×W)} {vs:List (Str×V)},FRep K H fs vs→FRep K H (u6 f w fs) (putF f v vs)
  | [],[],_=> ⟨rfl,.cons r .nil⟩
  | [],v::vs,h=> by cases h.1
  | p::fs,[],h=> by cases h.1
  | (g,x)::fs,(g',y)::vs,⟨h1,h2⟩=> by
    rw [List.map_cons,List.map_cons] at h1
    injection h1 with e1 e2
    have e1:g=g':=e1
    subst e1
    obtain ⟨v',r',e3,a,b⟩:=RepL.of_cons (w:=x) (ws:=fs.map (·.2)) h2
    rw [List.map_cons] at e3
    injection e3 with e3 e4
    subst e3 e4
    unfold u6 putF
    by_cases q:g=f
    · rw [if_pos q,if_pos q]
      exact ⟨by rw [List.map_cons,List.map_cons,e2],.cons r b⟩
    · rw [if_neg q,if_neg q]
      obtain ⟨i1,i2⟩:=FRep.put r (fs:=fs) (vs:=vs) ⟨e2,b⟩
      exact ⟨by rw [List.map_cons,List.map_cons,i1],.cons a i2⟩
theorem FRep.mono {K:PySem.W.Frag} {H H':Hp} (k:Keeps H H') {fs:List (Str×W)} {vs:List (Str×V)} (h:FRep K H fs vs):FRep K H' fs vs:=⟨h.1,RepL.mono k _ _ h.2⟩
theorem FRep.length {K:PySem.W.Frag} {H:Hp} {fs:List (Str×W)} {vs:List (Str×V)} (h:FRep K H fs vs):fs.length=vs.length:=by have:=congrArg List.length h.1;simpa using this
structure FldOk (K:PySem.W.Frag) (n f:Str):Prop where
  cl:Cls K (He.ga K n)
  no:NoAttr K (He.ga K n) f
section
variable {G:Gx} {env:A1} {h:AH} {σ:L2.St} {H:Hp}
theorem C3D (S:BS G env h σ H) {a:Addr} {n:Str} {fs fs':List (Str×W)} (ha:h a=some (.ins n fs)):∃dx vs,H a=some (.ins (He.ga G.K n) dx vs)∧FRep G.K H fs vs∧
    ∀vs',(Keeps H (upd H a (.ins (He.ga G.K n) dx vs'))→FRep G.K (upd H a (.ins (He.ga G.K n) dx vs')) fs' vs')→BS G env (C6 h a (.ins n fs')) σ (upd H a (.ins (He.ga G.K n) dx vs'))∧Xt env h σ H env (C6 h a (.ins n fs')) (upd H a (.ins (He.ga G.K n) dx vs')):=by
  obtain ⟨dx,vs,e,fr⟩:=S.hp a _ ha
  refine ⟨dx,vs,e,fr,fun vs' hc=> ?_⟩
  have kp:Keeps H (upd H a (.ins (He.ga G.K n) dx vs')):=fun q o eq i=> by
    have ne:q≠a:=fun z=> by subst z;rw [e] at eq;cases eq;exact i.elim
    rw [upd_ne ne];exact eq
  have th:∀q o,H q=some o→∃u,upd H a (.ins (He.ga G.K n) dx vs') q=some u:=fun q o eq=> by
    by_cases z:q=a
    · subst z;exact ⟨_,upd_same⟩
    · exact ⟨o,by rw [upd_ne z];exact eq⟩
  have hc:=hc kp
  have neo:∀{j:Nat} {d:Cont} {q:Addr},env[j]? =some (some (SV.own d))→σ[j]? =some (some (V.ref q))→q≠a:=fun z y x=> by
    obtain ⟨q',a',_,n,_⟩:=S.own _ _ z
    rw [y] at a';cases a'
    rw [x,ha] at n;cases n
  refine ⟨⟨S.len,fun j w z=> ?_,fun j d z=> ?_,S.uni,fun b o z=> ?_,fun q o z y t=> ?_,fun b o z y=> ?_,fun q o z=> ?_,S.tabs.upd fun o z=> (by rw [e] at z;cases z;trivial)⟩,fun q o z y w t=> ?_,fun q o z y=> ?_,th,fun j d z=> ⟨d,z⟩⟩
  · obtain ⟨u,x,y⟩:=S.val j w z;exact ⟨u,x,Rep.mono kp w u y⟩
  · obtain ⟨q,x,y,n,n0⟩:=S.own j d z
    have nq:=neo z x
    exact ⟨q,x,y.mono kp (upd_ne nq),by rw [F7 nq];exact n,n0⟩
  · by_cases hb:b=a
    · subst hb;rw [M2] at z;cases z;exact ⟨dx,vs',upd_same,hc⟩
    · rw [F7 hb] at z;exact (S.hp b o z).mono kp (upd_ne hb)
  · have nq:q≠a:=fun x=> by
      subst x
      have:=S.ext q _ ha y
      rw [this] at z;cases z
    rw [upd_ne nq];exact S.fr q o z y t
  · by_cases hb:b=a
    · subst hb;exact S.ext b _ ha y
    · rw [F7 hb] at z;exact S.ext b o z y
  · obtain ⟨u,y⟩:=S.tr q o z;exact th q u y
  · have nq:q≠a:=fun x=> by rw [x,ha] at y;cases y
    rw [upd_ne nq];exact z
  · have nq:q≠a:=fun x=> by rw [x,ha] at y;cases y
    rw [F7 nq,y] at z;cases z
end
def aFld (n f:Str) (t:AT):AT:=fun env h Q=> t env h fun r env1 h1=> ∃a fs w,r= .val (.ref a)∧h1 a=some (.ins n fs)∧fs.lookup f=some w∧Q (.val w) env1 h1
theorem aFld.mono {n f:Str} {t:AT} (m:B9 t):B9 (aFld n f t):=fun env h Q Q' k q=> m env h _ _ (fun r e g ⟨a,fs,w,z1,z2,z3,z4⟩=> ⟨a,fs,w,z1,z2,z3,k _ _ _ z4⟩) q
def A3r (n f:Str) (to:AT):K5:=fun w env h Q=> to env h fun r env1 h1=> ∃a fs,r= .val (.ref a)∧h1 a=some (.ins n fs)∧fs.length < 1000∧Q env1 (C6 h1 a (.ins n (u6 f w fs)))
section
variable {X:Cx} {G:Gx} {o:Expr} {n f:Str} {to:AT} {pos:Pos}
theorem W9 (gk:G.K=X.K) (F:FldOk X.K n f) (ha:AE X G o to) (hb:attributeBase o f X.env (eval o X.env)=eval o X.env:=by rfl):AE X G (.Attribute o f pos) (aFld n f to):=by
  refine ⟨aFld.mono ha.mono,PE.imp (pe_fld ha.pe hb) fun σ H Q ⟨env,h,S,q⟩=> ?_⟩
  refine ⟨env,h,S,ha.mono env h _ _ (fun r env1 h1 ⟨a,fs,w,z1,z2,z3,z⟩ x H1 S1 x1 r1 _=> ?_) q⟩
  subst z1
  have ex:x= .ref a:=Rep.of_ref (K:=G.K) (H:=H1) r1
  obtain ⟨dx,vs,e,fr⟩:=S1.hp a _ z2
  obtain ⟨v,e2,rv⟩:=fr.look.1 w z3
  exact ⟨a,_,dx,vs,v,ex,gk▸e,F.cl,F.no,e2,z v H1 S1 x1 rv trivial⟩
def C49 (K:PySem.W.Frag) (to:TE) (f:Str):TG:=fun v σ H Q=> to σ H fun x H1=> ∃a C dx fs,x= .ref a∧H1 a=some (.ins C dx fs)∧Cls K C∧NoAttr K C f∧fs.length < 1000∧Q σ (upd H1 a (.ins C dx (putF f v fs)))
theorem C4A {t:TE} (ho:PE X o t):PG X (.Attribute o f pos) (C49 X.K t f):=by
  refine ⟨fun pins s σ H v u Q I r h=> ?_⟩
  refine PySem.W.kas_attr (thn (ho.run pins s σ H _ I h) fun ov s1 ⟨x,H1,I1,rx,a,C,dx,fs,ex,ea,c,n,l,q⟩=> ?_)
  subst ex
  obtain rfl:ov=Value.ref a:=rx
  exact setattr_ok I1 ea c n l r fun s2 I2=> ⟨σ,_,I2,q⟩
theorem A59 (gk:G.K=X.K) (F:FldOk X.K n f) (ho:AE X G o to):AG X G (.Attribute o f pos) [] (A3r n f to):=by
  refine ⟨fun w env h Q Q' k q=> ho.mono env h _ _ (fun r e g ⟨a,fs,z1,z2,z3,z4⟩=> ⟨a,fs,z1,z2,z3,k _ _ z4⟩) q,PG.imp (C4A ho.pe) fun v σ H Q ⟨w,env,h,rv,S,q⟩=> ?_⟩
  refine ⟨env,h,S,ho.mono env h _ _ (fun r env1 h1 ⟨a,fs,z1,z2,z3,z⟩ x H1 S1 x1 r1 _=> ?_) q⟩
  subst z1
  have ex:x= .ref a:=Rep.of_ref (K:=G.K) (H:=H1) r1
  obtain ⟨dx,vs,e,fr,put⟩:=C3D (fs':=u6 f w fs) S1 z2
  have rv1:=Rep.mono (x1.keeps S) w v rv
  obtain ⟨S2,x2⟩:=put (putF f v vs) fun kp=> (fr.mono kp).put (Rep.mono kp w v rv1)
  refine ⟨a,_,dx,vs,ex,gk▸e,F.cl,F.no,by rw [←fr.length];exact z3,?_⟩
  have z:=z σ _ S2 (x1.trans x2).xg
  rw [gk] at z
  exact z
end
structure OkM (P:Program) (w:World) (K:PySem.W.Frag) (mg:Str→Option Value) (base:Heap) (C m:Str) (st:Stmt) (k n:Nat) (ps:List Str) (kws:List (Str×V)) (sp:I9):Prop where
  sm:R0 sp
  cl:Cls K (He.ga K C)
  ex:∃f fd,Meth K (He.ga K C) m f∧FunD K m (C++"."++m) (defArgs st) (defBody st) (defScope st) [] kws f fd∧FnOk P w K mg base (L2.CX P w) k f fd ps (O9 K n sp)
def V6 (C m:Str) (st:Stmt) (ps:List Str):Prop:=∀(kV doc pm:Value) (an:Option Addr) (cdv ct:Value) (us:List Value),us.length=ps.length→bindArgs (PySem.W.fnOf m (C++"."++m) (defArgs st) (defBody st) (defScope st) .none kV doc pm an cdv ct) ⟨us,[]⟩=pure (ps.zip us)
def kRes (Q:RV→A1→AH→Prop) (env:A1):RR→AH→Prop:=fun r h2=> match r with
  | .val w=> Q (.val w) env h2
  | .own c=> Q (.own c) env h2
def aMeth (C m:Str) (E:AExc→A1→AH→Prop) (sp:I9) (to:AT) (t:I6):AT:=fun env h Q=> to env h fun r env1 h1=> ∃a fs,r= .val (.ref a)∧h1 a=some (.ins C fs)∧fs.lookup m=none∧
  t env1 h1 fun ws env2 h2=> sp (.ref a::ws) h2 (kRes Q env2) fun x h3=> E x env2 h3
theorem kRes.imp {Q Q':RV→A1→AH→Prop} {env:A1} (k:∀r e h,Q r e h→Q' r e h) (r:RR) (h:AH) (z:kRes Q env r h):kRes Q' env r h:=by
  cases r with
  | val w=> exact k _ _ _ z
  | own c=> exact k _ _ _ z
theorem aMeth.mono {C m:Str} {E:AExc→A1→AH→Prop} {sp:I9} {to:AT} {t:I6} (sm:R0 sp) (a:B9 to) (b:B9 t):B9 (aMeth C m E sp to t):=fun env h Q Q' k q=>
  a env h _ _ (fun r e g ⟨p,fs,z1,z2,z3,z4⟩=> ⟨p,fs,z1,z2,z3,b e g _ _ (fun ws e2 g2 z=> sm _ _ _ _ _ _ (fun r f y=> kRes.imp k r f y) (fun x f y=> y) z) z4⟩) q
section
variable {X:Cx} {G:Gx} {sp:I9} {C m:Str} {st:Stmt} {k j n:Nat} {ps:List Str} {o e:Expr} {es:List Expr} {pos apos:Pos} {to:AT} {t:I6} {E:AExc→A1→AH→Prop}
theorem B4C {ws:List W} {vs:List V} {env env2:A1} {h h2:AH} {σ:L2.St} {H H2:Hp} {Q:VK} (hl:ws.length=n) (S2:BS G env2 h2 σ H2) (x2:Xt env h σ H env2 h2 H2) (r:RepL G.K H2 ws vs)
    (z:sp ws h2 (kRes (fun r e g=> ∀v H',BS G e g σ H'→Xt env h σ H e g H'→RvRep G e g σ H' r v→R3 H r v→Q v H') env2) fun x h3=> E x env2 h3):O9 G.K n sp vs H2 Q (WE (cW G E) σ):=by
  refine ⟨ws,h2,_,_,hl,S2.hp,S2.tabs,r,z,fun r h' v H' y c rr=> ?_,fun x h' cls d H' y c xr=> ?_⟩
  · obtain ⟨S3,x3⟩:=S2.after c
    cases r with
    | val w=> exact y v H' S3 (x2.trans x3) rr trivial
    | own c0=>
      obtain ⟨p,e,cr,a,b⟩:=rr
      have nw:H2 p=none:=b
      obtain ⟨_,g0,no⟩:=S2.noAt nw
      exact y v H' S3 (x2.trans x3) ⟨p,e,cr,a,g0,no⟩ fun p' e'=> by
        rw [e] at e';cases e';exact x2.fresh nw
  · obtain ⟨S3,x3⟩:=S2.after c
    exact ⟨x,env2,h',S3,xr,y⟩
theorem B6K {env:A1} {h:AH} {σ:L2.St} {H:Hp} (gk:G.K=X.K) (S:BS G env h σ H) {a:Addr} {fs:List (Str×W)} (e:h a=some (.ins C fs)) (l:fs.lookup m=none):∃dx vs,H a=some (.ins (He.ga X.K C) dx vs)∧vs.lookup m=none:=by
  obtain ⟨dx,vs,e,fr⟩:=S.hp a _ e
  exact ⟨dx,vs,gk▸e,fr.look.2 l⟩
theorem W6 {pl:Sem Bool} (gk:G.K=X.K) (O:OkM X.prog X.w X.K X.mg X.base C m st k (n+1) ps [] sp) (bd:V6 C m st ps) (hr:Room j X.A) (kj:k≤j) (tk:Takes X (cW G E)) (ho:AE X G o to) (ha:AN X G (e::es) n t)
    (hst:starEach (e::es) X.env=(false,eval e X.env)::starEach es X.env:=by rfl) (hpl:(backTo pos (starEach es X.env)).any (·.1)=false:=by rfl)
    (ht:eval (.Call (.Attribute o m apos) (e::es) [] pos) X.env=(do
      let ov ←eval o X.env
      standAt apos.atName
      let (f,first) ←holding [ov] (getMethod ov m pl)
      callWith pos f first (backTo pos (starEach (e::es) X.env)) (backToKw pos (keywordEach [] X.env))):=by rfl):
    AE X G (.Call (.Attribute o m apos) (e::es) [] pos) (aMeth C m E sp to t):=by
  obtain ⟨f,fd,M,FD,F⟩:=O.ex
  have F:FnOk X.prog X.w X.K X.mg X.base (L2.CX X.prog X.w) k f fd ps (O9 G.K (n+1) sp):=gk▸F
  refine ⟨aMeth.mono O.sm ho.mono ha.aa.mono,⟨fun pins s σ H Q I ⟨env,h,S,q⟩=> ?_⟩⟩
  refine PySem.W.methodCall_KW (pl:=pl) (thn (ho.pe.run pins s σ H (fun x H1=> ∃a dx vs,x= .ref a∧H1 a=some (.ins (He.ga X.K C) dx vs)∧vs.lookup m=none∧cA G t σ H1 fun us H2=> O9 G.K (n+1) sp (.ref a::us) H2 Q (WE (cW G E) σ)) I ⟨env,h,S,ho.mono env h _ _ (fun r env1 h1 ⟨a,fs,z1,z2,z3,z⟩ x H1 S1 x1 r1 _=> ?_) q⟩) fun u s1 ⟨x,H1,I1,rx,a,dx,vs,ex,ea,l,q⟩=> ?_) ht
  · subst ex
    obtain rfl:u=Value.ref a:=rx
    refine getmeth_ok I1 ea O.cl M l ?_
    refine PySem.W.callWith_K (first:=[.ref a]) (h₀:=X.base) I.ok.mod.kin M.kp (thn (ha.aa.pa.run pos pins s1 σ H1 _ I1 q) fun us s2 ⟨vs,H2,I2,r,q2⟩=> ⟨I2.kIn,?_⟩) hst hpl
    exact run_fnSD (us:= .ref a::us) (vs:= .ref a::vs) (dvs:=[]) (ds:=[]) F (hr.mono kj) (FD.bindsN bd) .nil (passAt tk σ) I2 (.cons rfl r) (by rw [List.append_nil];exact q2)
  · subst z1
    obtain ⟨dx,vs,ea,l⟩:=B6K gk S1 z2 z3
    refine ⟨a,dx,vs,Rep.of_ref (K:=G.K) (H:=H1) r1,ea,l,env1,h1,S1,ha.aa.mono env1 h1 _ _ (fun ws env2 h2 ⟨hl,z⟩ us H2 S2 x2 r2=> ?_) (ha.ln env1 h1 _ z)⟩
    exact B4C (by rw [List.length_cons,hl]) S2 (x1.trans x2) (.cons .ref r2) z
theorem A1T {pl:Sem Bool} (gk:G.K=X.K) (O:OkM X.prog X.w X.K X.mg X.base C m st k 1 ps [] sp) (bd:V6 C m st ps) (hr:Room j X.A) (kj:k≤j) (tk:Takes X (cW G E)) (ho:AE X G o to)
    (ht:eval (.Call (.Attribute o m apos) [] [] pos) X.env=(do
      let ov ←eval o X.env
      standAt apos.atName
      let (f,first) ←holding [ov] (getMethod ov m pl)
      callWith pos f first (backTo pos (starEach [] X.env)) (backToKw pos (keywordEach [] X.env))):=by rfl):
    AE X G (.Call (.Attribute o m apos) [] [] pos) (aMeth C m E sp to aNil):=by
  obtain ⟨f,fd,M,FD,F⟩:=O.ex
  have F:FnOk X.prog X.w X.K X.mg X.base (L2.CX X.prog X.w) k f fd ps (O9 G.K 1 sp):=gk▸F
  refine ⟨aMeth.mono O.sm ho.mono aNil.mono,⟨fun pins s σ H Q I ⟨env,h,S,q⟩=> ?_⟩⟩
  refine PySem.W.methodCall_KW (pl:=pl) (thn (ho.pe.run pins s σ H (fun x H1=> ∃a dx vs,x= .ref a∧H1 a=some (.ins (He.ga X.K C) dx vs)∧vs.lookup m=none∧O9 G.K 1 sp [.ref a] H1 Q (WE (cW G E) σ)) I ⟨env,h,S,ho.mono env h _ _ (fun r env1 h1 ⟨a,fs,z1,z2,z3,z⟩ x H1 S1 x1 r1 _=> ?_) q⟩) fun u s1 ⟨x,H1,I1,rx,a,dx,vs,ex,ea,l,q⟩=> ?_) ht
  · subst ex
    obtain rfl:u=Value.ref a:=rx
    refine getmeth_ok I1 ea O.cl M l ?_
    exact PySem.W.callWith_K0 (first:=[.ref a]) I1.kIn M.kp (run_fnSD (us:=[.ref a]) (vs:=[.ref a]) (dvs:=[]) (ds:=[]) F (hr.mono kj) (FD.bindsN bd) .nil (passAt tk σ) I1 (.cons rfl .nil) q)
  · subst z1
    obtain ⟨dx,vs,ea,l⟩:=B6K gk S1 z2 z3
    exact ⟨a,dx,vs,Rep.of_ref (K:=G.K) (H:=H1) r1,ea,l,B4C rfl S1 x1 (.cons .ref .nil) z⟩
end
structure MkC (K:PySem.W.Frag) (mg:Str→Option Value) (n:Str):Prop where
  gl:mg n=some (.ref (He.ga K n))
  makes:PySem.W.makesIn K (He.ga K n)=true
  kp:PySem.W.keepIn K (.ref (He.ga K n))=true
def kMk (Q:RV→A1→AH→Prop) (env:A1) (a:Addr):RR→AH→Prop:=fun r h2=> r= .val .non∧Q (.val (.ref a)) env h2
def aMake (C:Str) (E:AExc→A1→AH→Prop) (sp:I9) (t:I6):AT:=fun env h Q=> t env h fun ws env1 h1=> ∀a,h1 a=none→sp (.ref a::ws) (C6 h1 a (.ins C [])) (kMk Q env1 a) fun x h3=> E x env1 h3
theorem aMake.mono {C:Str} {E:AExc→A1→AH→Prop} {sp:I9} {t:I6} (sm:R0 sp) (b:B9 t):B9 (aMake C E sp t):=fun env h Q Q' k q=>
  b env h _ _ (fun ws e g z a n=> sm _ _ _ _ _ _ (fun r f y=> ⟨y.1,k _ _ _ y.2⟩) (fun x f y=> y) (z a n)) q
section
variable {G:Gx} {env:A1} {h:AH} {σ:L2.St} {H:Hp}
theorem BS.made (S:BS G env h σ H) {a dx:Addr} {C:Str} (n:H a=none) (nd:H dx=none) (ne:dx≠a):
    BS G env (C6 h a (.ins C [])) σ (upd (upd H dx (.own a)) a (.ins (He.ga G.K C) dx []))∧Xt env h σ H env (C6 h a (.ins C [])) (upd (upd H dx (.own a)) a (.ins (He.ga G.K C) dx [])):=by
  have nw:New H (upd (upd H dx (.own a)) a (.ins (He.ga G.K C) dx [])):=fun p o e=> by
    have n1:p≠a:=fun z=> by rw [z,n] at e;cases e
    have n2:p≠dx:=fun z=> by rw [z,nd] at e;cases e
    rw [upd_ne n1,upd_ne n2];exact e
  have S1:=nw.bs S
  obtain ⟨ha,h0,no⟩:=S.noAt n
  refine ⟨⟨S1.len,S1.val,fun i c e=> ?_,S1.uni,fun b o e=> ?_,S1.fr,fun b o e y=> ?_,S1.tr,S1.tabs⟩,⟨fun p o e _ _ _=> nw p o e,fun p o e y=> ?_,fun p o e=> ⟨o,nw p o e⟩,fun i c e=> ⟨c,e⟩⟩⟩
  · obtain ⟨p,x,y,z,w⟩:=S1.own i c e
    have np:p≠a:=fun q=> no ⟨i,c,e,q▸x⟩
    exact ⟨p,x,y,by rw [F7 np];exact z,w⟩
  · by_cases hb:b=a
    · subst hb;rw [M2] at e;cases e;exact ⟨dx,[],upd_same,rfl,.nil⟩
    · rw [F7 hb] at e;exact S1.hp b o e
  · by_cases hb:b=a
    · subst hb;exact h0
    · rw [F7 hb] at e;exact S1.ext b o e y
  · by_cases hb:p=a
    · subst hb;exact n
    · rw [F7 hb,y] at e;cases e
end
section
variable {X:Cx} {G:Gx} {sp:I9} {C:Str} {st:Stmt} {k j n:Nat} {ps:List Str} {e:Expr} {es:List Expr} {pos p:Pos} {t:I6} {E:AExc→A1→AH→Prop}
theorem C0t {CX:CXT} {sp:Sp} {C f:Addr} {fd:FuncData} {pins:List (Addr×Obj)} {σ:L2.St} {H:Hp} {s:Shared} {Q:VK} {E:XK} {us:List Value} {vs:List V} (M:Mk X.K C f) (F:FnOk X.prog X.w X.K X.mg X.base CX k f fd ps sp) (hr:Room (k+1) X.A) (hb:Binds X.K fd ps [])
    (hx:PassesAt CX X σ E) (I:Inv X pins σ H s) (r:Vals vs us)
    (h:∀x dx,H x=none→H dx=none→dx≠x→sp (.ref x::vs) (upd (upd H dx (.own x)) x (.ins C dx [])) (fun v H2=> v= .non∧Q (.ref x) H2) E):
    wpAny (model X.prog X.w) X.A (call (.ref C) us) (EP X pins σ Q) X.xe s:=by
  have hq:=h (s.heap.objs.size+1) s.heap.objs.size (I.hok.fresh (Nat.le_succ _)) (I.hok.fresh (Nat.le_refl _)) (Nat.ne_of_lt (Nat.lt_succ_self _))
  have I2:=Inv.made (C:=C) I
  have r2:Vals (V.ref (s.heap.objs.size+1)::vs) (Value.ref (s.heap.objs.size+1)::us):= .cons rfl r
  have hl:(Value.ref (s.heap.objs.size+1)::us).length=ps.length:=by
    have e:=r2.length
    rw [F.len _ _ _ _ hq] at e
    exact e.symm
  refine wpAny_call (make_map (f:=f) I.kIn M.makes M.init (beq_iff_eq.mp M.fn) (codeAny_mono (F.run _ X.stack _ _ ⟨Value.ref (s.heap.objs.size+1)::us,[]⟩ (Value.ref (s.heap.objs.size+1)::us) _ _ E (hr.make C us [])
    (I2.env0.make C us []) (by have z:=hb _ (Value.ref (s.heap.objs.size+1)::us) I2.kIn (by rw [List.append_nil];exact hl);rw [List.append_nil] at z;exact z) r2 hq) fun r s' hq'=> ?_))
  cases r with
  | error e=> exact hx pins _ _ e s' I2 hq'
  | ok fl=>
    cases fl with
    | ret u=>
      obtain ⟨v,H',I3,rv,ev,q3⟩:=I2.after hq'
      subst ev
      exact ⟨rv,⟨V.ref (s.heap.objs.size+1),H',I3,rfl,q3⟩⟩
    | next=> exact False.elim hq'
    | brk=> exact False.elim hq'
    | cont=> exact False.elim hq'
theorem C1O {ws:List W} {vs:List V} {env env1:A1} {h h1:AH} {σ:L2.St} {H H1:Hp} {Q:VK} (hl:ws.length=n) (S1:BS G env1 h1 σ H1) (x1:Xt env h σ H env1 h1 H1) (r:RepL G.K H1 ws vs)
    (z:∀a,h1 a=none→sp (.ref a::ws) (C6 h1 a (.ins C [])) (kMk (fun r e g=> ∀v H',BS G e g σ H'→Xt env h σ H e g H'→RvRep G e g σ H' r v→R3 H r v→Q v H') env1 a) fun x h3=> E x env1 h3):
    ∀x dx,H1 x=none→H1 dx=none→dx≠x→O9 G.K (n+1) sp (.ref x::vs) (upd (upd H1 dx (.own x)) x (.ins (He.ga G.K C) dx [])) (fun v H2=> v= .non∧Q (.ref x) H2) (WE (cW G E) σ):=fun a dx na nd ne=> by
  obtain ⟨ha,_,_⟩:=S1.noAt na
  obtain ⟨S2,x2⟩:=S1.made (C:=C) na nd ne
  refine ⟨.ref a::ws,_,_,_,by rw [List.length_cons,hl],S2.hp,S2.tabs,.cons .ref (RepL.mono (x2.keeps S1) _ _ r),z a ha,fun r h' v H' ⟨y1,y⟩ c rr=> ?_,fun x h' cls d H' y c xr=> ?_⟩
  · obtain ⟨S3,x3⟩:=S2.after c
    subst y1
    exact ⟨Rep.of_non (K:=G.K) (H:=H') rr,y (.ref a) H' S3 (x1.trans (x2.trans x3)) (show Rep G.K H' (.ref a) (.ref a) from .ref) trivial⟩
  · obtain ⟨S3,x3⟩:=S2.after c
    exact ⟨x,env1,h',S3,xr,y⟩
theorem A3O (gk:G.K=X.K) (MC:MkC X.K X.mg C) (O:OkM X.prog X.w X.K X.mg X.base C "__init__" st k (n+1) ps [] sp) (bd:V6 C "__init__" st ps) (hr:Room j X.A) (kj:k+1≤j) (hg:Gl X C) (tk:Takes X (cW G E)) (ha:AN X G (e::es) n t)
    (hdb:(C==("__debug__":Str))=false:=by decide) (he:starEach (e::es) X.env=(false,eval e X.env)::starEach es X.env:=by rfl) (hpl:(backTo pos (starEach es X.env)).any (·.1)=false:=by rfl):
    AE X G (.Call (.Name C p) (e::es) [] pos) (aMake C E sp t):=by
  obtain ⟨f,fd,M,FD,F⟩:=O.ex
  have F:FnOk X.prog X.w X.K X.mg X.base (L2.CX X.prog X.w) k f fd ps (O9 G.K (n+1) sp):=gk▸F
  refine ⟨aMake.mono O.sm ha.aa.mono,⟨fun pins s σ H Q I ⟨env,h,S,q⟩=> ?_⟩⟩
  refine wpAny_Call_Name_kw (ld_glob I hg MC.gl ?_ hdb)
  refine PySem.W.callWith_K (h₀:=X.base) I.ok.mod.kin MC.kp (thn (ha.aa.pa.run pos pins s σ H (fun vs H1=> ∀x dx,H1 x=none→H1 dx=none→dx≠x→O9 G.K (n+1) sp (.ref x::vs) (upd (upd H1 dx (.own x)) x (.ins (He.ga X.K C) dx [])) (fun v H2=> v= .non∧Q (.ref x) H2) (WE (cW G E) σ)) I
    ⟨env,h,S,ha.aa.mono env h _ _ (fun ws env1 h1 ⟨hl,z⟩ vs H1 S1 x1 r1=> ?_) (ha.ln env h _ q)⟩) fun us s1 ⟨vs,H1,I1,r,q⟩=> ⟨I1.kIn,?_⟩) he hpl
  · exact C0t ⟨MC.makes,M.at_,M.fn,MC.kp⟩ F (hr.mono kj) (FD.bindsN bd) (passAt tk σ) I1 r q
  · rw [←gk]
    exact C1O hl S1 x1 r1 z
end
section
variable {P:Program} {w:World} {K:PySem.W.Frag} {mg:Str→Option Value} {base:Heap} {C m:Str} {st:Stmt} {f:Addr} {fd:FuncData} {N ps:List Str} {k n:Nat} {kws:List (Str×V)} {sp:I9}
theorem OkM.mk' {t:(AExc→A1→AH→Prop)→D1} (sm:R0 sp) (cl:Cls K (He.ga K C)) (M:Meth K (He.ga K C) m f) (F:FunD K m (C++"."++m) (defArgs st) (defBody st) (defScope st) [] kws f fd) (S:FnScope N ps (defScope st)) (hn:ps.length=n)
    (hb:∀(cdv:Value) (A:Around) (outer:List Env) (s:Shared) (H:Hp) (E:XK) (G:Gx) (E':AExc→A1→AH→Prop),Room k (A.deeper (envOfC (C++"."++m) (defScope st) s.heap.objs.size f cdv))→G.K=K→Takes (bx P w K mg base N (C++"."++m) (defScope st) f cdv A outer s H E) (cW G E')→
      ASs (bx P w K mg base N (C++"."++m) (defScope st) f cdv A outer s H E) G (defBody st) (t E'))
    (hq:∀ws h Qa Ea,ws.length=n→sp ws h Qa Ea→t (E2 Ea) (C4 Qa) (L0 N.length ws) h):OkM P w K mg base C m st (k+1) n ps kws sp:=
  ⟨sm,cl,f,fd,M,F,B0y [] kws F S hn hb hq⟩
end
end Ab
namespace Ab
open PySem PySem.Spec PyProof.Rows L2 RZ
def smap (l:List (Str×W)):List (W×W):=l.map fun p=> (W.str p.1,p.2)
def m6 (l:List (Str×W)) (s:Str) (w:W):List (Str×W):=if (l.any fun p=> decide (p.1=s))=true then l.map (fun p=> if p.1=s then (p.1,w) else p) else l++[(s,w)]
def x7 (l:List (Str×W)) (s:Str):List (Str×W):=l.filter fun p=> decide (p.1≠s)
abbrev U7 (l:List (Str×W)):W:=(Cont.map (smap l)).fz
section
variable {K:PySem.W.Frag} {H:Hp}
theorem B35 (l:List (Str×W)):((smap l).map (·.1)).map A1L=l.map fun q=> some (Sum.inr q.1):=by
  simp only [smap,List.map_map];rfl
theorem A7n (l:List (Str×W)):(smap l).map (·.2)=l.map (·.2):=by
  simp only [smap,List.map_map];rfl
theorem B2w {α:Type}:∀{a b:List α},a.map some=b.map some→a=b
  | [],[],_=> rfl
  | [],_::_,e=> by cases e
  | _::_,[],e=> by cases e
  | x::a,y::b,e=> by
    rw [List.map_cons,List.map_cons] at e
    injection e with e1 e2
    rw [Option.some.inj e1,B2w e2]
theorem B0Y {l:List (Str×W)} {ks:List (Key×V)} (e:((smap l).map (·.1)).map A1L=ks.map (fun q=> some q.1)):ks.map (·.1)=l.map fun q=> Sum.inr q.1:=by
  rw [B35] at e
  have z:(ks.map (·.1)).map some=(l.map fun q=> (Sum.inr q.1:Key)).map some:=by
    rw [List.map_map,List.map_map];exact e.symm
  exact B2w z
theorem B1K {l:List (Str×W)} {ks:List (List Key×V)} (e:∃r,(smap l).map (·.1)= .lst []::r∧r.map B1h=ks.map (fun q=> some q.1)):False:=by
  obtain ⟨r,e,_⟩:=e
  cases l with
  | nil=> cases e
  | cons p l=> cases e
theorem A6K {p:Addr} {l:List (Str×W)} (h:CRep K H p (.map (smap l))):∃ks,H p=some (.dK ks)∧ks.map (·.1)=l.map (fun q=> Sum.inr q.1)∧RepL K H (l.map (·.2)) (ks.map (·.2)):=by
  rcases h with ⟨ks,e,a,b⟩ | ⟨ks,e,a,b⟩
  · exact ⟨ks,e,B0Y a,A7n l▸b⟩
  · exact (B1K a).elim
theorem A8w {p:Addr} {l:List (Str×W)} {ks:List (Key×V)} (e:H p=some (.dK ks)) (a:ks.map (·.1)=l.map (fun q=> Sum.inr q.1)) (b:RepL K H (l.map (·.2)) (ks.map (·.2))):CRep K H p (.map (smap l)):=by
  refine .inl ⟨ks,e,?_,(A7n l).symm▸b⟩
  rw [B35]
  have z:=congrArg (List.map some) a
  rw [List.map_map,List.map_map] at z
  exact z.symm
theorem VR.smap {v:Vw} {x:V} {l:List (Str×W)} (r:VR K H v x) (e:v.toW=U7 l):∃p ks,x= .ref p∧Rd H p (.dK ks)∧ks.map (·.1)=l.map (fun q=> Sum.inr q.1)∧RepL K H (l.map (·.2)) (ks.map (·.2)):=by
  cases v with
  | bad=> cases e
  | cv c=>
    cases c with
    | seq ws=> cases e
    | map kvs=>
      obtain ⟨p,ex,c⟩:=r
      have e1:kvs.map (·.1)=(Ab.smap l).map (·.1):=by injection e
      have e2:kvs.map (·.2)=(Ab.smap l).map (·.2):=by injection e
      rcases c with ⟨ks,a,b,d⟩ | ⟨ks,a,b,d⟩
      · rw [e1] at b;rw [e2,A7n] at d
        exact ⟨p,ks,ex,.inl a,B0Y b,d⟩
      · rw [e1] at b
        exact (B1K b).elim
  | wv w=>
    have e:w=U7 l:=e
    subst e
    have z:Rep K H (.dct ((Ab.smap l).map (·.1)) ((Ab.smap l).map (·.2))) x:=r
    simp only [Rep] at z
    obtain ⟨p,ex,⟨o,ks,a,b,d⟩ | ⟨o,ks,a,b,d⟩⟩:=z
    · rw [A7n] at d
      exact ⟨p,ks,ex,.inr ⟨o,a⟩,B0Y b,d⟩
    · exact (B1K b).elim
theorem A6O {s:Str}:∀{l:List (Str×W)} {ks:List (Key×V)},ks.map (·.1)=l.map (fun q=> Sum.inr q.1)→RepL K H (l.map (·.2)) (ks.map (·.2))→
    (l.lookup s=none∧valV ks (.inr s)=none)∨∃w v,l.lookup s=some w∧valV ks (.inr s)=some v∧Rep K H w v
  | [],[],_,_=> .inl ⟨rfl,rfl⟩
  | [],_::_,e,_=> by cases e
  | _::_,[],e,_=> by cases e
  | p::l,q::ks,e,r=> by
    rw [List.map_cons,List.map_cons] at e
    injection e with e1 e2
    obtain ⟨v,r1,e3,a,b⟩:=RepL.of_cons (w:=p.2) (ws:=l.map (·.2)) r
    rw [List.map_cons] at e3
    injection e3 with e3 e4
    subst e3 e4
    obtain ⟨g,w⟩:=p
    simp only [List.lookup]
    by_cases hs:s=g
    · subst hs
      rw [valV_pos e1]
      simp only [beq_self_eq_true]
      exact .inr ⟨w,q.2,rfl,rfl,a⟩
    · rw [valV_neg (show ¬q.1= .inr s from fun z=> hs (by rw [e1] at z;injection z with z;exact z.symm))]
      have hb:(s==g)=false:=beq_eq_false_iff_ne.mpr hs
      simp only [hb]
      exact A6O e2 b
theorem B4a {s:Str}:∀{l:List (Str×W)} {ks:List (Key×V)},ks.map (·.1)=l.map (fun q=> Sum.inr q.1)→(ks.any fun kv=> decide (kv.1= .inr s))=l.any fun p=> decide (p.1=s)
  | [],[],_=> rfl
  | [],_::_,e=> by cases e
  | _::_,[],e=> by cases e
  | p::l,q::ks,e=> by
    rw [List.map_cons,List.map_cons] at e
    injection e with e1 e2
    rw [List.any_cons,List.any_cons,B4a e2,e1]
    simp only [Sum.inr.injEq]
theorem B4g {s:Str} {w:W} {v:V} {l:List (Str×W)} {ks:List (Key×V)} (e:ks.map (·.1)=l.map (fun q=> Sum.inr q.1)) (r:RepL K H (l.map (·.2)) (ks.map (·.2))) (rw0:Rep K H w v):
    (putK ks (.inr s) v).map (·.1)=(m6 l s w).map (fun q=> Sum.inr q.1)∧RepL K H ((m6 l s w).map (·.2)) ((putK ks (.inr s) v).map (·.2)):=by
  unfold putK m6
  rw [B4a e]
  by_cases g:(l.any fun p=> decide (p.1=s))=true
  · rw [if_pos g,if_pos g]
    clear g
    induction l generalizing ks with
    | nil=>
      cases ks with
      | nil=> exact ⟨rfl,.nil⟩
      | cons q ks=> cases e
    | cons p l ih=>
      cases ks with
      | nil=> cases e
      | cons q ks=>
        rw [List.map_cons,List.map_cons] at e
        injection e with e1 e2
        obtain ⟨v',r1,e3,a,b⟩:=RepL.of_cons (w:=p.2) (ws:=l.map (·.2)) r
        rw [List.map_cons] at e3
        injection e3 with e3 e4
        subst e3 e4
        obtain ⟨i1,i2⟩:=ih e2 b
        by_cases hs:p.1=s
        · have hq:q.1= .inr s:=by rw [e1,hs]
          simp only [List.map_cons,if_pos hs,if_pos hq]
          exact ⟨by rw [i1,e1],.cons rw0 i2⟩
        · have hq:¬q.1= .inr s:=fun z=> hs (by rw [e1] at z;injection z)
          simp only [List.map_cons,if_neg hs,if_neg hq]
          exact ⟨by rw [i1,e1],.cons a i2⟩
  · rw [if_neg g,if_neg g,List.map_append,List.map_append,List.map_append,List.map_append]
    exact ⟨by rw [e];rfl,r.append (.cons rw0 .nil)⟩
theorem B3o {s:Str}:∀{l:List (Str×W)} {ks:List (Key×V)},ks.map (·.1)=l.map (fun q=> Sum.inr q.1)→RepL K H (l.map (·.2)) (ks.map (·.2))→
    (dropK ks (.inr s)).map (·.1)=(x7 l s).map (fun q=> Sum.inr q.1)∧RepL K H ((x7 l s).map (·.2)) ((dropK ks (.inr s)).map (·.2))
  | [],[],_,_=> ⟨rfl,.nil⟩
  | [],_::_,e,_=> by cases e
  | _::_,[],e,_=> by cases e
  | p::l,q::ks,e,r=> by
    rw [List.map_cons,List.map_cons] at e
    injection e with e1 e2
    obtain ⟨v',r1,e3,a,b⟩:=RepL.of_cons (w:=p.2) (ws:=l.map (·.2)) r
    rw [List.map_cons] at e3
    injection e3 with e3 e4
    subst e3 e4
    obtain ⟨i1,i2⟩:=B3o (s:=s) e2 b
    unfold dropK x7 at i1 i2 ⊢
    by_cases hs:p.1=s
    · have hq:q.1= .inr s:=by rw [e1,hs]
      rw [List.filter_cons_of_neg (p:=fun p:Str×W=> decide (p.1≠s)) (by simp [hs]),List.filter_cons_of_neg (p:=fun kv:Key×V=> decide (kv.1≠Sum.inr s)) (by rw [hq];simp)]
      exact ⟨i1,i2⟩
    · have hq:¬q.1= .inr s:=fun z=> hs (by rw [e1] at z;injection z)
      rw [List.filter_cons_of_pos (p:=fun p:Str×W=> decide (p.1≠s)) (by simp [hs]),List.filter_cons_of_pos (p:=fun kv:Key×V=> decide (kv.1≠Sum.inr s)) (decide_eq_true hq)]
      exact ⟨by rw [List.map_cons,List.map_cons,i1,e1],.cons a i2⟩
end
def inM (neg:Bool) (v:Vw) (w:W) (Q:RV→Prop):Prop:=∃l s,v.toW=U7 l∧w= .str s∧Q (.val (.bl (if neg=true then !(l.lookup s).isSome else (l.lookup s).isSome)))
def aInM (neg:Bool) (tk:D5) (to:AT):AT:=fun env h Q=> tk env h fun w env1 h1=> to env1 h1 fun r env2 h2=> inM neg (view env2 h2 r) w fun x=> Q x env2 h2
theorem aInM.mono {neg:Bool} {tk:D5} {to:AT} (m:B9 tk) (n:B9 to):B9 (aInM neg tk to):=fun env h Q Q' k q=> m env h _ _ (fun w e g z=> n e g _ _ (fun r e g ⟨l,s,z1,z2,z3⟩=> ⟨l,s,z1,z2,k _ _ _ z3⟩) z) q
section
variable {X:Cx} {G:Gx} {o k e:Expr} {pos pos':Pos} {tk tv:D5} {to:AT}
theorem B43 {neg:Bool} {σ:L2.St} {H:Hp} {Q:VK} (mk:B9 tk) (mo:B9 to) (q:cE G (aInM neg tk to) σ H Q):
    cV G tk σ H fun y H1=> cE G to σ H1 fun x H2=> ∃a o,x= .ref a∧DGet H2 a y o∧Q (.bl (if neg=true then !o.isSome else o.isSome)) H2:=by
  obtain ⟨env,h,S,q⟩:=q
  refine ⟨env,h,S,mk env h _ _ (fun w env1 h1 z y H1 S1 x1 r1=> ?_) q⟩
  refine ⟨env1,h1,S1,mo env1 h1 _ _ (fun r env2 h2 ⟨l,s,z1,z2,zz⟩ x H2 S2 x2 r2 f2=> ?_) z⟩
  obtain ⟨p,ks,ex,rd,e1,e2⟩:=(r2.vr S2).smap z1
  subst z2
  have ey:y= .str s:=Rep.of_str (K:=G.K) (H:=H1) r1
  subst ey
  refine ⟨p,valV ks (.inr s),ex,.inl ⟨ks,.inr s,rd,rfl,rfl⟩,?_⟩
  have eq:(valV ks (.inr s)).isSome=(l.lookup s).isSome:=by
    rcases A6O (s:=s) e1 e2 with ⟨a,b⟩ | ⟨w,v,a,b,_⟩ <;> rw [a,b] <;> rfl
  rw [eq]
  exact zz _ H2 S2 (x1.trans x2) (Rep.bl (K:=G.K) (H:=H2)) trivial
theorem B4T {neg:Bool} {σ:L2.St} {H:Hp} {Q:Bool→Hp→Prop} (mk:B9 tk) (mo:B9 to) (q:cT G (aTst (aInM neg tk to)) σ H Q):cE G (aInM neg tk to) σ H fun v H'=> ∃b,v= .bl b∧Q b H':=by
  obtain ⟨env,h,S,q⟩:=q
  refine ⟨env,h,S,mk env h _ _ (fun w env1 h1 z=> mo env1 h1 _ _ (fun r env2 h2 ⟨l,s,z1,z2,z⟩=> ⟨l,s,z1,z2,fun v H1 S1 x1 r1 _=> ?_⟩) z) q⟩
  exact ⟨_,Rep.of_bl (K:=G.K) (H:=H1) r1,z H1 S1 x1⟩
theorem C4U (hu:X.A.units+64 < cLine) (hk:AV X G k tk) (ho:AE X G o to) (h1:behindInMarks .In o=false:=by rfl):AP X G (.Compare k [.In] [o] pos) (aTst (aInM false tk to)):=
  ⟨aTst.mono (aInM.mono hk.mono ho.mono),PT.imp (pt_cmp (pc_din (by omega) hk.pe ho.pe) h1) fun σ H Q q=> B43 hk.mono ho.mono (B4T hk.mono ho.mono q)⟩
theorem C2h (hu:X.A.units+64 < cLine) (hk:AV X G k tk) (ho:AE X G o to) (h1:behindInMarks .NotIn o=false:=by rfl):AP X G (.Compare k [.NotIn] [o] pos) (aTst (aInM true tk to)):=
  ⟨aTst.mono (aInM.mono hk.mono ho.mono),PT.imp (pt_cmp (pc_dnotin (by omega) hk.pe ho.pe) h1) fun σ H Q q=> B43 hk.mono ho.mono (B4T hk.mono ho.mono q)⟩
def A6c (v:Vw) (w:W) (Q:RV→Prop):Prop:=∃l s u,v.toW=U7 l∧w= .str s∧l.lookup s=some u∧Q (.val u)
def aGetM (to:AT) (tk:D5):AT:=fun env h Q=> to env h fun r env1 h1=> tk env1 h1 fun w env2 h2=> A6c (view env2 h2 r) w fun x=> Q x env2 h2
theorem aGetM.mono {tk:D5} {to:AT} (n:B9 to) (m:B9 tk):B9 (aGetM to tk):=fun env h Q Q' k q=> n env h _ _ (fun r e g z=> m e g _ _ (fun w e g ⟨l,s,u,z1,z2,z3,z4⟩=> ⟨l,s,u,z1,z2,z3,k _ _ _ z4⟩) z) q
theorem A8A (hu:X.A.units+64 < cLine) (ho:AE X G o to) (hk:AV X G k tk) (hs:NoSl k):AE X G (.Subscript o k pos) (aGetM to tk):=by
  refine ⟨aGetM.mono ho.mono hk.mono,PE.imp (pe_dget (by omega) ho.pe hk.pe hs) fun σ H Q ⟨env,h,S,q⟩=> ?_⟩
  refine ⟨env,h,S,ho.mono env h _ _ (fun r env1 h1 z x H1 S1 x1 r1 f1=> ?_) q⟩
  refine ⟨env1,h1,S1,hk.mono env1 h1 _ _ (fun w env2 h2 ⟨l,s,u,z1,z2,z3,z⟩ y H2 S2 x2 r2=> ?_) z⟩
  obtain ⟨p,ks,ex,rd,e1,e2⟩:=((r1.xt S1 x2).vr S2).smap z1
  subst z2
  have ey:y= .str s:=Rep.of_str (K:=G.K) (H:=H2) r2
  subst ey
  rcases A6O (s:=s) e1 e2 with ⟨a,b⟩ | ⟨w,v,a,b,rv⟩
  · rw [a] at z3;cases z3
  · rw [a] at z3;cases z3
    exact ⟨p,v,ex,.inl ⟨ks,.inr s,rd,rfl,b.symm⟩,z v H2 S2 (x1.trans x2) rv trivial⟩
def C6D (env:A1) (h:AH) (r:RV) (w v:W) (K:A1→AH→Prop):Prop:=∃l s,P0 env h r=some (.map (smap l))∧w= .str s∧l.length < sizeLine∧K (A0S env r (.map (smap (m6 l s v)))) (A0U h r (.map (smap (m6 l s v))))
def A8h (tv:D5) (to:AT) (tk:D5):D1:=fun D env h=> tv env h fun v env1 h1=> to env1 h1 fun r env2 h2=> tk env2 h2 fun w env3 h3=> C6D env3 h3 r w v D.nx
theorem B5Z (hu:X.A.units+64 < cLine) (hv:AV X G e tv) (ho:AE X G o to) (hk:AV X G k tk) (hs:swapsWith e (some (.Subscript o k pos')) pos.line X.env=pure false:=by rfl):
    AS X G (.Assign [.Subscript o k pos'] e pos) (A8h tv to tk):=by
  refine ⟨fun D D' env h l q=> hv.mono env h _ _ (fun v e1 h1 z=> ho.mono e1 h1 _ _ (fun r e2 h2 z=> hk.mono e2 h2 _ _ (fun w e3 h3 ⟨l',s,z1,z2,z3,z4⟩=> ⟨l',s,z1,z2,z3,l.nx _ _ z4⟩) z) z) q,PS.imp (ps_dput (by omega) ho.pe hk.pe hv.pe hs) fun D σ H ⟨env,h,Da,S,q,l⟩=> ?_⟩
  refine ⟨env,h,S,hv.mono env h _ _ (fun v env1 h1 z vv H1 S1 x1 r1=> ?_) q⟩
  refine ⟨env1,h1,S1,ho.mono env1 h1 _ _ (fun r env2 h2 z x H2 S2 x2 r2 f2=> ?_) z⟩
  refine ⟨env2,h2,S2,hk.mono env2 h2 _ _ (fun w env3 h3 ⟨l',s,z1,z2,z3,z⟩ y H3 S3 x3 r3=> ?_) z⟩
  subst z2
  have ey:y= .str s:=Rep.of_str (K:=G.K) (H:=H3) r3
  subst ey
  obtain ⟨p,ex,cr,put⟩:=A3i S3 (r2.xt S2 x3) z1
  obtain ⟨ks,e0,e1,e2⟩:=A6K cr
  have lk:ks.length=l'.length:=by have:=congrArg List.length e1;simpa using this
  have rv:Rep G.K H3 v vv:=Rep.mono ((x2.keeps S1).trans (x3.keeps S2)) v vv r1
  obtain ⟨S4,x4⟩:=put (.dK (putK ks (.inr s) vv)) (.map (smap (m6 l' s v))) fun kp=> by
    obtain ⟨a,b⟩:=B4g (s:=s) e1 (RepL.mono kp _ _ e2) (Rep.mono kp v vv rv)
    exact A8w upd_same a b
  exact ⟨p,_,ex,DPut.k (k:= .inr s) e0 (by omega),l.nx _ _ _ _ S4 ((x1.trans (x2.trans (x3.trans x4))).keeps S) z⟩
def C6R (env:A1) (h:AH) (r:RV) (w:W) (K:A1→AH→Prop):Prop:=∃l s,P0 env h r=some (.map (smap l))∧w= .str s∧(l.lookup s).isSome=true∧K (A0S env r (.map (smap (x7 l s)))) (A0U h r (.map (smap (x7 l s))))
def A81 (to:AT) (tk:D5):D1:=fun D env h=> to env h fun r env1 h1=> tk env1 h1 fun w env2 h2=> C6R env2 h2 r w D.nx
theorem B4t (ho:AE X G o to) (hk:AV X G k tk):AS X G (.Delete [.Subscript o k pos'] pos) (A81 to tk):=by
  refine ⟨fun D D' env h l q=> ho.mono env h _ _ (fun r e2 h2 z=> hk.mono e2 h2 _ _ (fun w e3 h3 ⟨l',s,z1,z2,z3,z4⟩=> ⟨l',s,z1,z2,z3,l.nx _ _ z4⟩) z) q,PS.imp (ps_ddel ho.pe hk.pe) fun D σ H ⟨env,h,Da,S,q,l⟩=> ?_⟩
  refine ⟨env,h,S,ho.mono env h _ _ (fun r env2 h2 z x H2 S2 x2 r2 f2=> ?_) q⟩
  refine ⟨env2,h2,S2,hk.mono env2 h2 _ _ (fun w env3 h3 ⟨l',s,z1,z2,z3,z⟩ y H3 S3 x3 r3=> ?_) z⟩
  subst z2
  have ey:y= .str s:=Rep.of_str (K:=G.K) (H:=H3) r3
  subst ey
  obtain ⟨p,ex,cr,put⟩:=A3i S3 (r2.xt S2 x3) z1
  obtain ⟨ks,e0,e1,e2⟩:=A6K cr
  obtain ⟨S4,x4⟩:=put (.dK (dropK ks (.inr s))) (.map (smap (x7 l' s))) fun kp=> by
    obtain ⟨a,b⟩:=B3o (s:=s) e1 (RepL.mono kp _ _ e2)
    exact A8w upd_same a b
  refine ⟨p,ks,.inr s,ex,e0,rfl,?_,l.nx _ _ _ _ S4 ((x2.trans (x3.trans x4)).keeps S) z⟩
  rcases A6O (s:=s) e1 e2 with ⟨a,b⟩ | ⟨w,v,a,b,rv⟩
  · rw [a] at z3;cases z3
  · rw [b];rfl
def A8J:AT:=fun env h Q=> Q (.own (.map (smap []))) env h
theorem B4G {pos:Pos}:AE X G (.Dict [] [] pos) A8J:=by
  refine ⟨fun env h Q Q' k q=> k _ _ _ q,PE.imp pe_dnewK fun σ H Q ⟨env,h,S,q⟩ p n=> ?_⟩
  obtain ⟨S2,x2,r2,f2⟩:=B0S S .refl n (o:= .dK []) (c:= .map (smap [])) fun nw=> A8w upd_same rfl .nil
  exact q _ _ S2 x2 r2 f2
end
def A1n:M3:=fun as Q=> match as with
  | [.cv (.map kvs)]=> ∃l,kvs=smap l∧Q (.val (.int l.length))
  | _=> False
theorem C29 {K:PySem.W.Frag}:CallA K (fun xs H Q=> ∃a kvs,xs=[V.ref a]∧H a=some (.dK kvs)∧Q (.int kvs.length) H) A1n:=
  ⟨fun as Q Q' k q=> by
    unfold A1n at q ⊢
    split at q
    · obtain ⟨l,e,q⟩:=q;exact ⟨l,e,k _ q⟩
    · exact q,fun as vs H Q0 Q r q k=> by
    unfold A1n at q
    split at q
    · rename_i kvs
      obtain ⟨l,rfl,q⟩:=q
      obtain ⟨v,rfl,p,ex,c⟩:=r.one
      obtain ⟨ks,e0,e1,e2⟩:=A6K c
      subst ex
      have lk:ks.length=l.length:=by have:=congrArg List.length e1;simpa using this
      exact ⟨p,ks,rfl,e0,k _ _ (.val q (by rw [lk];exact .int))⟩
    · exact q.elim⟩
def A1i:M3:=fun as Q=> match as with
  | [.cv (.map kvs)]=> ∃l,kvs=smap l∧Q (.own (.seq (l.map fun p=> W.str p.1)))
  | _=> False
theorem B4Y {K:PySem.W.Frag} {H:Hp}:∀{l:List (Str×W)} {ks:List (Key×V)},ks.map (·.1)=l.map (fun q=> Sum.inr q.1)→RepL K H (l.map fun p=> W.str p.1) (ks.map fun kv=> kV kv.1)
  | [],[],_=> .nil
  | [],_::_,e=> by cases e
  | _::_,[],e=> by cases e
  | p::l,q::ks,e=> by
    rw [List.map_cons,List.map_cons] at e
    injection e with e1 e2
    rw [List.map_cons,List.map_cons,e1]
    exact .cons .str (B4Y e2)
theorem C2L {K:PySem.W.Frag}:CallA K rListD A1i:=
  ⟨fun as Q Q' k q=> by
    unfold A1i at q ⊢
    split at q
    · obtain ⟨l,e,q⟩:=q;exact ⟨l,e,k _ q⟩
    · exact q,fun as vs H Q0 Q r q k=> by
    unfold A1i at q
    split at q
    · rename_i kvs
      obtain ⟨l,rfl,q⟩:=q
      obtain ⟨v,rfl,p,ex,c⟩:=r.one
      obtain ⟨ks,e0,e1,e2⟩:=A6K c
      subst ex
      exact ⟨p,ks,rfl,e0,fun l' n=> k _ _ (.lst n q (B4Y e1))⟩
    · exact q.elim⟩
end Ab
namespace Ab
open PySem PySem.Spec PyProof.Rows L2 RZ
theorem B6o {a b:Vw} {neg:Bool} {Q:RV→Prop}:Z6 neg a b Q=(match b.items with
  | some xs=> a.ok=true∧xs.all (W.dat 60)=true∧Q (.val (.bl (if neg then !y9 a.toW xs else y9 a.toW xs)))
  | none=> False):=by
  unfold Z6
  cases b.items <;> simp
theorem C06 {x y:W} {ys:List W}:y9 x (y::ys)=(M8 y x || y9 x ys):=rfl
def A4E (casks:Int):List Int→List Int→Int→Option Int
  | _,[],_=> none
  | seen,c::r,k=> if ¬(0≤c∧c < casks)∨c∈seen then some k else A4E casks (seen++[c]) r (k+1)
theorem C56 {x:W} {xs:List W}:atI (x::xs) 0=some x:=atI_nat (j:=0) rfl
theorem C57 {x y:W} {xs:List W}:atI (x::y::xs) 1=some y:=atI_nat (j:=1) rfl
theorem C6c {x y z:W} {xs:List W}:atI (x::y::z::xs) 2=some z:=atI_nat (j:=2) rfl
end Ab
namespace Ab
open PySem PySem.Spec PyProof.Rows L2 RZ
def C6B (K:PySem.W.Frag) (tl:TE):TI:=fun σ H R=> tl σ H fun x H1=>
  ∃a,x= .ref a∧(((∃xs,SqL K H1 a xs)∧R (Itl K a) H1)∨((∃xs,SqT K H1 a xs)∧R (Itt K a) H1))
theorem B6p {X:Cx} {tg l:Expr} {tl:TE} (hl:PE X l tl):PI X tg l (C6B X.K tl):=by
  constructor
  intro pins s σ H R I h
  refine thn (hl.run pins s σ H _ I h) ?_
  rintro v s1 ⟨x,H1,I1,r1,a,rfl,q⟩
  cases r1
  have fp:∀b∈[s1.heap.objs.size],FpOk X pins H1 b:=by
    intro b hb
    obtain rfl:b=s1.heap.objs.size:=by simpa using hb
    exact I1.fpOk (Nat.le_refl _) (I1.hok.fresh (Nat.le_refl _))
  rcases q with ⟨⟨xs,hq⟩,q⟩ | ⟨⟨xs,hq⟩,q⟩
  · obtain ⟨its,rv,p,hz⟩:=I1.list hq
    apply wpAny_pyIter_list p.isList
    exact ⟨_,[s1.heap.objs.size],_,_,H1,rfl,
      I1.kept (t':=s1.toks) fun b o e=> Heap.get?_push_of_some _ e,turn_list a _,⟨_,Heap.get?_push_size _ rfl,rfl,rfl⟩,fp,q⟩
  · obtain ⟨its,rv,p,hz⟩:=I1.tuple hq
    apply wpAny_pyIter_tuple (show s1.heap.IsTuple a its.toArray from p)
    exact ⟨_,[s1.heap.objs.size],_,_,H1,rfl,
      I1.kept (t':=s1.toks) fun b o e=> Heap.get?_push_of_some _ e,turn_tuple a _,⟨_,Heap.get?_push_size _ rfl,rfl,rfl⟩,fp,q⟩
def iSq (t:D5):X6:=fun env h Q=> t env h fun w env' h'=> match w with
  | .lst ws=> Q ws env' h'
  | .tup ws=> Q ws env' h'
  | _=> False
theorem iSq.mono {t:D5} (m:B9 t):B9 (iSq t):=fun env h Q Q' k q=> m env h _ _ (fun w e g z=> by
  split at z
  · exact k _ _ _ z
  · exact k _ _ _ z
  · exact z) q
section
variable {X:Cx} {G:Gx} {tg e:Expr} {st:Stmt}
theorem A1G {t:D5} (gk:G.K=X.K) (a:AV X G e t):AI X G tg e (iSq t):=by
  refine ⟨iSq.mono a.mono,PI.imp (B6p a.pe) fun σ H R ⟨env,h,S,q⟩=> ?_⟩
  refine ⟨env,h,S,a.mono env h _ _ (fun w env1 h1 z v H1 S1 x1 r1=> ?_) q⟩
  cases w with
  | lst ws=>
    obtain ⟨p,vs,rfl,l,r⟩:=Rep.of_lst r1
    exact ⟨p,rfl,.inl ⟨⟨vs,l.sq⟩,z _ H1 S1 x1 (gk▸B3V l r)⟩⟩
  | tup ws=>
    obtain ⟨p,vs,rfl,l,r⟩:=Rep.of_tup r1
    exact ⟨p,rfl,.inr ⟨⟨vs,gk▸l⟩,z _ H1 S1 x1 (gk▸B3m l r)⟩⟩
  | _=> exact z.elim
def aFrz (i:Nat) (t:D1):D1:=fun D env h=> match env[i]? with
  | some (some (.own c))=> t D (env.set i (some (.val c.fz))) h
  | some (some (.val _))=> t D env h
  | _=> False
theorem aFrz.mono {i:Nat} {t:D1} (m:x9 t):x9 (aFrz i t):=fun D D' env h l q=> by
  unfold aFrz at q ⊢
  split at q
  · exact m _ _ _ _ l q
  · exact m _ _ _ _ l q
  · exact q
theorem A53 (i:Nat) {t:D1} (a:AS X G st t):AS X G st (aFrz i t):=by
  refine ⟨aFrz.mono a.mono,⟨fun pins s σ H Q I ⟨env,h,Da,S,q,l⟩=> ?_⟩⟩
  unfold aFrz at q
  split at q
  · rename_i c e
    obtain ⟨p,H2,es,I2,S2,x2,r2⟩:=A9x (env:=env) (env':=env) (H:=H) (H1:=H) S .refl I e
    exact a.ps.run pins s σ H2 Q I2 ⟨_,h,Da,S2,q,l.from (x2.keeps S)⟩
  · exact a.ps.run pins s σ H Q I ⟨env,h,Da,S,q,l⟩
  · exact q.elim
end
theorem C1l {prog:Program} {w:World} {A:Around} {E:Value→Shared→Prop} {s:Shared} {l:Addr} {its:List Value} {ns:List Int} {Q:Value→Shared→Prop} (hh:A.handled=none)
    (hl:s.heap.IsTuple l its.toArray) (hi:IntsAre its ns)
    (hq:∀h' tk t',(∀b o,s.heap.get? b=some o→h'.get? b=some o)→Q (.int ns.sum t') { s with heap:=h',toks:=tk }):
    wpAny (model prog w) A (call (.builtin "sum") [.ref l]) Q E s:=by
  obtain ⟨xs,e⟩:=hi.allInts.items
  have hn:=hi.numsOf
  have hn2:numsOf (intItems xs).toList=ns:=by rw [←e];exact hn
  rw [nums_intItems] at hn2
  rw [e] at hl
  have lt:l < s.heap.objs.size:=by
    obtain ⟨_,e,_⟩:=hl
    exact Heap.lt_size e
  refine call_sum_walkG (wpAny_pyIter_tuple hl ?_)
  refine ⟨_,_,_,_,_,_,numAt xs,rfl,Walks.tuple (A:=A.in1) hh s.heap.objs.size l (Nat.ne_of_lt lt) (intItems xs),⟨⟨_,Heap.get?_push_size _ rfl,rfl,rfl⟩,hl.push _⟩,fun b hb=> ?_,fun _ _=> intItems_at,fun h' tk t' hk=> ?_⟩
  · show b < (s.heap.push _).objs.size
    rw [Heap.size_push]
    simp only [List.mem_cons,List.not_mem_nil,or_false] at hb
    rcases hb with rfl | rfl
    · exact Nat.lt_succ_self _
    · exact Nat.lt_succ_of_lt lt
  · have k:∀b o,s.heap.get? b=some o→h'.get? b=some o:=fun b o e=> hk b o (fun hm=> by
      have:b=s.heap.objs.size:=by simpa using hm
      have h2:=Heap.lt_size e
      rw [this] at h2
      exact Nat.lt_irrefl _ h2) (Heap.get?_push_of_some _ e)
    have z:=hq h' tk t' k
    rw [preSum_eq,List.take_of_length_le (by simp [intItems]),hn2]
    exact z
section
variable {X:Cx}
def B6f (K:PySem.W.Frag):List V→Hp→VK→Prop:=fun vs H Q=> ∃(a:Addr) (ns:List Int),vs=[V.ref a]∧(SqL K H a (ns.map V.int)∨SqT K H a (ns.map V.int))∧Q (.int ns.sum) H
theorem C2f (hc:X.calm=true):CallR X (.builtin "sum") (B6f X.K):=by
  intro pins s σ H vs us Q I r h
  obtain ⟨a,ns,rfl,hs | hs,q⟩:=h
  · exact cr_sum hc pins s σ H _ us Q I r ⟨a,ns,rfl,hs,q⟩
  · obtain ⟨its,rv,hl,_⟩:=I.tuple hs
    rw [Vals.ref1 r]
    exact C1l (I.ok.hd hc) (show s.heap.IsTuple a its.toArray from hl) rv.ints fun h' tk t' hk=> ⟨.int _,H,I.kept hk,⟨_,rfl⟩,q⟩
def y7:M3:=fun as Q=> match as with
  | [a]=> ∃ns:List Int,a.items=some (ns.map W.int)∧Q (.val (.int ns.sum))
  | _=> False
theorem C3C {K:PySem.W.Frag}:CallA K (B6f K) y7:=
  ⟨fun as Q Q' k q=> by
    unfold y7 at q ⊢
    split at q
    · obtain ⟨ns,e,q⟩:=q
      exact ⟨ns,e,k _ q⟩
    · exact q,fun as vs H Q0 Q r q k=> by
    unfold y7 at q
    split at q
    · obtain ⟨ns,e,q⟩:=q
      obtain ⟨v,rfl,r1⟩:=r.one
      obtain ⟨p,us,rfl,hs,rl⟩:=r1.items e
      rw [rl.of_ints] at hs
      exact ⟨p,ns,rfl,hs.imp_left x8,k _ _ (.val q .int)⟩
    · exact q.elim⟩
end
end Ab
namespace Ab
open PySem PySem.Spec PyProof.Rows L2 RZ
abbrev d4:=A1→AH→((AH→Prop)→List W→A1→AH→Prop)→Prop
def A6P (t:d4):Prop:=∀env h Q Q',(∀ok ws e k,Q ok ws e k→Q' ok ws e k)→t env h Q→t env h Q'
def A6H (G:Gx) (J:It) (H1:Hp) (ok:AH→Prop) (ws:List W):Prop:=∀h H,(∀a o,h a=some o→ORep G.K H a o)→Keeps H1 H→ok h→∀i:Nat,(ws.length≤i→J.stop i H)∧∀w,ws[i]? =some w→J.go i H∧∀x H',J.yld i H x H'→New H H'∧Rep G.K H' w x
def cIL (G:Gx) (t:d4):TI:=fun σ H R=> ∃env h,BS G env h σ H∧t env h fun ok ws env' h'=> ∀J H',BS G env' h' σ H'→Xt env h σ H env' h' H'→A6H G J H' ok ws→R J H'
structure AI2 (X:Cx) (G:Gx) (tg iter:Expr) (t:d4):Prop where
  mono:A6P t
  pi:PI X tg iter (cIL G t)
def C6Q (t:X6):d4:=fun env h Q=> t env h fun ws e k=> Q (fun _=> True) ws e k
theorem AI.two {X:Cx} {G:Gx} {tg e:Expr} {t:X6} (a:AI X G tg e t):AI2 X G tg e (C6Q t):=
  ⟨fun env h Q Q' k q=> a.mono env h _ _ (fun ws e g z=> k _ _ _ _ z) q,PI.imp a.pi fun σ H R ⟨env,h,S,q⟩=> ⟨env,h,S,a.mono env h _ _ (fun ws e g z J H' S1 x1 gv=> z J H' S1 x1 fun _ H'' _ kk _=> gv H'' kk) q⟩⟩
def srcW (h:AH) (r:RV) (Q:(AH→Prop)→List W→Prop):Prop:=match r with
  | .val (.ref a)=> ∃ws,h a=some (.cont (.seq ws))∧Q (fun k=> k a=some (.cont (.seq ws))) ws
  | .val (.lst ws)=> Q (fun _=> True) ws
  | .val (.tup ws)=> Q (fun _=> True) ws
  | _=> False
def iLive (t:AT):d4:=fun env h Q=> t env h fun r env1 h1=> srcW h1 r fun ok ws=> Q ok ws env1 h1
def iLvE (t:AT):d4:=fun env h Q=> t env h fun r env1 h1=> srcW h1 r fun ok ws=> Q ok (V3 ws) env1 h1
theorem srcW.imp {h:AH} {r:RV} {Q Q':(AH→Prop)→List W→Prop} (k:∀ok ws,Q ok ws→Q' ok ws) (z:srcW h r Q):srcW h r Q':=by
  unfold srcW at z ⊢
  split at z
  · obtain ⟨ws,e,z⟩:=z;exact ⟨ws,e,k _ _ z⟩
  · exact k _ _ z
  · exact k _ _ z
  · exact z
theorem iLive.mono {t:AT} (m:B9 t):A6P (iLive t):=fun env h Q Q' k q=> m env h _ _ (fun r e g z=> srcW.imp (fun ok ws y=> k _ _ _ _ y) z) q
theorem iLvE.mono {t:AT} (m:B9 t):A6P (iLvE t):=fun env h Q Q' k q=> m env h _ _ (fun r e g z=> srcW.imp (fun ok ws y=> k _ _ _ _ y) z) q
section
variable {X:Cx} {G:Gx} {tg e:Expr}
theorem A75 {h:AH} {H:Hp} {a:Addr} {ws:List W} (hp:∀a o,h a=some o→ORep G.K H a o) (e:h a=some (.cont (.seq ws))):∃vs,SqL G.K H a vs∧RepL G.K H ws vs:=by
  obtain ⟨vs,l,r⟩:=hp a _ e
  exact ⟨vs,.inl (.inl l),r⟩
theorem C0T {H1:Hp} {a:Addr} {ws:List W}:A6H G (Itl G.K a) H1 (fun k=> k a=some (.cont (.seq ws))) ws:=fun h H hp kk e i=> by
  obtain ⟨vs,l',r'⟩:=A75 hp e
  refine ⟨fun h=> ⟨vs,l',by rw [←r'.length];exact h⟩,fun w e=> ?_⟩
  obtain ⟨v,ev,rv⟩:=r'.get e
  exact ⟨⟨vs,v,l',ev⟩,fun x H2 ⟨e1,q⟩=> by
    subst e1
    have z:=q vs l'
    rw [ev] at z;cases z
    exact ⟨.refl _,rv⟩⟩
theorem B9u {H1:Hp} {a:Addr} {ws:List W}:A6H G (Ite G.K a) H1 (fun k=> k a=some (.cont (.seq ws))) (V3 ws):=fun h H hp kk e i=> by
  obtain ⟨vs,l,r⟩:=A75 hp e
  have l':SqL G.K H a vs:=l
  refine ⟨fun h=> ⟨vs,l',by rw [←r.length];rwa [B0V] at h⟩,fun w e=> ?_⟩
  obtain ⟨u,eu,rfl⟩:=B0N e
  obtain ⟨v,ev,rv⟩:=r.get eu
  refine ⟨⟨vs,v,l',ev⟩,fun x H2 ⟨T,y,e1,n,e2,q⟩=> ?_⟩
  subst e1 e2
  have z:=q vs l'
  rw [ev] at z;cases z
  have nw:New H (upd H T (.tup [.int i,v])):=New.upd n
  exact ⟨nw,.tup (.inl upd_same) (.cons .int (.cons (Rep.mono nw.keeps _ _ rv) .nil))⟩
theorem A7j {J:It} {H:Hp} {ws:List W} (g:A2i G.K J H ws):A6H G J H (fun _=> True) ws:=fun _ H' _ kk _=> g H' kk
theorem B5H {t:AT} (gk:G.K=X.K) (a:AE X G e t):AI2 X G tg e (iLive t):=by
  refine ⟨iLive.mono a.mono,PI.imp (B6p a.pe) fun σ H R ⟨env,h,S,q⟩=> ?_⟩
  refine ⟨env,h,S,a.mono env h _ _ (fun r env1 h1 z v H1 S1 x1 r1 f1=> ?_) q⟩
  clear f1
  unfold srcW at z
  split at z
  · rename_i p
    obtain ⟨ws,e,z⟩:=z
    have ex:v= .ref p:=Rep.of_ref (K:=G.K) (H:=H1) r1
    obtain ⟨vs,l,r⟩:=A75 S1.hp e
    exact ⟨p,ex,.inl ⟨⟨vs,gk▸l⟩,gk▸z _ H1 S1 x1 C0T⟩⟩
  · obtain ⟨p,vs,rfl,l,r⟩:=Rep.of_lst (K:=G.K) (H:=H1) r1
    exact ⟨p,rfl,.inl ⟨⟨vs,l.sq⟩,z _ H1 S1 x1 (A7j (gk▸B3V l r))⟩⟩
  · obtain ⟨p,vs,rfl,l,r⟩:=Rep.of_tup (K:=G.K) (H:=H1) r1
    exact ⟨p,rfl,.inr ⟨⟨vs,gk▸l⟩,z _ H1 S1 x1 (A7j (gk▸B3m l r))⟩⟩
  · exact z.elim
theorem C3m {t:AT} {p pos tpos:Pos} {elts:List Expr} {kk:Nat} (gk:G.K=X.K) (hg:Gl X "enumerate") (hm:X.mg "enumerate"=none) (a:AE X G e t) (hs:starEach [e] X.env=[(false,eval e X.env)]:=by rfl):
    AI2 X G (.Tuple elts kk tpos) (.Call (.Name "enumerate" p) [e] [] pos) (iLvE t):=by
  refine ⟨iLvE.mono a.mono,PI.imp (B50 hg hm (pa_cons a.pe pa_nil hs) hs) fun σ H R ⟨env,h,S,q⟩=> ?_⟩
  refine ⟨env,h,S,a.mono env h _ _ (fun r env1 h1 z v H1 S1 x1 r1 f1=> ?_) q⟩
  clear f1
  unfold srcW at z
  split at z
  · rename_i p
    obtain ⟨ws,e,z⟩:=z
    have ex:v= .ref p:=Rep.of_ref (K:=G.K) (H:=H1) r1
    subst ex
    obtain ⟨vs,l,r⟩:=A75 S1.hp e
    exact ⟨p,vs,rfl,.inr ⟨gk▸l,gk▸z _ H1 S1 x1 B9u⟩⟩
  · obtain ⟨p,vs,rfl,l,r⟩:=Rep.of_lst (K:=G.K) (H:=H1) r1
    exact ⟨p,vs,rfl,.inr ⟨l.sq,z _ H1 S1 x1 (A7j (gk▸B3t l r))⟩⟩
  · obtain ⟨p,vs,rfl,l,r⟩:=Rep.of_tup (K:=G.K) (H:=H1) r1
    exact ⟨p,vs,rfl,.inl ⟨gk▸l,z _ H1 S1 x1 (A7j (gk▸A98 l r))⟩⟩
  · exact z.elim
end
def aLoopL (ok:AH→Prop) (g:K5) (tb:D1) (D:AEnds):List W→A1→AH→Prop
  | []=> fun env h=> ok h∧D.nx env h
  | w::ws=> fun env h=> ok h∧g w env h fun env1 h1=> tb { D with nx:=aLoopL ok g tb D ws,ct:=aLoopL ok g tb D ws,bk:=D.nx } env1 h1
def A8l (ti:d4) (g:K5) (tb:D1):D1:=fun D env h=> ti env h fun ok ws env1 h1=> aLoopL ok g tb D ws env1 h1
theorem aLoopL.mono {ok:AH→Prop} {g:K5} {tb:D1} (mg:s9 g) (mt:x9 tb) {D D':AEnds} (l:D.Le D'):∀(ws:List W) env h,aLoopL ok g tb D ws env h→aLoopL ok g tb D' ws env h
  | [],env,h,q=> ⟨q.1,l.nx _ _ q.2⟩
  | w::ws,env,h,q=> ⟨q.1,mg w env h _ _ (fun e k z=> mt { D with nx:=aLoopL ok g tb D ws,ct:=aLoopL ok g tb D ws,bk:=D.nx } { D' with nx:=aLoopL ok g tb D' ws,ct:=aLoopL ok g tb D' ws,bk:=D'.nx } e k ⟨aLoopL.mono mg mt l ws,l.rt,l.nx,aLoopL.mono mg mt l ws⟩ z) q.2⟩
section
variable {X:Cx} {G:Gx} {tg iter:Expr} {body:List Stmt} {pos:Pos}
theorem B5f {ti:d4} {g:K5} {tb:D1} {sl:List Nat} (hp:PassesOwn (model X.prog X.w) X.A X.env X.xe) (hc:X.calm=true) (hi:AI2 X G tg iter ti) (hg:AG X G tg sl g) (hb:ASs X G body tb)
    (hs:∀x,foldedSetIterable iter X.env x=pure x:=by intro _;rfl):AS X G (.For tg iter body [] pos) (A8l ti g tb):=by
  refine ⟨fun D D' env h l q=> hi.mono env h _ _ (fun ok ws e k z=> aLoopL.mono hg.mono hb.mono l ws e k z) q,PS.imp (ps_for hp hc hi.pi hg.pg hb.ps hs) fun D σ H ⟨env,h,Da,S,q,l⟩=> ?_⟩
  refine ⟨env,h,S,hi.mono env h _ _ (fun ok ws env1 h1 z J H1 S1 x1 gv=> ?_) q⟩
  have kp:=x1.keeps S
  refine ⟨fun i m σ' H'=> ws.length≤i+m∧Keeps H1 H'∧∃e k,BS G e k σ' H'∧aLoopL ok g tb Da (ws.drop i) e k,⟨ws.length,by omega,.refl H1,env1,h1,S1,by simpa using z⟩,?_⟩
  rintro i m σ2 H2 ⟨hm,k2,e2,g2,S2,z2⟩
  cases e:ws[i]? with
  | none=>
    have hl:=List.getElem?_eq_none_iff.mp e
    rw [List.drop_eq_nil_of_le hl] at z2
    have gi:=gv g2 H2 S2.hp k2 z2.1 i
    exact .inl ⟨gi.1 hl,l.nx _ _ _ _ S2 (kp.trans k2) z2.2⟩
  | some w=>
    obtain ⟨hl,ew⟩:=List.getElem?_eq_some_iff.mp e
    have ed:ws.drop i=w::ws.drop (i+1):=by rw [List.drop_eq_getElem_cons hl,ew]
    rw [ed] at z2
    have gi:=gv g2 H2 S2.hp k2 z2.1 i
    obtain ⟨go,yl⟩:=gi.2 w e
    refine .inr ⟨go,fun σ' H'=> Keeps H1 H'∧∃e k,BS G e k σ' H'∧aLoopL ok g tb Da (ws.drop (i+1)) e k,fun σ' H' n=> ⟨m - 1,by omega,by omega,n.1,n.2⟩,fun x H3 y=> ?_⟩
    obtain ⟨nw,rx⟩:=yl x H3 y
    have k3:=k2.trans nw.keeps
    refine ⟨w,e2,g2,rx,nw.bs S2,hg.mono w e2 g2 _ _ (fun e4 g4 z4 σ4 H4 S4 x4=> ?_) z2.2⟩
    have k4:=x4.keeps (nw.bs S2)
    refine ⟨e4,g4,_,S4,z4,⟨fun e k σ H S' kk y=> ⟨(k3.trans k4).trans kk,e,k,S',y⟩,fun r e k σ H v S' kk=> l.rt r e k σ H v S' (kp.trans ((k3.trans k4).trans kk)),fun e k σ H S' kk=> l.nx e k σ H S' (kp.trans ((k3.trans k4).trans kk)),fun e k σ H S' kk y=> ⟨(k3.trans k4).trans kk,e,k,S',y⟩⟩⟩
end
def lcLoopL (ok:AH→Prop) (vs:List Nat) (g:K5) (tt:L8) (te:D5) (Q:List W→A1→AH→Prop):List W→List W→A1→AH→Prop
  | [],acc=> fun env h=> ok h∧Q acc env h
  | w::ws,acc=> fun env h=> ok h∧g w (P8 env vs) h fun e1 h1=> tt e1 h1 fun b e2 h2=> if b=true then te e2 h2 fun y e3 h3=> acc.length < sizeLine∧lcLoopL ok vs g tt te Q ws (acc++[y]) (mend env e3 vs) h3 else lcLoopL ok vs g tt te Q ws acc (mend env e2 vs) h2
def A6Y (vs:List Nat) (ti:d4) (g:K5) (tt:L8) (te:D5):AT:=fun env h Q=> ti env h fun ok ws e1 h1=> lcLoopL ok vs g tt te (fun acc e h=> Q (.own (.seq acc)) e h) ws [] e1 h1
theorem lcLoopL.mono {ok:AH→Prop} {vs:List Nat} {g:K5} {tt:L8} {te:D5} (mg:s9 g) (mt:B9 tt) (me:B9 te) {Q Q':List W→A1→AH→Prop} (k:∀a e h,Q a e h→Q' a e h):∀(ws acc:List W) env h,lcLoopL ok vs g tt te Q ws acc env h→lcLoopL ok vs g tt te Q' ws acc env h
  | [],acc,env,h,q=> ⟨q.1,k _ _ _ q.2⟩
  | w::ws,acc,env,h,q=> ⟨q.1,mg _ _ _ _ _ (fun e1 h1 z=> mt _ _ _ _ (fun b e2 h2 z=> by
    cases b with
    | true=> rw [if_pos rfl] at z ⊢;exact me _ _ _ _ (fun y e3 h3 z=> ⟨z.1,lcLoopL.mono mg mt me k ws _ _ _ z.2⟩) z
    | false=> rw [if_neg Bool.false_ne_true] at z ⊢;exact lcLoopL.mono mg mt me k ws _ _ _ z) z) q.2⟩
def del (H:Hp) (D:Addr):Hp:=fun p=> if p=D then none else H p
theorem B0H {H:Hp} {D:Addr}:del H D D=none:=by unfold del;rw [if_pos rfl]
theorem del_ne {H:Hp} {D p:Addr} (n:p≠D):del H D p=H p:=by unfold del;rw [if_neg n]
theorem A7o {H:Hp} {D p:Addr} {o:HO} (e:del H D p=some o):p≠D∧H p=some o:=by
  have n:p≠D:=fun z=> by rw [z,B0H] at e;cases e
  exact ⟨n,(del_ne n).symm.trans e⟩
theorem Xt.del {env env':A1} {h h':AH} {σ:L2.St} {H H':Hp} {D:Addr} (x:Xt env h σ H env' h' H'):Xt env h σ (del H D) env' h' H':=
  ⟨fun p o e n w t=> x.fr p o (A7o e).2 n w t,fun p o e n=> by
    by_cases q:p=D
    · rw [q];exact B0H
    · rw [del_ne q];exact x.hn p o e n,fun p o e=> x.th p o (A7o e).2,x.sl⟩
theorem Xg.transD {sl:List Nat} {env env1 env2:A1} {h h1 h2:AH} {σ σ1:L2.St} {H H1 H2:Hp} {D:Addr} (a:Xg sl env h σ H env1 h1 σ1 H1) (b:Xt env1 h1 σ1 (Ab.del H1 D) env2 h2 H2):Xg sl env h σ (Ab.del H D) env2 h2 σ1 H2:=by
  refine ⟨fun p o e n w t=> ?_,fun p o e n=> ?_,fun p o e=> ?_,fun p q=> a.ow p (b.own q),fun i c e=> ?_,a.bt⟩
  · obtain ⟨ne,e⟩:=A7o e
    have e1:=a.fr p o e n w t
    refine b.fr p o ((del_ne ne).trans e1) ?_ (fun q=> w (a.ow p q)) t
    cases q:h1 p with
    | none=> rfl
    | some u=> rw [a.hn p u q n] at e;cases e
  · by_cases ne:p=D
    · rw [ne];exact B0H
    · rw [del_ne ne]
      cases q:h1 p with
      | some u=> exact a.hn p u q n
      | none=>
        have z:=b.hn p o e q
        rw [del_ne ne] at z
        cases q2:H p with
        | none=> rfl
        | some u=> obtain ⟨o',e'⟩:=a.th p u q2;rw [z] at e';cases e'
  · obtain ⟨ne,e⟩:=A7o e
    obtain ⟨o',e'⟩:=a.th p o e
    exact b.th p o' ((del_ne ne).trans e')
  · obtain ⟨c1,z⟩:=b.sl i c e
    exact a.so i c1 z
section
variable {X:Cx} {G:Gx} {elt tg iter:Expr} {ifs:List Expr} {scope:Scope} {own:List (Str×Nat)} {pos:Pos} {ti:d4} {g:K5} {tt:L8} {te:D5} {sl:List Nat}
theorem C27 {env e2 e6:A1} {h g2 g6:AH} {σ σ4:L2.St} {H H2 H3 H6:Hp} {D:Addr} {vacc:List V} {vs:List Nat} (hsl:∀i∈sl,i∈vs) (hD:H D=none) (d2:H2 D=some (.lst vacc)) (S2:BS G e2 g2 σ H2) (x2:Xt env h σ H e2 g2 H2) (n2:g2 D=none) (no2:¬OwnAt e2 σ D) (nw:New H2 H3)
    (bt:But sl (wipe σ vs) σ4) (S6:BS G e6 g6 σ4 H6) (xx:Xg sl (P8 e2 vs) g2 (wipe σ vs) (Ab.del H3 D) e6 g6 σ4 H6) (no6:¬OwnAt e6 σ4 D) (n6:g6 D=none) (t6:∃o,H6 D=some o):
    Keeps H2 H6∧BS G (mend e2 e6 vs) g6 σ H6∧¬OwnAt (mend e2 e6 vs) σ D∧∀ys,Xt env h σ H (mend e2 e6 vs) g6 (upd H6 D (.lst ys)):=by
  have f6:∀p o,H2 p=some o→p≠D→g2 p=none→¬OwnAt e2 σ p→NT o→H6 p=some o:=fun p o e ne n q t=> xx.fr p o ((del_ne ne).trans (nw p o e)) n (fun q'=> q q'.wiped) t
  have kk:Keeps H2 H6:=fun p o e i=> f6 p o e (fun z=> by rw [z,d2] at e;cases e;exact i.elim) (S2.imm e i).1 (S2.imm e i).2 i.nt
  have Sm:=BS.mend (sl:=sl) S2 S6 kk bt hsl
  have sameOut:∀{j:Nat},j∉vs→σ4[j]? =σ[j]? :=fun {j} hj=> (bt.2 j fun q=> hj (hsl j q)).trans (p8 hj)
  have oM:∀p,OwnAt (mend e2 e6 vs) σ p→OwnAt e6 σ4 p:=fun p ⟨j,c,a,b⟩=> by
    by_cases hj:j∈vs
    · obtain ⟨w',e0,_⟩:=A1X hj a;cases e0
    · rw [A1U hj] at a
      exact ⟨j,c,a,(sameOut hj).trans b⟩
  refine ⟨kk,Sm,fun q=> no6 (oM D q),fun ys=> ⟨fun p o e n q t=> ?_,fun p o e n=> ?_,fun p o e=> ?_,fun j c e=> ?_⟩⟩
  · have np:p≠D:=fun z=> by rw [z,hD] at e;cases e
    rw [upd_ne np]
    refine f6 p o (x2.fr p o e n q t) np ?_ (fun y=> q (x2.own y)) t
    cases y:g2 p with
    | none=> rfl
    | some u=> rw [x2.hn p u y n] at e;cases e
  · by_cases np:p=D
    · rw [np];exact hD
    cases y:g2 p with
    | some u=> exact x2.hn p u y n
    | none=>
      have y3:=xx.hn p o e y
      rw [del_ne np] at y3
      cases y4:H p with
      | none=> rfl
      | some u=>
        obtain ⟨u',y5⟩:=x2.th p u y4
        rw [nw p u' y5] at y3;cases y3
  · by_cases hp:p=D
    · subst hp;exact ⟨_,upd_same⟩
    · obtain ⟨u,y⟩:=x2.th p o e
      obtain ⟨u',y'⟩:=xx.th p u ((del_ne hp).trans (nw p u y))
      exact ⟨u',by rw [upd_ne hp];exact y'⟩
  · by_cases hj:j∈vs
    · obtain ⟨w',e0,_⟩:=A1X hj e;cases e0
    · rw [A1U hj] at e
      obtain ⟨c1,y⟩:=xx.so j _ e
      obtain ⟨y1,_⟩:=A2H y
      exact x2.sl j c1 y1
theorem C37 {H:Hp} {D:Addr} {o:HO} (e:H D=some o):upd H D o=H:=by
  funext p
  by_cases hp:p=D
  · subst hp;rw [upd_same,e]
  · rw [upd_ne hp]
theorem C3q {R:Hp→Prop} {J:It} {ok:AH→Prop} {ws acc0:List W} {vacc0:List V} {env env1:A1} {h h1:AH} {σ:L2.St} {H Hb H1:Hp} {D:Addr} {vs:List Nat} (hsl:∀i∈sl,i∈vs) (mg:s9 g) (mt:B9 tt) (me:B9 te)
    (hD:H D=none) (hd0:G.H0 D=none) (gv:A6H G J Hb ok ws) (k0:Keeps Hb H1) (d1:H1 D=some (.lst vacc0)) (r1:RepL G.K H1 acc0 vacc0) (S1:BS G env1 h1 σ H1) (x1:Xt env h σ H env1 h1 H1) (n1:h1 D=none) (no1:¬OwnAt env1 σ D)
    (z:lcLoopL ok vs g tt te (fun acc e h'=> ∀vacc H',BS G e h' σ H'→Xt env h σ H e h' H'→H' D=some (.lst vacc)→RepL G.K H' acc vacc→h' D=none→¬OwnAt e σ D→Keeps H1 H'→R H') ws acc0 env1 h1):
    ∃W:Nat→Nat→Hp→Prop,(∃m,W 0 m H1)∧∀i m H2,W i m H2→(J.stop i H2∧R H2)∨(J.go i H2∧∃Nx:Hp→Prop,(∀H',Nx H'→∃m',m' < m∧W (i+1) m' H')∧∀x H3,J.yld i H2 x H3→cG G sl g x (wipe σ vs) H3 fun σ4 H4=> wipe σ4 vs=wipe σ vs∧cT G tt σ4 H4 fun b H5=>
      if b=true then cV G te σ4 H5 fun y H6=> ∃acc,H6 D=some (.lst acc)∧acc.length < sizeLine∧Nx (upd H6 D (.lst (acc++[y]))) else Nx H5):=by
  refine ⟨fun i m H'=> ws.length≤i+m∧Keeps H1 H'∧∃acc vacc e k,H' D=some (.lst vacc)∧RepL G.K H' acc vacc∧BS G e k σ H'∧Xt env h σ H e k H'∧k D=none∧¬OwnAt e σ D∧
    lcLoopL ok vs g tt te (fun acc e h'=> ∀vacc H',BS G e h' σ H'→Xt env h σ H e h' H'→H' D=some (.lst vacc)→RepL G.K H' acc vacc→h' D=none→¬OwnAt e σ D→Keeps H1 H'→R H') (ws.drop i) acc e k,
    ⟨ws.length,by omega,.refl _,acc0,vacc0,env1,h1,d1,r1,S1,x1,n1,no1,by simpa using z⟩,?_⟩
  rintro i m H2 ⟨hm,k2,acc,vacc,e2,g2,d2,r2,S2,x2,n2,no2,z2⟩
  cases e:ws[i]? with
  | none=>
    have hl:=List.getElem?_eq_none_iff.mp e
    rw [List.drop_eq_nil_of_le hl] at z2
    have gi:=gv g2 H2 S2.hp (k0.trans k2) z2.1 i
    exact .inl ⟨gi.1 hl,z2.2 vacc H2 S2 x2 d2 r2 n2 no2 k2⟩
  | some w=>
    obtain ⟨hl,ew⟩:=List.getElem?_eq_some_iff.mp e
    have ed:ws.drop i=w::ws.drop (i+1):=by rw [List.drop_eq_getElem_cons hl,ew]
    rw [ed] at z2
    simp only [lcLoopL] at z2
    have gi:=gv g2 H2 S2.hp (k0.trans k2) z2.1 i
    obtain ⟨go,yl⟩:=gi.2 w e
    refine .inr ⟨go,fun H'=> Keeps H1 H'∧∃acc vacc e k,H' D=some (.lst vacc)∧RepL G.K H' acc vacc∧BS G e k σ H'∧Xt env h σ H e k H'∧k D=none∧¬OwnAt e σ D∧
      lcLoopL ok vs g tt te (fun acc e h'=> ∀vacc H',BS G e h' σ H'→Xt env h σ H e h' H'→H' D=some (.lst vacc)→RepL G.K H' acc vacc→h' D=none→¬OwnAt e σ D→Keeps H1 H'→R H') (ws.drop (i+1)) acc e k,fun H' n=> ⟨m - 1,by omega,by omega,n.1,n.2⟩,fun x H3 y=> ?_⟩
    obtain ⟨nw,rx⟩:=yl x H3 y
    have S3:=nw.bs S2
    refine ⟨w,P8 e2 vs,g2,rx,S3.wipe,mg _ _ _ _ _ (fun e4 g4 z4 σ4 H4 S4 x4=> ?_) z2.2⟩
    refine ⟨B4U x4.bt hsl,e4,g4,S4,mt _ _ _ _ (fun b e5 g5 z5 H5 S5 x5=> ?_) z4⟩
    have noW:¬OwnAt (P8 e2 vs) (wipe σ vs) D:=fun q=> no2 q.wiped
    have fin:∀{e6:A1} {g6:AH} {H6:Hp},BS G e6 g6 σ4 H6→Xt e4 g4 σ4 H4 e6 g6 H6→H6 D=some (.lst vacc)∧Keeps H2 H6∧BS G (mend e2 e6 vs) g6 σ H6∧g6 D=none∧¬OwnAt (mend e2 e6 vs) σ D∧∀ys,Xt env h σ H (mend e2 e6 vs) g6 (upd H6 D (.lst ys)):=fun {e6 g6 H6} S6 x6=> by
      have xx:=x4.trans x6.xg
      have d6:H6 D=some (.lst vacc):=xx.fr D _ (nw D _ d2) n2 noW (Mu.nt (o:= .lst vacc) trivial)
      have g6D:g6 D=none:=by
        cases q:g6 D with
        | none=> rfl
        | some u=> have y:=xx.hn D u q n2;rw [nw D _ d2] at y;cases y
      have no6:¬OwnAt e6 σ4 D:=fun q=> noW (xx.ow D q)
      obtain ⟨a,b,c,d⟩:=C27 (sl:=sl) hsl hD d2 S2 x2 n2 no2 nw x4.bt S6 (x4.transD x6.del) no6 g6D ⟨_,d6⟩
      exact ⟨d6,a,b,g6D,c,d⟩
    cases b with
    | true=>
      rw [if_pos rfl] at z5
      refine iteT ⟨e5,g5,S5,me _ _ _ _ (fun y e6 g6 ⟨hz,z6⟩ v H6 S6 x6 r6=> ?_) z5⟩
      obtain ⟨d6,k6,Sm,n6,no6,xm⟩:=fin S6 (x5.trans x6)
      obtain ⟨k7,S7⟩:=Sm.unseen (o':= .lst (vacc++[v])) d6 trivial n6 hd0 no6
      exact ⟨vacc,d6,by rw [←r2.length];exact hz,(k2.trans k6).trans k7,acc++[y],vacc++[v],_,g6,upd_same,(RepL.mono (k6.trans k7) _ _ r2).append (.cons (Rep.mono k7 _ _ r6) .nil),S7,xm _,n6,no6,z6⟩
    | false=>
      rw [if_neg Bool.false_ne_true] at z5
      refine iteF ?_
      obtain ⟨d6,k6,Sm,n6,no6,xm⟩:=fin S5 x5
      have xm':=xm vacc
      rw [C37 d6] at xm'
      exact ⟨k2.trans k6,acc,vacc,_,g5,d6,RepL.mono k6 _ _ r2,Sm,xm',n6,no6,z5⟩
theorem C1n {σ:L2.St} {H:Hp} {Q:VK} (hi:A6P ti) (hsl:∀i∈sl,i∈own.map (·.2)) (mg:s9 g) (mt:B9 tt) (me:B9 te) (q:cE G (A6Y (own.map (·.2)) ti g tt te) σ H Q):
    tLc (cIL G ti) (cG G sl g) (cT G tt) (cV G te) (own.map (·.2)) σ H Q:=by
  obtain ⟨env,h,S,q⟩:=q
  refine ⟨env,h,S,hi env h _ _ (fun ok ws env1 h1 z J H1 S1 x1 gv=> ?_) q⟩
  intro D nD
  have hD:H D=none:=x1.fresh nD
  obtain ⟨hd1,hd0,hdo⟩:=S1.noAt nD
  have nw0:New H1 (upd H1 D (.lst [])):=New.upd nD
  exact C3q (R:=fun H'=> Q (.ref D) H') hsl mg mt me hD hd0 gv nw0.keeps upd_same .nil (nw0.bs S1) (x1.trans nw0.xt) hd1 hdo
    (lcLoopL.mono mg mt me (fun acc e h' z vacc H' S2 x2 d2 r2 n2 no2 _=> z _ H' S2 x2 ⟨D,rfl,⟨vacc,d2,r2⟩,n2,hd0,no2⟩ fun p ep=> by cases ep;exact hD) ws [] env1 h1 z)
theorem C4f (hc:X.calm=true) (hN:X.N.Nodup) (hi:AI2 X G tg iter ti) (ok:BlkOk X.N X.env.scope scope own) (hsl:∀i∈sl,i∈own.map (·.2))
    (hg:∀(s:Shared) (H:Hp) (C:Addr) (cl:List (Str×Addr)) (fp:List Addr),AG (X.blk s H scope (compEnvC scope cl C X.env) fp) G tg sl g) (ht:∀(s:Shared) (H:Hp) (C:Addr) (cl:List (Str×Addr)) (fp:List Addr),APs (X.blk s H scope (compEnvC scope cl C X.env) fp) G ifs tt)
    (he:∀(s:Shared) (H:Hp) (C:Addr) (cl:List (Str×Addr)) (fp:List Addr),AV (X.blk s H scope (compEnvC scope cl C X.env) fp) G elt te) (mg:s9 g) (mt:B9 tt) (me:B9 te) (hs:∀x,foldedSetIterable iter X.env x=pure x:=by intro _;rfl):
    AE X G (.ListComp elt [⟨tg,iter,ifs,0⟩] scope pos) (A6Y (own.map (·.2)) ti g tt te):=
  ⟨fun env h Q Q' k q=> hi.mono env h _ _ (fun ok ws e1 h1 z=> lcLoopL.mono mg mt me (fun a e h q=> k _ _ _ q) ws [] e1 h1 z) q,PE.imp (pe_lc hc hN hi.pi ok (fun s H C cl fp=> (hg s H C cl fp).pg) (fun s H C cl fp=> (ht s H C cl fp).pts) (fun s H C cl fp=> (he s H C cl fp).pe) hs) fun σ H Q q=> C1n hi.mono hsl mg mt me q⟩
def lc2Loop (ok:AH→Prop) (vs:List Nat) (g:K5) (tt:L8) (ti1:d4) (vs1:List Nat) (g1:K5) (tt1:L8) (te:D5) (Q:List W→A1→AH→Prop):List W→List W→A1→AH→Prop
  | [],acc=> fun env h=> ok h∧Q acc env h
  | w::ws,acc=> fun env h=> ok h∧g w (P8 env vs) h fun e1 h1=> tt e1 h1 fun b e2 h2=> if b=true then ti1 e2 h2 fun ok1 ws1 e3 h3=> lcLoopL ok1 vs1 g1 tt1 te (fun acc' e4 h4=> lc2Loop ok vs g tt ti1 vs1 g1 tt1 te Q ws acc' (mend env e4 vs) h4) ws1 acc e3 h3 else lc2Loop ok vs g tt ti1 vs1 g1 tt1 te Q ws acc (mend env e2 vs) h2
variable {ti1:d4} {g1:K5} {tt1:L8} {vs1 sl1:List Nat} {tg1 iter1:Expr} {ifs1:List Expr}
theorem lc2Loop.mono {ok:AH→Prop} {vs:List Nat} (mg:s9 g) (mt:B9 tt) (mi:A6P ti1) (mg1:s9 g1) (mt1:B9 tt1) (me:B9 te) {Q Q':List W→A1→AH→Prop} (k:∀a e h,Q a e h→Q' a e h):∀(ws acc:List W) env h,lc2Loop ok vs g tt ti1 vs1 g1 tt1 te Q ws acc env h→lc2Loop ok vs g tt ti1 vs1 g1 tt1 te Q' ws acc env h
  | [],acc,env,h,q=> ⟨q.1,k _ _ _ q.2⟩
  | w::ws,acc,env,h,q=> ⟨q.1,mg _ _ _ _ _ (fun e1 h1 z=> mt _ _ _ _ (fun b e2 h2 z=> by
    cases b with
    | true=> rw [if_pos rfl] at z ⊢;exact mi _ _ _ _ (fun ok1 ws1 e3 h3 z=> lcLoopL.mono mg1 mt1 me (fun acc' e4 h4 z=> lc2Loop.mono mg mt mi mg1 mt1 me k ws _ _ _ z) _ _ _ _ z) z
    | false=> rw [if_neg Bool.false_ne_true] at z ⊢;exact lc2Loop.mono mg mt mi mg1 mt1 me k ws _ _ _ z) z) q.2⟩
end
end Ab
namespace Ab
open PySem PySem.Spec PyProof.Rows L2 RZ
mutual
def W.nodct:W→Bool
  | .dct _ _=> false
  | .tup ws=> W.nodcts ws
  | .lst ws=> W.nodcts ws
  | _=> true
def W.nodcts:List W→Bool
  | []=> true
  | w::ws=> w.nodct && W.nodcts ws
end
def SV.nodct:SV→Bool
  | .val w=> w.nodct
  | .own (.seq ws)=> W.nodcts ws
  | .own (.map kvs)=> W.nodcts (kvs.map (·.2))
def c7 (e:A1):Bool:=e.all fun x=> match x with
  | some sv=> sv.nodct
  | none=> true
def noE (env:A1):A1:=env.map fun x=> match x with
  | some (.own _)=> none
  | x=> x
theorem C2b (env:A1):(noE env).length=env.length:=by unfold noE;rw [List.length_map]
theorem A8R {env:A1} {i:Nat} {sv:SV} (e:(noE env)[i]? =some (some sv)):∃w,sv= .val w∧env[i]? =some (some (.val w)):=by
  unfold noE at e
  rw [List.getElem?_map] at e
  cases q:env[i]? with
  | none=> rw [q] at e;cases e
  | some x=>
    rw [q] at e
    cases x with
    | none=> cases e
    | some s=>
      cases s with
      | val w=> cases e;exact ⟨w,rfl,rfl⟩
      | own c=> cases e
section
variable {K:PySem.W.Frag} {H H':Hp} {q:Addr} {od:Obj} {u:HO} {kq:List (Key×V)}
theorem B33 (hq:H q=some (.frz od (.dK kq))) {p:Addr} {o:HO} (e:H p=some o) (n:∀od',o≠ .frz od' (.dK kq)):p≠q:=fun z=> by
  rw [z,hq] at e;exact n od (Option.some.inj e).symm
mutual
theorem Rep.unlock (hq:H q=some (.frz od (.dK kq))) (kp:∀p o,H p=some o→Imm o→p≠q→H' p=some o):∀(w:W) (v:V),w.nodct=true→Rep K H w v→Rep K H' w v
  | .non,_,_,h=> by simpa only [Rep] using h
  | .bl _,_,_,h=> by simpa only [Rep] using h
  | .int _,_,_,h=> by simpa only [Rep] using h
  | .str _,_,_,h=> by simpa only [Rep] using h
  | .ref _,_,_,h=> by simpa only [Rep] using h
  | .ty _,_,_,h=> by simpa only [Rep] using h
  | .emp,_,_,h=> by simpa only [Rep] using h
  | .tup ws,v,d,h=> by
    simp only [Rep] at h ⊢
    obtain ⟨a,vs,e,s,r⟩:=h
    refine ⟨a,vs,e,s.imp (fun e=> kp _ _ e trivial (B33 hq e fun _ z=> by cases z)) id,RepL.unlock hq kp ws vs ?_ r⟩
    simpa only [W.nodct] using d
  | .lst ws,v,d,h=> by
    simp only [Rep] at h ⊢
    obtain ⟨a,vs,e,⟨o,s⟩,r⟩:=h
    refine ⟨a,vs,e,⟨o,kp _ _ s trivial (B33 hq s fun _ z=> by cases z)⟩,RepL.unlock hq kp ws vs ?_ r⟩
    simpa only [W.nodct] using d
  | .dct ks ws,v,d,h=> by simp only [W.nodct] at d;cases d
theorem RepL.unlock (hq:H q=some (.frz od (.dK kq))) (kp:∀p o,H p=some o→Imm o→p≠q→H' p=some o):∀(ws:List W) (vs:List V),W.nodcts ws=true→RepL K H ws vs→RepL K H' ws vs
  | [],vs,_,h=> by simpa only [RepL] using h
  | w::ws,vs,d,h=> by
    simp only [W.nodcts,Bool.and_eq_true] at d
    simp only [RepL] at h ⊢
    obtain ⟨v,r,e,a,b⟩:=h
    exact ⟨v,r,e,Rep.unlock hq kp w v d.1 a,RepL.unlock hq kp ws r d.2 b⟩
end
theorem CRep.unlock (hq:H q=some (.frz od (.dK kq))) (kp:∀p o,H p=some o→Imm o→p≠q→H' p=some o) {p:Addr} (s:H' p=H p):∀{c:Cont},(SV.own c).nodct=true→CRep K H p c→CRep K H' p c
  | .seq ws,d,⟨vs,e,r⟩=> ⟨vs,s.trans e,RepL.unlock hq kp _ _ d r⟩
  | .map kvs,d,.inl ⟨ks,e,t,r⟩=> .inl ⟨ks,s.trans e,t,RepL.unlock hq kp _ _ d r⟩
  | .map kvs,d,.inr ⟨ks,e,t,r⟩=> .inr ⟨ks,s.trans e,t,RepL.unlock hq kp _ _ d r⟩
theorem TabsK.unlock {o o':HO} (t:TabsK K H) (e:H q=some o) (n:∀ps,o≠ .tbl ps) (n2:∀φ,o≠ .ext φ):TabsK K (L2.upd H q o'):=fun p hp=> by
  obtain ⟨ps,h1,h2,h3⟩:=t p hp
  refine ⟨ps,?_,h2,fun pos cv hc=> ?_⟩
  · rw [upd_ne (fun z=> by rw [z,e] at h1;exact n _ (Option.some.inj h1))];exact h1
  · obtain ⟨c,e1,e2⟩:=h3 pos cv hc
    refine ⟨c,e1,?_⟩
    rw [upd_ne (fun z=> by rw [z,e] at e2;exact n2 _ (Option.some.inj e2))];exact e2
end
section
variable {G:Gx} {env e:A1} {h:AH} {σ σ':L2.St} {H Hk:Hp} {q:Addr} {od:Obj} {kq:List (Key×V)}
open Classical
noncomputable def A1m (G:Gx) (env:A1) (σ:L2.St) (H:Hp):Gx:=⟨G.K,fun _=> none,fun p=> if OwnAt env σ p then none else H p⟩
theorem A36 {p:Addr} {o:HO} (n:¬OwnAt env σ p) (e:H p=some o):(A1m G env σ H).H0 p=some o:=by
  show (if OwnAt env σ p then none else H p)=_
  rw [if_neg n];exact e
theorem B3v {p:Addr} {o:HO} (e:(A1m G env σ H).H0 p=some o):¬OwnAt env σ p∧H p=some o:=by
  have e:(if OwnAt env σ p then none else H p)=some o:=e
  by_cases n:OwnAt env σ p
  · rw [if_pos n] at e;cases e
  · rw [if_neg n] at e;exact ⟨n,e⟩
theorem BS.lock (S:BS G env h σ H) {l:List (Str×W)} (hq:h q=some (.cont (.map (smap l)))):∃kq,H q=some (.dK kq)∧kq.map (·.1)=l.map (fun p=> Sum.inr p.1)∧RepL G.K H (l.map (·.2)) (kq.map (·.2))∧¬OwnAt env σ q∧
    ∀od,BS (A1m G env σ (upd H q (.frz od (.dK kq)))) env (fun _=> none) σ (upd H q (.frz od (.dK kq)))∧Keeps H (upd H q (.frz od (.dK kq))):=by
  obtain ⟨kq,e0,e1,e2⟩:=A6K (S.hp q _ hq)
  have noq:¬OwnAt env σ q:=fun ⟨i,c,a,b⟩=> by
    obtain ⟨p,x,_,n,_⟩:=S.own i c a
    rw [b] at x;cases x
    rw [hq] at n;cases n
  refine ⟨kq,e0,e1,e2,noq,fun od=> ?_⟩
  have kp:Keeps H (upd H q (.frz od (.dK kq))):=fun p o e i=> by
    have n:p≠q:=fun z=> by rw [z,e0] at e;cases e;exact i.elim
    rw [upd_ne n];exact e
  refine ⟨⟨S.len,fun i w z=> ?_,fun i c z=> ?_,S.uni,fun _ _ z=> (by cases z),fun p o z _ _=> (B3v z).2,fun _ _ z=> (by cases z),fun p o z=> ⟨o,(B3v z).2⟩,S.tabs.upd fun o z=> (by rw [e0] at z;cases z;trivial)⟩,kp⟩
  · obtain ⟨v,a,b⟩:=S.val i w z;exact ⟨v,a,Rep.mono kp w v b⟩
  · obtain ⟨p,a,b,_,_⟩:=S.own i c z
    have np:p≠q:=fun y=> noq ⟨i,c,z,y▸a⟩
    refine ⟨p,a,b.mono kp (upd_ne np),rfl,?_⟩
    show (if OwnAt env σ p then none else _)=none
    rw [if_pos ⟨i,c,z,a⟩]
theorem BS.open (S:BS G env h σ H) {l:List (Str×W)} (hq:h q=some (.cont (.map (smap l)))) (e0:H q=some (.dK kq)) (Sk:BS (A1m G env σ (upd H q (.frz od (.dK kq)))) e (fun _=> none) σ' Hk) (nd:c7 e=true):
    Hk q=some (.frz od (.dK kq))∧BS G e h σ' (upd Hk q (.dK kq))∧Keeps H (upd Hk q (.dK kq)):=by
  have noq:¬OwnAt env σ q:=fun ⟨i,c,a,b⟩=> by
    obtain ⟨p,x,_,n,_⟩:=S.own i c a
    rw [b] at x;cases x
    rw [hq] at n;cases n
  have fr:∀p o,H p=some o→p≠q→¬OwnAt env σ p→NT o→Hk p=some o:=fun p o e n w t=> Sk.fr p o (A36 w (by rw [upd_ne n];exact e)) rfl t
  have hk:Hk q=some (.frz od (.dK kq)):=Sk.fr q _ (A36 noq upd_same) rfl (fun _ z=> (by cases z))
  have kp:Keeps H (upd Hk q (.dK kq)):=fun p o e i=> by
    have n:p≠q:=fun z=> by rw [z,e0] at e;cases e;exact i.elim
    rw [upd_ne n]
    exact fr p o e n (S.imm e i).2 i.nt
  have up:∀p o,Hk p=some o→Imm o→p≠q→upd Hk q (.dK kq) p=some o:=fun p o e _ n=> by rw [upd_ne n];exact e
  have at_:∀{j:Nat} {sv:SV},e[j]? =some (some sv)→sv.nodct=true:=fun {j sv} z=> by
    have:=List.all_eq_true.mp nd (some sv) (List.mem_of_getElem? z)
    exact this
  have not_own:∀{p:Addr} {o:HO},H p=some o→(A1m G env σ (upd H q (.frz od (.dK kq)))).H0 p=none→p≠q→OwnAt env σ p:=fun {p o} e n ne=> Classical.byContradiction fun y=> by
    rw [A36 y (show upd H q _ p=some o by rw [upd_ne ne];exact e)] at n;cases n
  refine ⟨hk,⟨Sk.len,fun i w z=> ?_,fun i c z=> ?_,Sk.uni,fun a o z=> ?_,fun p o z y t=> ?_,S.ext,fun p o z=> ?_,Sk.tabs.unlock hk (fun _ z=> (by cases z)) (fun _ z=> (by cases z))⟩,kp⟩
  · obtain ⟨v,a,b⟩:=Sk.val i w z
    exact ⟨v,a,Rep.unlock hk up w v (at_ z) b⟩
  · obtain ⟨p,a,b,_,d⟩:=Sk.own i c z
    have np:p≠q:=fun y=> by
      obtain ⟨o,eo,m⟩:=b.there
      rw [y,hk] at eo;cases eo;exact m
    refine ⟨p,a,b.unlock hk up (upd_ne np) (at_ z),?_,?_⟩
    · cases x:h p with
      | none=> rfl
      | some o=>
        obtain ⟨u,eu,_⟩:=(S.hp p o x).there
        obtain ⟨j,c',f1,f2⟩:=not_own eu d np
        obtain ⟨p',f3,_,f4,_⟩:=S.own j c' f1
        rw [f2] at f3;cases f3
        rw [f4] at x;cases x
    · cases x:G.H0 p with
      | none=> rfl
      | some o=>
        obtain ⟨u,eu⟩:=S.tr p o x
        obtain ⟨j,c',f1,f2⟩:=not_own eu d np
        obtain ⟨p',f3,_,_,f4⟩:=S.own j c' f1
        rw [f2] at f3;cases f3
        rw [f4] at x;cases x
  · by_cases ha:a=q
    · subst ha
      rw [hq] at z;cases z
      exact CRep.mono kp (upd_same.trans e0.symm) (show CRep G.K H a (.map (smap l)) from S.hp a _ hq)
    · obtain ⟨u,eu,m⟩:=(S.hp a o z).there
      have no:¬OwnAt env σ a:=fun ⟨j,c',f1,f2⟩=> by
        obtain ⟨p',f3,_,f4,_⟩:=S.own j c' f1
        rw [f2] at f3;cases f3
        rw [f4] at z;cases z
      exact (S.hp a o z).mono kp (by rw [upd_ne ha,fr a u eu ha no m.nt,eu])
  · have e:=S.fr p o z y t
    have np:p≠q:=fun x=> by
      subst x
      rw [S.ext p _ hq y] at z;cases z
    rw [upd_ne np]
    refine fr p o e np (fun ⟨j,c',f1,f2⟩=> ?_) t
    obtain ⟨p',f3,_,_,f4⟩:=S.own j c' f1
    rw [f2] at f3;cases f3
    rw [f4] at z;cases z
  · by_cases np:p=q
    · subst np;exact ⟨_,upd_same⟩
    · obtain ⟨u,eu⟩:=S.tr p o z
      have no:¬OwnAt env σ p:=fun ⟨j,c',f1,f2⟩=> by
        obtain ⟨p',f3,_,_,f4⟩:=S.own j c' f1
        rw [f2] at f3;cases f3
        rw [f4] at z;cases z
      obtain ⟨u',eu'⟩:=Sk.tr p u (A36 no (by rw [upd_ne np];exact eu))
      exact ⟨u',by rw [upd_ne np];exact eu'⟩
theorem BS.le {G:Gx} {env:A1} {h h':AH} {σ:L2.St} {H:Hp} (S:BS G env h σ H) (l:AH.Le h' h):BS G env h' σ H:=
  ⟨S.len,S.val,fun i c e=> (by
    obtain ⟨p,a,b,d,f⟩:=S.own i c e
    refine ⟨p,a,b,?_,f⟩
    cases z:h' p with
    | none=> rfl
    | some u=> rw [l p u z] at d;cases d),S.uni,fun a o e=> S.hp a o (l a o e),S.fr,fun a o e=> S.ext a o (l a o e),S.tr,S.tabs⟩
end
def itL (a b:Nat) (tb:D1) (D:A1→Prop):List (Str×W)→A1→Prop
  | [],e=> c7 e=true∧D e
  | p::r,e=> tb ⟨fun e' _=> itL a b tb D r e',fun _ _ _=> False,fun _ _=> False,fun e' _=> itL a b tb D r e'⟩ ((e.set a (some (.val (.str p.1)))).set b (some (.val p.2))) fun _=> none
theorem itL.mono {a b:Nat} {tb:D1} (m:x9 tb) {D D':A1→Prop} (k:∀e,D e→D' e):∀(l:List (Str×W)) (e:A1),itL a b tb D l e→itL a b tb D' l e
  | [],e,q=> ⟨q.1,k e q.2⟩
  | p::r,e,q=> m ⟨fun e' _=> itL a b tb D r e',fun _ _ _=> False,fun _ _=> False,fun e' _=> itL a b tb D r e'⟩ ⟨fun e' _=> itL a b tb D' r e',fun _ _ _=> False,fun _ _=> False,fun e' _=> itL a b tb D' r e'⟩ _ _ ⟨fun e' _ z=> itL.mono m k r e' z,fun _ _ _ z=> z,fun _ _ z=> z,fun e' _ z=> itL.mono m k r e' z⟩ q
def B62 (i:Nat) (n f:Str) (env:A1) (h:AH) (s q:Addr) (l:List (Str×W)):Prop:=∃fs,env[i]? =some (some (.val (.ref s)))∧h s=some (.ins n fs)∧fs.lookup f=some (.ref q)∧h q=some (.cont (.map (smap l)))
def B1F (i:Nat) (n f:Str) (a b:Nat) (tb:D1):D1:=fun D env h=> ∃s q l,B62 i n f env h s q l∧itL a b tb (fun e=> D.nx e h) l env
section
variable {X:Cx} {G:Gx} {i a b:Nat} {n f A B Sn:Str} {body:List Stmt} {pos p1 p2 p3 p4 p5 p6 p7:Pos} {k0:Nat} {tb:D1}
theorem C1X (gk:G.K=X.K) (hp:PassesOwn (model X.prog X.w) X.A X.env X.xe) (hc:X.calm=true) (hN:X.N.Nodup) (F:FldOk X.K n f) (ho:PE X (.Name Sn p1) (tVar i)) (ga:PG X (.Name A p4) (gName a)) (gb:PG X (.Name B p5) (gName b))
    (hb:∀(G':Gx),G'.K=X.K→ASs X G' body tb)
    (hfb:attributeBase (.Name Sn p1) f X.env (eval (.Name Sn p1) X.env)=eval (.Name Sn p1) X.env:=by rfl) (hbase:attributeBase (.Attribute (.Name Sn p1) f p2) "items" X.env (eval (.Attribute (.Name Sn p1) f p2) X.env)=eval (.Attribute (.Name Sn p1) f p2) X.env:=by rfl) (hline:(p3.endLine==p6.line)=true:=by rfl)
    (ht:(assignEach [.Name A p4,.Name B p5] X.env).map (·.2)=[assign (.Name A p4) X.env,assign (.Name B p5) X.env]:=by rfl) (hn:(assignEach [.Name A p4,.Name B p5] X.env).length=2:=by rfl) (hst:(assignEach [.Name A p4,.Name B p5] X.env).findIdx? (·.1)=none:=by rfl)
    (ht2:(assignEach [.Name B p5] X.env).map (·.2)=[assign (.Name B p5) X.env]:=by rfl)
    (hs:∀x,foldedSetIterable (.Call (.Attribute (.Attribute (.Name Sn p1) f p2) "items" p3) [] [] p6) X.env x=pure x:=by intro _;rfl):
    AS X G (.For (.Tuple [.Name A p4,.Name B p5] k0 p7) (.Call (.Attribute (.Attribute (.Name Sn p1) f p2) "items" p3) [] [] p6) body [] pos) (B1F i n f a b tb):=by
  have mb:=(hb G gk).mono
  refine ⟨fun D D' env h l ⟨s,q,kvs,z1,z2⟩=> ⟨s,q,kvs,z1,itL.mono mb (fun e y=> l.nx e h y) _ _ z2⟩,?_⟩
  have pb:PSs X body (fun D σ H=> ∃G':Gx,G'.K=X.K∧cS G' tb D σ H):=⟨fun pins s σ H D I ⟨G',g,q⟩=> (hb G' g).ps.run pins s σ H D I q⟩
  refine PS.imp (ps_lock (ps_for hp hc (pi_items (pe_fld ho hfb) hbase hline) (pg_tup hc (pgs_cons ga (pgs_cons gb pgs_nil ht2) ht) hn hst) pb hs)) fun D σ H ⟨env,h,Da,S,⟨s,q,l,⟨fs,z1,z2,z3,z4⟩,z⟩,lk⟩=> ?_
  obtain ⟨kq,e0,e1,e2,noq,lock⟩:=S.lock z4
  refine ⟨q,.dK kq,e0,trivial,fun od=> ?_⟩
  obtain ⟨S1,k1⟩:=lock od
  obtain ⟨v,ev,rv⟩:=S.val i _ z1
  have ev2:v= .ref s:=Rep.of_ref (K:=G.K) (H:=H) rv
  subst ev2
  obtain ⟨dx,vs,ei,fr⟩:=S.hp s _ z2
  obtain ⟨v2,e3,rv2⟩:=fr.look.1 _ z3
  have ev3:v2= .ref q:=Rep.of_ref (K:=G.K) (H:=H) rv2
  subst ev3
  have nsq:s≠q:=fun y=> by rw [y,e0] at ei;cases ei
  refine ⟨_,ev,s,_,dx,vs,_,rfl,by rw [upd_ne nsq,←gk];exact ei,F.cl,F.no,e3,q,od,kq,rfl,upd_same,?_⟩
  have hlen:kq.length=l.length:=by have:=congrArg List.length e1;simpa using this
  have gk':(A1m G env σ (upd H q (.frz od (.dK kq)))).K=X.K:=gk
  have key:∀(j:Nat) (σ':L2.St) (H':Hp) (e:A1),BS (A1m G env σ (upd H q (.frz od (.dK kq)))) e (fun _=> none) σ' H'→itL a b tb (fun e=> Da.nx e h) [] e→H' q=some (.frz od (.dK kq))∧D.nx σ' (upd H' q (.dK kq)):=fun j σ' H' e Sk ze=> by
    obtain ⟨y1,y2,y3⟩:=S.open z4 e0 Sk ze.1
    exact ⟨y1,lk.nx _ _ _ _ y2 y3 ze.2⟩
  refine ⟨fun j m σ' H'=> l.length≤j+m∧∃e,BS (A1m G env σ (upd H q (.frz od (.dK kq)))) e (fun _=> none) σ' H'∧itL a b tb (fun e=> Da.nx e h) (l.drop j) e,⟨l.length,by omega,env,S1,by simpa using z⟩,?_⟩
  rintro j m σ2 H2 ⟨hm,e,S2,ze⟩
  have hq2:H2 q=some (.frz od (.dK kq)):=S2.fr q _ (A36 noq upd_same) rfl (fun _ z=> (by cases z))
  have kk:Keeps H H2:=fun p o eo im=> by
    have np:p≠q:=fun z=> by rw [z,e0] at eo;cases eo;exact im.elim
    exact S2.fr p o (A36 (S.imm eo im).2 (by rw [upd_ne np];exact eo)) rfl im.nt
  cases el:l[j]? with
  | none=>
    have hl:=List.getElem?_eq_none_iff.mp el
    rw [List.drop_eq_nil_of_le hl] at ze
    exact .inl ⟨⟨hq2,by omega⟩,key j σ2 H2 e S2 ze⟩
  | some p=>
    obtain ⟨hl,ew⟩:=List.getElem?_eq_some_iff.mp el
    have ed:l.drop j=p::l.drop (j+1):=by rw [List.drop_eq_getElem_cons hl,ew]
    rw [ed] at ze
    refine .inr ⟨⟨hq2,by omega⟩,fun σ' H'=> ∃e,BS (A1m G env σ (upd H q (.frz od (.dK kq)))) e (fun _=> none) σ' H'∧itL a b tb (fun e=> Da.nx e h) (l.drop (j+1)) e,fun σ' H' n=> ⟨m - 1,by omega,by omega,n⟩,fun x H3 y=> ?_⟩
    obtain ⟨T,kk1,v1,ek,ex,nT,e3'⟩:=y
    subst ex e3'
    have ekey:kk1= .inr p.1:=by
      have z1:(kq.map (·.1))[j]? =some kk1:=by rw [List.getElem?_map,ek];rfl
      rw [e1,List.getElem?_map,el] at z1
      exact (Option.some.inj z1).symm
    subst ekey
    have rv1:Rep G.K H p.2 v1:=by
      obtain ⟨u,y1,y2⟩:=e2.get (i:=j) (w:=p.2) (by rw [List.getElem?_map,el];rfl)
      rw [List.getElem?_map,ek] at y1
      cases y1;exact y2
    have nw:New H2 (upd H2 T (.tup [kV (.inr p.1),v1])):=New.upd nT
    refine ⟨T,_,rfl,.inl (.inl upd_same),rfl,_,_,rfl,_,_,rfl,rfl,?_⟩
    have S3:=(nw.bs S2).set (r:= .val (.str p.1)) a (show Rep G.K (upd H2 T (.tup [kV (.inr p.1),v1])) (.str p.1) (kV (.inr p.1)) from .str) trivial
    have S4:=S3.set (r:= .val p.2) b (show Rep G.K (upd H2 T (.tup [kV (.inr p.1),v1])) p.2 v1 from Rep.mono (kk.trans nw.keeps) _ _ rv1) trivial
    refine ⟨_,gk',_,_,⟨fun e' _=> itL a b tb (fun e=> Da.nx e h) (l.drop (j+1)) e',fun _ _ _=> False,fun _ _=> False,fun e' _=> itL a b tb (fun e=> Da.nx e h) (l.drop (j+1)) e'⟩,S4,ze,⟨fun e' h' σ' H' S' _ y=> ⟨e',S'.le (fun _ _ z=> (by cases z)),y⟩,fun _ _ _ _ _ _ _ _ _ z=> z.elim,fun _ _ _ _ _ _ z=> z.elim,fun e' h' σ' H' S' _ y=> ⟨e',S'.le (fun _ _ z=> (by cases z)),y⟩⟩⟩
end
end Ab
namespace Ab
open PySem PySem.Spec PyProof.Rows L2 RZ
def Sta (H H':Hp):Prop:=∀p o,H p=some o→NT o→H' p=some o
section
variable {G:Gx} {env e:A1} {h:AH} {σ σ':L2.St} {H H':Hp}
theorem Sta.keeps (s:Sta H H'):Keeps H H':=fun p o e i=> s p o e i.nt
theorem BS.same (S:BS G env h σ H) (s:Sta H H') (th:∀p o,H p=some o→∃u,H' p=some u) (tb:TabsK G.K H'):BS G env h σ H'∧Xt env h σ H env h H':=by
  refine ⟨⟨S.len,fun i w z=> ?_,fun i c z=> ?_,S.uni,fun a o z=> ?_,fun p o z y t=> s p o (S.fr p o z y t) t,S.ext,fun p o z=> ?_,tb⟩,⟨fun p o e _ _ t=> s p o e t,fun p o e n=> (by rw [n] at e;cases e),th,fun i c e=> ⟨c,e⟩⟩⟩
  · obtain ⟨v,a,b⟩:=S.val i w z;exact ⟨v,a,Rep.mono s.keeps w v b⟩
  · obtain ⟨p,a,b,d,f⟩:=S.own i c z
    obtain ⟨u,eu,m⟩:=b.there
    exact ⟨p,a,b.mono s.keeps ((s p u eu m.nt).trans eu.symm),d,f⟩
  · obtain ⟨u,eu,m⟩:=(S.hp a o z).there
    exact (S.hp a o z).mono s.keeps ((s a u eu m.nt).trans eu.symm)
  · obtain ⟨u,eu⟩:=S.tr p o z;exact th p u eu
theorem BS.small (S:BS G env h σ H):BS ⟨G.K,fun _=> none,H⟩ (noE env) (fun _=> none) σ H:=by
  refine ⟨(C2b env).trans S.len,fun i w z=> ?_,fun i c z=> ?_,fun i j c c' p a b _ _=> ?_,fun _ _ z=> (by cases z),fun p o z _ _=> z,fun _ _ z=> (by cases z),fun p o z=> ⟨o,z⟩,S.tabs⟩
  · obtain ⟨w',e1,e2⟩:=A8R z
    cases e1
    exact S.val i w e2
  · obtain ⟨w',e1,_⟩:=A8R z;cases e1
  · obtain ⟨w',e1,_⟩:=A8R a;cases e1
def VOnly (e:A1):Prop:=∀(i:Nat) (c:Cont),e[i]? ≠some (some (.own c))
theorem VOnly.noE:VOnly (noE env):=fun i c z=> by obtain ⟨w',e1,_⟩:=A8R z;cases e1
theorem VOnly.set (v:VOnly e) {a:Nat} {w:W}:VOnly (e.set a (some (.val w))):=fun i c z=> by
  by_cases hi:a=i
  · subst hi
    by_cases hl:a < e.length
    · rw [List.getElem?_set_self hl] at z;cases z
    · rw [List.getElem?_eq_none (by rw [List.length_set];omega)] at z;cases z
  · rw [List.getElem?_set_ne hi] at z;exact v i c z
theorem VOnly.no (v:VOnly e) {p:Addr}:¬OwnAt e σ p:=fun ⟨i,c,z,_⟩=> v i c z
end
def A1E (a b:Nat) (e0:A1) (p:Str×W):A1:=(e0.set a (some (.val (.str p.1)))).set b (some (.val p.2))
def dcL (a b:Nat) (tk tv:D5) (Q:List (Str×W)→Prop) (e0:A1):List (Str×W)→List (Str×W)→Prop
  | [],acc=> W.nodcts (acc.map (·.2))=true∧Q acc
  | p::r,acc=> tk (A1E a b e0 p) (fun _=> none) fun w e2 _=> e2=A1E a b e0 p∧tv (A1E a b e0 p) (fun _=> none) fun u _ _=> ∃s,w= .str s∧acc.length < sizeLine∧dcL a b tk tv Q e0 r (m6 acc s u)
theorem dcL.mono {a b:Nat} {tk tv:D5} {e0:A1} (mk:B9 tk) (mv:B9 tv) {Q Q':List (Str×W)→Prop} (k:∀l,Q l→Q' l):∀(l acc:List (Str×W)),dcL a b tk tv Q e0 l acc→dcL a b tk tv Q' e0 l acc
  | [],acc,q=> ⟨q.1,k _ q.2⟩
  | p::r,acc,q=> mk _ _ _ _ (fun w e2 _ ⟨z1,z2⟩=> ⟨z1,mv _ _ _ _ (fun u _ _ ⟨s,y1,y2,y3⟩=> ⟨s,y1,y2,dcL.mono mk mv k r _ y3⟩) z2⟩) q
def A6j (vs:List Nat) (i:Nat) (n f:Str) (a b:Nat) (tk tv:D5):AT:=fun env h Q=> ∃s q l,B62 i n f env h s q l∧dcL a b tk tv (fun acc=> Q (.own (.map (smap acc))) env h) (noE (P8 env vs)) l []
section
variable {X:Cx} {G:Gx} {i a b:Nat} {n f A B Sn:Str} {kx vx:Expr} {pos p1 p2 p3 p4 p5 p6 p7:Pos} {k0:Nat} {tk tv:D5} {scope:Scope} {own:List (Str×Nat)}
theorem C4h (gk:G.K=X.K) (hc:X.calm=true) (hN:X.N.Nodup) (F:FldOk X.K n f) (ho:PE X (.Name Sn p1) (tVar i)) (ok:BlkOk X.N X.env.scope scope own) (hab:a∈own.map (·.2)∧b∈own.map (·.2))
    (ga:∀(s:Shared) (H:Hp) (C:Addr) (cl:List (Str×Addr)) (fp:List Addr),PG (X.blk s H scope (compEnvC scope cl C X.env) fp) (.Tuple [.Name A p4,.Name B p5] k0 p7) (gTup X.K 2 (gCons (gName a) (gCons (gName b) gNil))))
    (hk:∀(G':Gx),G'.K=X.K→∀(s:Shared) (H:Hp) (C:Addr) (cl:List (Str×Addr)) (fp:List Addr),AV (X.blk s H scope (compEnvC scope cl C X.env) fp) G' kx tk)
    (hv:∀(G':Gx),G'.K=X.K→∀(s:Shared) (H:Hp) (C:Addr) (cl:List (Str×Addr)) (fp:List Addr),AV (X.blk s H scope (compEnvC scope cl C X.env) fp) G' vx tv) (mk:B9 tk) (mv:B9 tv)
    (hfb:attributeBase (.Name Sn p1) f X.env (eval (.Name Sn p1) X.env)=eval (.Name Sn p1) X.env:=by rfl) (hbase:attributeBase (.Attribute (.Name Sn p1) f p2) "items" X.env (eval (.Attribute (.Name Sn p1) f p2) X.env)=eval (.Attribute (.Name Sn p1) f p2) X.env:=by rfl) (hline:(p3.endLine==p6.line)=true:=by rfl)
    (hs:∀x,foldedSetIterable (.Call (.Attribute (.Attribute (.Name Sn p1) f p2) "items" p3) [] [] p6) X.env x=pure x:=by intro _;rfl):
    AE X G (.DictComp kx vx [⟨.Tuple [.Name A p4,.Name B p5] k0 p7,.Call (.Attribute (.Attribute (.Name Sn p1) f p2) "items" p3) [] [] p6,[],0⟩] scope pos) (A6j (own.map (·.2)) i n f a b tk tv):=by
  refine ⟨fun env h Q Q' k ⟨s,q,l,z1,z2⟩=> ⟨s,q,l,z1,dcL.mono mk mv (fun l z=> k _ _ _ z) _ _ z2⟩,?_⟩
  have pk:∀(s:Shared) (H:Hp) (C:Addr) (cl:List (Str×Addr)) (fp:List Addr),PE (X.blk s H scope (compEnvC scope cl C X.env) fp) kx (fun σ H Q=> ∃G':Gx,G'.K=X.K∧cV G' tk σ H Q):=fun s H C cl fp=> ⟨fun pins s' σ H Q I ⟨G',g,q⟩=> (hk G' g s _ C cl fp).pe.run pins s' σ H Q I q⟩
  have pv:∀(s:Shared) (H:Hp) (C:Addr) (cl:List (Str×Addr)) (fp:List Addr),PE (X.blk s H scope (compEnvC scope cl C X.env) fp) vx (fun σ H Q=> ∃G':Gx,G'.K=X.K∧cV G' tv σ H Q):=fun s H C cl fp=> ⟨fun pins s' σ H Q I ⟨G',g,q⟩=> (hv G' g s _ C cl fp).pe.run pins s' σ H Q I q⟩
  refine PE.imp (pe_lock (pe_dc hc hN (pi_items (pe_fld ho hfb) hbase hline) ok ga (fun _ _ _ _ _=> pts_nil) pk pv hs)) fun σ H Q ⟨env,h,S,s,q,l,⟨fs,z1,z2,z3,z4⟩,z⟩=> ?_
  generalize own.map (·.2)=vs at hab z ⊢
  obtain ⟨kq,e0,e1,e2,noq,lock⟩:=S.lock z4
  refine ⟨q,.dK kq,e0,trivial,fun od=> ?_⟩
  obtain ⟨_,k1⟩:=lock od
  obtain ⟨v,ev,rv⟩:=S.val i _ z1
  have ev2:v= .ref s:=Rep.of_ref (K:=G.K) (H:=H) rv
  subst ev2
  obtain ⟨dx,vs',ei,fr⟩:=S.hp s _ z2
  obtain ⟨v2,e3,rv2⟩:=fr.look.1 _ z3
  have ev3:v2= .ref q:=Rep.of_ref (K:=G.K) (H:=H) rv2
  subst ev3
  have nsq:s≠q:=fun y=> by rw [y,e0] at ei;cases ei
  refine ⟨_,ev,s,_,dx,vs',_,rfl,by rw [upd_ne nsq,←gk];exact ei,F.cl,F.no,e3,q,od,kq,rfl,upd_same,?_⟩
  intro D nD
  have hlen:kq.length=l.length:=by have:=congrArg List.length e1;simpa using this
  have nDq:D≠q:=fun z=> by rw [z,upd_same] at nD;cases nD
  have hD:H D=none:=by rw [upd_ne nDq] at nD;exact nD
  generalize hHl:upd H q (.frz od (.dK kq))=Hl at nD k1
  have hlq:Hl q=some (.frz od (.dK kq)):=by rw [←hHl];exact upd_same
  have hln:∀p,p≠q→Hl p=H p:=fun p n=> by rw [←hHl];exact upd_ne n
  have Sb:BS ⟨G.K,fun _=> none,Hl⟩ (noE (P8 env vs)) (fun _=> none) (wipe σ vs) Hl:=by
    have Sw:=(BS.wipe (vs:=vs) S).small
    refine ⟨Sw.len,fun i w z=> ?_,fun i c z=> (VOnly.noE i c z).elim,fun i j c c' p y _ _ _=> (VOnly.noE i c y).elim,fun _ _ z=> (by cases z),fun p o z _ _=> z,fun _ _ z=> (by cases z),fun p o z=> ⟨o,z⟩,?_⟩
    · obtain ⟨v,a,b⟩:=Sw.val i w z;exact ⟨v,a,Rep.mono k1 w v b⟩
    · rw [←hHl];exact S.tabs.upd fun o z=> by rw [e0] at z;cases z;trivial
  have vb:VOnly (noE (P8 env vs)):=VOnly.noE
  generalize noE (P8 env vs)=eb at z Sb vb
  refine ⟨fun j m H'=> l.length≤j+m∧Sta Hl H'∧(∀p o,Hl p=some o→∃u,H' p=some u)∧TabsK G.K H'∧∃acc ka,H' D=some (.dK ka)∧ka.map (·.1)=acc.map (fun p=> Sum.inr p.1)∧RepL G.K H' (acc.map (·.2)) (ka.map (·.2))∧
    dcL a b tk tv (fun acc=> ∀v H',BS G env h σ H'→Xt env h σ H env h H'→RvRep G env h σ H' (.own (.map (smap acc))) v→R3 H (.own (.map (smap acc))) v→Q v H') eb (l.drop j) acc,
    ⟨l.length,by omega,?_,?_,?_,[],[],upd_same,rfl,.nil,by simpa using z⟩,?_⟩
  · exact fun p o e _=> by rw [upd_ne (fun z=> by rw [z,nD] at e;cases e)];exact e
  · exact fun p o e=> ⟨o,by rw [upd_ne (fun z=> by rw [z,nD] at e;cases e)];exact e⟩
  · exact Sb.tabs.upd fun o z=> by rw [nD] at z;cases z
  rintro j m H2 ⟨hm,st2,th2,tb2,acc,ka,d2,ka1,ka2,ze⟩
  have hq2:H2 q=some (.frz od (.dK kq)):=st2 q _ hlq (fun _ z=> by cases z)
  cases el:l[j]? with
  | none=>
    have hl:=List.getElem?_eq_none_iff.mp el
    rw [List.drop_eq_nil_of_le hl] at ze
    refine .inl ⟨⟨hq2,by omega⟩,hq2,?_⟩
    have sta:Sta H (upd H2 q (.dK kq)):=fun p o e t=> by
      by_cases np:p=q
      · subst np;rw [e0] at e;cases e;exact upd_same
      · rw [upd_ne np];exact st2 p o (by rw [hln p np];exact e) t
    have th:∀p o,H p=some o→∃u,upd H2 q (.dK kq) p=some u:=fun p o e=> by
      by_cases np:p=q
      · subst np;exact ⟨_,upd_same⟩
      · obtain ⟨u,eu⟩:=th2 p o (by rw [hln p np];exact e)
        exact ⟨u,by rw [upd_ne np];exact eu⟩
    obtain ⟨S3,x3⟩:=S.same sta th (tb2.unlock hq2 (fun _ z=> by cases z) (fun _ z=> by cases z))
    obtain ⟨n1,n2,n3⟩:=S.noAt hD
    have up:∀p o,H2 p=some o→Imm o→p≠q→upd H2 q (.dK kq) p=some o:=fun p o e _ n=> by rw [upd_ne n];exact e
    exact ze.2 (.ref D) _ S3 x3 ⟨D,rfl,A8w (by rw [upd_ne nDq];exact d2) ka1 (RepL.unlock hq2 up _ _ ze.1 ka2),n1,n2,n3⟩ fun p ep=> by cases ep;exact hD
  | some p=>
    obtain ⟨hl,ew⟩:=List.getElem?_eq_some_iff.mp el
    have ed:l.drop j=p::l.drop (j+1):=by rw [List.drop_eq_getElem_cons hl,ew]
    rw [ed] at ze
    refine .inr ⟨⟨hq2,by omega⟩,fun H'=> Sta Hl H'∧(∀p o,Hl p=some o→∃u,H' p=some u)∧TabsK G.K H'∧∃acc ka,H' D=some (.dK ka)∧ka.map (·.1)=acc.map (fun p=> Sum.inr p.1)∧RepL G.K H' (acc.map (·.2)) (ka.map (·.2))∧
      dcL a b tk tv (fun acc=> ∀v H',BS G env h σ H'→Xt env h σ H env h H'→RvRep G env h σ H' (.own (.map (smap acc))) v→R3 H (.own (.map (smap acc))) v→Q v H') eb (l.drop (j+1)) acc,fun H' n=> ⟨m - 1,by omega,by omega,n⟩,fun x H3 y=> ?_⟩
    obtain ⟨T,kk1,v1,ek,ex,nT,e3'⟩:=y
    subst ex e3'
    have ekey:kk1= .inr p.1:=by
      have z1:(kq.map (·.1))[j]? =some kk1:=by rw [List.getElem?_map,ek];rfl
      rw [e1,List.getElem?_map,el] at z1
      exact (Option.some.inj z1).symm
    subst ekey
    have rv1:Rep G.K Hl p.2 v1:=by
      obtain ⟨u,y1,y2⟩:=e2.get (i:=j) (w:=p.2) (by rw [List.getElem?_map,el];rfl)
      rw [List.getElem?_map,ek] at y1
      cases y1;exact Rep.mono k1 _ _ y2
    have nw:New H2 (upd H2 T (.tup [kV (.inr p.1),v1])):=New.upd nT
    have st3:Sta Hl (upd H2 T (.tup [kV (.inr p.1),v1])):=fun p o e t=> nw p o (st2 p o e t)
    refine ⟨T,_,rfl,.inl (.inl upd_same),rfl,_,_,rfl,_,_,rfl,rfl,?_⟩
    obtain ⟨S3,_⟩:=Sb.same st3 (fun p o e=> let ⟨u,q⟩:=th2 p o e;⟨u,nw p u q⟩) (tb2.keep fun a o e _=> nw a o e)
    have S4:=S3.set (r:= .val (.str p.1)) a (show Rep G.K (upd H2 T (.tup [kV (.inr p.1),v1])) (.str p.1) (kV (.inr p.1)) from .str) trivial
    have S5:=S4.set (r:= .val p.2) b (show Rep G.K (upd H2 T (.tup [kV (.inr p.1),v1])) p.2 v1 from Rep.mono st3.keeps _ _ rv1) trivial
    have vo:VOnly (A1E a b eb p):=vb.set.set
    refine ⟨?_,?_⟩
    · have w1:∀(ρ:L2.St) (c:Nat) (v:V),c∈vs→wipe (ρ.set c (some v)) vs=wipe ρ vs:=fun ρ c v hc=> by
        refine List.ext_getElem? fun i=> ?_
        by_cases hi:i∈vs
        · rw [A3T hi,A3T hi,List.length_set]
        · rw [p8 hi,p8 hi,List.getElem?_set_ne (fun z:c=i=> hi (by rw [←z];exact hc))]
      rw [w1 _ _ _ hab.2,w1 _ _ _ hab.1]
      refine List.ext_getElem? fun i=> ?_
      by_cases hi:i∈vs
      · rw [A3T hi,A3T hi,A35]
      · rw [p8 hi]
    simp only [tYes,if_true]
    refine ⟨⟨G.K,fun _=> none,Hl⟩,gk,A1E a b eb p,fun _=> none,S5,mk _ _ _ _ (fun w e4 g4 ⟨ee,z4⟩ y4 H4 S6 x4 r4=> ?_) ze⟩
    subst ee
    have S6':=S6.le (h':=fun _=> none) fun _ _ z=> by cases z
    refine ⟨⟨G.K,fun _=> none,Hl⟩,gk,A1E a b eb p,fun _=> none,S6',mv _ _ _ _ (fun u e5 g5 ⟨s5,es,hz,z5⟩ y5 H5 S7 x5 r5=> ?_) z4⟩
    subst es
    have ey:y4= .str s5:=Rep.of_str (K:=G.K) (H:=H4) r4
    have d5:H5 D=some (.dK ka):=by
      refine x5.fr D _ (x4.fr D _ (nw D _ d2) rfl vo.no (Mu.nt (o:= .dK ka) trivial)) rfl vo.no (Mu.nt (o:= .dK ka) trivial)
    have k5:Keeps H2 H5:=nw.keeps.trans ((x4.keeps S5).trans (x5.keeps S6'))
    have kl:ka.length=acc.length:=by have:=congrArg List.length ka1;simpa using this
    refine ⟨ka,.inr s5,ey,d5,by omega,?_,?_,?_,m6 acc s5 u,_,upd_same,?_⟩
    · exact fun p o e t=> by rw [upd_ne (fun z=> by rw [z,nD] at e;cases e)];exact S7.fr p o e rfl t
    · exact fun p o e=> by rw [upd_ne (fun z=> by rw [z,nD] at e;cases e)];exact S7.tr p o e
    · exact S7.tabs.upd fun o z=> by rw [d5] at z;cases z;trivial
    · have kp:Keeps H5 (upd H5 D (.dK (putK ka (.inr s5) y5))):=fun p o e i=> by
        rw [upd_ne (fun z=> by rw [z,d5] at e;cases e;exact i.elim)];exact e
      obtain ⟨y1,y2⟩:=B4g (s:=s5) ka1 (RepL.mono (k5.trans kp) _ _ ka2) (Rep.mono kp u y5 r5)
      exact ⟨y1,y2,z5⟩
end
end Ab
namespace Ab
open PySem PySem.Spec PyProof.Rows L2 RZ
abbrev EF:XK:=fun _ _ _=> False
theorem B1W {X:Cx} {σ:L2.St}:PassesAt (L2.CX X.prog X.w) X σ EF:=fun _ _ _ _ _ _ ⟨_,_,_,_,_,_,_,_,_,_,_,_,z⟩=> False.elim z
section
variable {X:Cx} {CX:CXT} {k:Nat} {f C:Addr} {fd:FuncData} {ps:List Str} {sp:Sp} {E:XK}
theorem B42 {pins:List (Addr×Obj)} {σ:L2.St} {H:Hp} {s:Shared} {Q:VK} {us:List Value} {vs:List V} (F:FnOk X.prog X.w X.K X.mg X.base CX k f fd ps sp) (hr:Room (k+1) X.A) (hb:Binds X.K fd ps []) (hx:PassesAt CX X σ E)
    (I:Inv X pins σ H s) (r:Vals vs us) (h:sp vs H Q E):wpAny (model X.prog X.w) X.A.in1 (call (.ref f) us) (EP X pins σ Q) X.xe s:=by
  have hl:us.length=ps.length:=by rw [←r.length];exact F.len _ _ _ _ h
  refine wpAny_call (codeAny_mono (F.run X.A.in1 X.stack s H ⟨us,[]⟩ us vs Q E hr.in1 I.env0.in1 (by have z:=hb s us I.kIn (by rw [List.append_nil];exact hl);rw [List.append_nil] at z;exact z) r h) fun r s' hq=> ?_)
  cases r with
  | error e=> exact hx pins H s e s' I hq
  | ok fl=> cases fl <;> first | exact I.after hq | exact False.elim hq
def B10 (C:Addr) (sp:Sp) (neg:Bool):R2:=fun x y H Q=> ∃a b dx dy fs gs,x= .ref a∧y= .ref b∧H a=some (.ins C dx fs)∧H b=some (.ins C dy gs)∧sp [.ref a,.ref b] H (fun v H'=> ∃k:Bool,v= .bl k∧Q (.bl (if neg=true then !k else k)) H') EF
theorem B6F (F:FnOk X.prog X.w X.K X.mg X.base (L2.CX X.prog X.w) k f fd ps sp) (M:Meth X.K C "__eq__" f) (hr:Room k X.A) (hb:Binds X.K fd ps []):OpR X (compareOp .Eq) (B10 C sp false):=by
  intro pins s σ H x y u v Q I rx ry h
  obtain ⟨a,b,dx,dy,fs,gs,rfl,rfl,ea,eb,q⟩:=h
  obtain rfl:u=Value.ref a:=rx
  obtain rfl:v=Value.ref b:=ry
  obtain ⟨mA,J,_⟩:=ins_get I.hok ea
  obtain ⟨mB,J',_⟩:=ins_get I.hok eb
  obtain ⟨od,J,_⟩:=J.look
  obtain ⟨od',J',_⟩:=J'.look
  obtain ⟨m,hF⟩:=I.fr
  show wpAny (model X.prog X.w) X.A (richCompare .Eq (.ref a) (.ref b)) _ _ _
  refine PySem.W.cmp_K (op:= .Eq) (tb:= .ref C) hr.units0 hF I.ok.mod.kin J J'.type (by simp [PySem.W.notFirst]) M.at_ M.fn (thn (run_fnSD (us:=[.ref a,.ref b]) (vs:=[.ref a,.ref b]) (dvs:=[]) (ds:=[]) (E:=fun _=> EF) F hr hb .nil B1W I (.cons rfl (.cons rfl .nil)) q) fun u s' ⟨v,H',I',rv,k,ev,q⟩=> ?_)
  subst ev
  obtain rfl:u=Value.bool k:=rv
  exact ⟨.bl _,H',I',rfl,q⟩
open Builtin in
theorem B4W {M:Model} {A:Around} {E:Value→Shared→Prop} {s:Shared} {K:PySem.W.Frag} {x C:Addr} {ox:Obj} {od:Option Obj} {name:Str} {id:String} {args:List Value} {Q:Option Value→Shared→Prop} (X:K.In s.heap) (I:PySem.W.InstAt s.heap x ox C od)
    (hs:PySem.W.findIn K (.ref C) name=some (some (.builtin id))) (hb:∀self,bindSpecial (.builtin id) self=pure (.builtin id,[self])) (h:wpAny M A (call (.builtin id) (.ref x::args)) (fun v=> Q (some v)) E s):wpAny M A (callSpecialIfBound? (.ref x) name args) Q E s:=by
  simp only [callSpecialIfBound?,bindSpecialIfBound?]
  refine wpAny_holding (wpAny_bind (wpAny_bind (wpAny_bind (I.type.here ((PySem.W.looks_findIn X hs).here ?_)))))
  refine wpAny_bind (wpAny_askSetting (wpAny_ite ?_))
  have fin:wpAny M A (call (.builtin id) ([.ref x]++args) >>=fun v=> pure (some v)) Q E s:=wpAny_bind (wpAny_mono h (fun v s' h'=> wpAny_pure h') fun _ _ h'=> h')
  split
  · exact wpAny_bind ((PySem.W.Looks.of_pure (hb _)).here (wpAny_pure (by exact fin)))
  · exact wpAny_tryCatch (wpAny_bind ((PySem.W.Looks.of_pure (hb _)).here (wpAny_pure (by exact fin))))
structure NeOk (K:PySem.W.Frag) (C:Addr):Prop where
  ne:PySem.W.findIn K (.ref C) "__ne__"=some (some (.builtin "object.__ne__"))
  mr:PySem.W.mroIn K C (.type "object")=some true
open Builtin in
theorem C59 {prog:Program} {w:World} {A:Around} {E:Value→Shared→Prop} {s:Shared} {K:PySem.W.Frag} {x y C f:Addr} {ox oy:Obj} {od od':Option Obj} {Q:Value→Shared→Prop} (hu:A.units+1 < cLine) (X:K.In s.heap)
    (I:PySem.W.InstAt s.heap x ox C od) (I':PySem.W.InstAt s.heap y oy C od') (N:NeOk K C) (hs:PySem.W.findIn K (.ref C) "__eq__"=some (some (.ref f))) (hf:PySem.W.isFn K (.ref f)=true)
    (h:wpAny (model prog w) A.in1 (call (.ref f) [.ref x,.ref y]) (fun v s'=> ∃b,v= .bool b∧Q (.bool (!b)) s') E s):wpAny (model prog w) A (richCompare .NotEq (.ref x) (.ref y)) Q E s:=by
  have hu0:A.units < cLine:=by omega
  have body:wpAny (model prog w) A.in1 (Builtin.«object.__ne__» ⟨[.ref x,.ref y],[]⟩) (fun fin s'=> ∃v,fin= .done (.ret v)∧∃b,v= .bool b∧Q v s') E s:=by
    unfold Builtin.«object.__ne__»
    repeat (first
      | with_reducible refine wpAny_cRoomFor (show A.in1.units < cLine from hu) ?_
      | (refine wpAny_bind (m:=callSpecialIfBound? (.ref x) (Str.ofString "__eq__") [.ref y])
          (PySem.W.ifBound_K X I hs hf (wpAny_mono h (fun r s' hr=> by
            obtain ⟨b,rfl,hq⟩:=hr
            repeat (first | exact ⟨_,rfl,_,rfl,hq⟩ | exact wpAny_pure ⟨_,rfl,_,rfl,hq⟩ | exact wpAny_truthy_bool ⟨_,rfl,_,rfl,hq⟩ | (refine wpAny_bind (m:=truthy (.bool _)) (wpAny_truthy_bool ?_)) | wp_step)) fun _ _ e=> e)))
      | wp_step)
  have one:wpAny (model prog w) A (tryCompare (.ref x) "__ne__" (.ref y)) (fun r s'=> ∃v,r=some v∧Q v s') E s:=by
    unfold tryCompare
    refine wpAny_bind (B4W X I N.ne (fun self=> rfl) (wpAny_call (codeAny_call_builtin PySem.F.cmp_object.ne.plain PySem.F.cmpEntry_ne (PySem.W.check_slot (i:="object.__ne__") (owner:="object") (n:="__ne__") PySem.F.cmpKind_ne PySem.F.cmpSplit_ne (I.type.andThen (PySem.W.looks_mroIn X N.mr)) (PySem.F.cmpArgs_ne _ _) (wpAny_mono body (fun fin s' z=> ?_) fun _ _ z=> z)))))
    obtain ⟨v,rfl,b,rfl,q⟩:=z
    exact wpAny_pure ⟨_,rfl,q⟩
  unfold richCompare
  simp only [oneThing_ref]
  refine wpAny_holding (wpAny_bind (wpAny_cRoomFor hu0 ?_))
  rw [cmpInfo_NotEq]
  dsimp only
  refine wpAny_bind (I.type.here (wpAny_bind (I'.type.here ?_)))
  rw [show (Value.ref C !=Value.ref C)=false from by simp]
  simp only [Bool.false_eq_true,if_false]
  refine wpAny_bind (wpAny_pure ?_)
  simp only [Bool.false_eq_true,if_false]
  refine wpAny_bind (wpAny_mono one (fun r s' z=> ?_) fun _ _ e=> e)
  obtain ⟨v,rfl,hq⟩:=z
  exact wpAny_pure hq
end
end Ab
namespace Ab
open PySem PySem.Spec PyProof.Rows L2 RZ
def aOwn (C:Str) (sp:I9) (po:RR→(RV→Prop)→Prop) (to:AT):AT:=fun env h Q=> to env h fun r env1 h1=> ∃a fs,r= .val (.ref a)∧h1 a=some (.ins C fs)∧sp [.ref a] h1 (fun x h2=> po x fun y=> Q y env1 h2) fun _ _=> False
def C42 (po:RR→(RV→Prop)→Prop):Prop:=∀r K K',(∀y,K y→K' y)→po r K→po r K'
theorem aOwn.mono {C:Str} {sp:I9} {po:RR→(RV→Prop)→Prop} {to:AT} (sm:R0 sp) (pm:C42 po) (m:B9 to):B9 (aOwn C sp po to):=fun env h Q Q' k q=>
  m env h _ _ (fun r e g ⟨a,fs,z1,z2,z⟩=> ⟨a,fs,z1,z2,sm _ _ _ _ _ _ (fun x f y=> pm _ _ _ (fun y' z=> k _ _ _ z) y) (fun _ _ z=> z) z⟩) q
section
variable {X:Cx} {G:Gx} {sp:I9} {C:Str} {st:Stmt} {k j:Nat} {ps:List Str} {o o2:Expr} {p pos:Pos} {to t2:AT}
def aEqO (C:Str) (neg:Bool) (sp:I9) (ta tb:AT):AT:=fun env h Q=> ta env h fun r env1 h1=> tb env1 h1 fun r2 env2 h2=> ∃a b fs gs,r= .val (.ref a)∧r2= .val (.ref b)∧h2 a=some (.ins C fs)∧h2 b=some (.ins C gs)∧
  sp [.ref a,.ref b] h2 (fun x h3=> ∃k:Bool,x= .val (.bl k)∧Q (.val (.bl (if neg=true then !k else k))) env2 h3) fun _ _=> False
theorem aEqO.mono {C:Str} {neg:Bool} {sp:I9} {ta tb:AT} (sm:R0 sp) (m:B9 ta) (n:B9 tb):B9 (aEqO C neg sp ta tb):=fun env h Q Q' k q=>
  m env h _ _ (fun r e g z=> n e g _ _ (fun r2 e2 g2 ⟨a,b,fs,gs,z1,z2,z3,z4,z⟩=> ⟨a,b,fs,gs,z1,z2,z3,z4,sm _ _ _ _ _ _ (fun x f ⟨b,y1,y2⟩=> ⟨b,y1,k _ _ _ y2⟩) (fun _ _ z=> z) z⟩) z) q
theorem B0F {neg:Bool} {σ:L2.St} {H:Hp} {Q:VK} (gk:G.K=X.K) (sm:R0 sp) (mo:B9 to) (m2:B9 t2) (q:cE G (aEqO C neg sp to t2) σ H Q):tOp (B10 (He.ga X.K C) (O9 G.K 2 sp) neg) (cE G to) (cE G t2) σ H Q:=by
  obtain ⟨env,h,S,q⟩:=q
  refine ⟨env,h,S,mo env h _ _ (fun r env1 h1 z x H1 S1 x1 r1 _=> ?_) q⟩
  refine ⟨env1,h1,S1,m2 env1 h1 _ _ (fun r2 env2 h2 ⟨a,b,fs,gs,z1,z2,z3,z4,zz⟩ y H2 S2 x2 rr2 _=> ?_) z⟩
  subst z1 z2
  have ex:x= .ref a:=Rep.of_ref (K:=G.K) (H:=H1) r1
  have ey:y= .ref b:=Rep.of_ref (K:=G.K) (H:=H2) rr2
  subst ex ey
  obtain ⟨dx,vs,ea,_⟩:=S2.hp a _ z3
  obtain ⟨dy,us,eb,_⟩:=S2.hp b _ z4
  refine ⟨a,b,dx,dy,vs,us,rfl,rfl,gk▸ea,gk▸eb,[.ref a,.ref b],h2,_,_,rfl,S2.hp,S2.tabs,.cons .ref (.cons .ref .nil),zz,fun r h' v H' ⟨kb,e,y⟩ c rr=> ?_,fun _ _ _ _ _ z _ _=> z.elim⟩
  obtain ⟨S3,x3⟩:=S2.after c
  subst e
  exact ⟨kb,Rep.of_bl (K:=G.K) (H:=H') rr,y _ H' S3 (x1.trans (x2.trans x3)) (show Rep G.K H' (.bl (if neg=true then !kb else kb)) _ from .bl) trivial⟩
theorem C1h {neg:Bool} {σ:L2.St} {H:Hp} {Q:Bool→Hp→Prop} (sm:R0 sp) (mo:B9 to) (m2:B9 t2) (q:cT G (aTst (aEqO C neg sp to t2)) σ H Q):cE G (aEqO C neg sp to t2) σ H fun v H'=> ∃b,v= .bl b∧Q b H':=by
  obtain ⟨env,h,S,q⟩:=q
  refine ⟨env,h,S,mo env h _ _ (fun r env1 h1 z=> m2 env1 h1 _ _ (fun r2 env2 h2 ⟨a,b,fs,gs,z1,z2,z3,z4,z⟩=> ⟨a,b,fs,gs,z1,z2,z3,z4,sm _ _ _ _ _ _ (fun x f ⟨kb,y1,y2⟩=> ⟨kb,y1,fun v H1 S1 x1 r1 _=> ?_⟩) (fun _ _ z=> z) z⟩) z) q⟩
  exact ⟨_,Rep.of_bl (K:=G.K) (H:=H1) r1,y2 H1 S1 x1⟩
theorem C4u {C f:Addr} {fd:FuncData} {sp:Sp} (F:FnOk X.prog X.w X.K X.mg X.base (L2.CX X.prog X.w) k f fd ps sp) (M:Meth X.K C "__eq__" f) (N:NeOk X.K C) (hr:Room (k+1) X.A) (hb:Binds X.K fd ps []):OpR X (compareOp .NotEq) (B10 C sp true):=by
  intro pins s σ H x y u v Q I rx ry h
  obtain ⟨a,b,dx,dy,fs,gs,rfl,rfl,ea,eb,q⟩:=h
  obtain rfl:u=Value.ref a:=rx
  obtain rfl:v=Value.ref b:=ry
  obtain ⟨mA,J,_⟩:=ins_get I.hok ea
  obtain ⟨mB,J',_⟩:=ins_get I.hok eb
  obtain ⟨od,J,_⟩:=J.look
  obtain ⟨od',J',_⟩:=J'.look
  show wpAny (model X.prog X.w) X.A (richCompare .NotEq (.ref a) (.ref b)) _ _ _
  refine C59 hr.in1.units0 I.kIn J J' N M.at_ M.fn (thn (B42 (us:=[.ref a,.ref b]) (vs:=[.ref a,.ref b]) F hr hb B1W I (.cons rfl (.cons rfl .nil)) q) fun u s' ⟨v,H',I',rv,k,ev,q⟩=> ?_)
  subst ev
  obtain rfl:u=Value.bool k:=rv
  exact ⟨k,rfl,.bl _,H',I',rfl,q⟩
section
variable (gk:G.K=X.K) (O:OkM X.prog X.w X.K X.mg X.base C "__eq__" st k 2 ps [] sp) (bd:V6 C "__eq__" st ps) (hr:Room j X.A) (kj:k+1≤j) (ho:AE X G o to) (h2:AE X G o2 t2)
include gk O bd hr kj ho h2
theorem A8U:AE X G (.Compare o [.Eq] [o2] pos) (aEqO C false sp to t2):=by
  obtain ⟨f,fd,M,FD,F⟩:=O.ex
  have F:FnOk X.prog X.w X.K X.mg X.base (L2.CX X.prog X.w) k f fd ps (O9 G.K 2 sp):=gk▸F
  exact ⟨aEqO.mono O.sm ho.mono h2.mono,PE.imp (pe_cmpR (B6F F M (hr.mono (by omega)) (FD.bindsN bd)) ho.pe h2.pe (nomark _)) fun σ H Q q=> B0F gk O.sm ho.mono h2.mono q⟩
theorem C4w:AP X G (.Compare o [.Eq] [o2] pos) (aTst (aEqO C false sp to t2)):=by
  obtain ⟨f,fd,M,FD,F⟩:=O.ex
  have F:FnOk X.prog X.w X.K X.mg X.base (L2.CX X.prog X.w) k f fd ps (O9 G.K 2 sp):=gk▸F
  exact ⟨aTst.mono (aEqO.mono O.sm ho.mono h2.mono),PT.imp (pt_cmpR (B6F F M (hr.mono (by omega)) (FD.bindsN bd)) ho.pe h2.pe (nomark _)) fun σ H Q q=> B0F gk O.sm ho.mono h2.mono (C1h O.sm ho.mono h2.mono q)⟩
theorem C4j (N:NeOk X.K (He.ga X.K C)):AE X G (.Compare o [.NotEq] [o2] pos) (aEqO C true sp to t2):=by
  obtain ⟨f,fd,M,FD,F⟩:=O.ex
  have F:FnOk X.prog X.w X.K X.mg X.base (L2.CX X.prog X.w) k f fd ps (O9 G.K 2 sp):=gk▸F
  exact ⟨aEqO.mono O.sm ho.mono h2.mono,PE.imp (pe_cmpR (C4u F M N (hr.mono kj) (FD.bindsN bd)) ho.pe h2.pe (nomark _)) fun σ H Q q=> B0F gk O.sm ho.mono h2.mono q⟩
end
structure IsO (K:PySem.W.Frag) (mg:Str→Option Value) (n C:Str) (b:Bool):Prop where
  gl:mg C=some (.ref (He.ga K C))
  cl:Cls K (He.ga K n)
  ca:PySem.W.findIn K (.ref (He.ga K n)) "__class__"=some (some (.builtin "object.__class__"))
  cn:PySem.W.specialIn K (.builtin "object.__class__") "__get__"=some (some (.builtin "getset_descriptor.__get__"))
  ct:PySem.W.takesIn K (.builtin "object.__class__")=some true
  cm:PySem.W.mroIn K (He.ga K n) (.type "object")=some true
  ko:PySem.W.kitOne K (.ref (He.ga K n)) (.ref (He.ga K C))=some b
  kl:PySem.W.kitOne K (.type "list") (.ref (He.ga K C))=some false
  kt:PySem.W.kitOne K (.type "tuple") (.ref (He.ga K C))=some false
  ks:PySem.W.kitOne K (.type "str") (.ref (He.ga K C))=some false
def A80:W→Prop
  | .lst _=> True
  | .tup _=> True
  | .str _=> True
  | _=> False
def B1o (n:Str) (b:Bool) (to:AT):AT:=fun env h Q=> to env h fun r env1 h1=> (∃a fs,r= .val (.ref a)∧h1 a=some (.ins n fs)∧Q (.val (.bl b)) env1 h1)∨∃w,r= .val w∧A80 w∧Q (.val (.bl false)) env1 h1
theorem B44 {K:PySem.W.Frag} {H:Hp} {w:W} {v:V} (s:A80 w) (r:Rep K H w v):TyX K H v (.type "list")∨TyX K H v (.type "tuple")∨TyX K H v (.type "str"):=by
  cases w with
  | lst ws=>
    obtain ⟨a,vs,rfl,⟨o,e⟩,_⟩:=r.of_lst
    exact .inl (.base (.frz e))
  | tup ws=>
    obtain ⟨a,vs,rfl,e | ⟨_,o,its,n,e,c,_⟩,_⟩:=r.of_tupT
    · exact .inr (.inl (.base (.tup e)))
    · exact .inr (.inl (.kTuple e c))
  | str x=>
    obtain rfl:=r.of_str
    exact .inr (.inr (.base (.str x)))
  | _=> exact s.elim
theorem C4D {n:Str} {b:Bool} {p2:Pos} (gk:G.K=X.K) (N:IsO X.K X.mg n C b) (hg:Gl X "isinstance") (hm:X.mg "isinstance"=none) (hgC:Gl X C) (ho:AE X G o to) (hdb:(C==("__debug__":Str))=false:=by decide)
    (hs:starEach [o,.Name C p2] X.env=(false,eval o X.env)::starEach [.Name C p2] X.env:=by rfl) (hs2:starEach [.Name C p2] X.env=(false,eval (.Name C p2) X.env)::starEach [] X.env:=by rfl):
    AE X G (.Call (.Name "isinstance" p) [o,.Name C p2] [] pos) (B1o n b to):=by
  refine ⟨fun env h Q Q' k q=> ho.mono env h _ _ (fun r e g z=> z.imp (fun ⟨a,fs,z1,z2,z⟩=> ⟨a,fs,z1,z2,k _ _ _ z⟩) fun ⟨w,z1,z2,z⟩=> ⟨w,z1,z2,k _ _ _ z⟩) q,PE.imp (pe_callB call_isi hg hm v8 (pa_cons ho.pe (pa_cons (pe_glob (v:= .ref (He.ga X.K C)) hgC N.gl rfl hdb) pa_nil hs2) hs) (by decide) (by decide) hs (by rw [hs2,show starEach [] X.env=[] from rfl];rfl)) fun σ H Q ⟨env,h,S,q⟩=> ?_⟩
  refine ⟨env,h,S,ho.mono env h _ _ (fun r env1 h1 z x H1 S1 x1 r1 _=> ?_) q⟩
  rcases z with ⟨a,fs,z1,z2,z⟩ | ⟨w,z1,z2,z⟩
  rotate_left
  · subst z1
    have ty:=B44 (K:=G.K) (H:=H1) z2 r1
    rw [gk] at ty
    rcases ty with ty | ty | ty
    · exact ⟨_,_,_,_,false,rfl,.own _,ty,N.kl,z (.bl false) H1 S1 x1 (show Rep G.K H1 (.bl false) _ from .bl) trivial⟩
    · exact ⟨_,_,_,_,false,rfl,.own _,ty,N.kt,z (.bl false) H1 S1 x1 (show Rep G.K H1 (.bl false) _ from .bl) trivial⟩
    · exact ⟨_,_,_,_,false,rfl,.own _,ty,N.ks,z (.bl false) H1 S1 x1 (show Rep G.K H1 (.bl false) _ from .bl) trivial⟩
  subst z1
  have ex:x= .ref a:=Rep.of_ref (K:=G.K) (H:=H1) r1
  subst ex
  obtain ⟨dx,vs,ea,_⟩:=S1.hp a _ z2
  exact ⟨_,_,_,_,b,rfl,.own _,.base (.ins (gk▸ea) N.cl N.ca N.cn N.ct N.cm),N.ko,z (.bl b) H1 S1 x1 (show Rep G.K H1 (.bl b) _ from .bl) trivial⟩
end
end Ab
namespace Ab
open PySem PySem.Spec PyProof.Rows L2 RZ
def KwA (m q:Str) (st:Stmt) (ps ks:List Str) (n0:Nat) (perm:List Nat):Prop:=∀(kV doc pm:Value) (an:Option Addr) (cdv ct:Value) (us ws:List Value),us.length=n0→ws.length=ks.length→
  bindArgs (PySem.W.fnOf m q (defArgs st) (defBody st) (defScope st) .none kV doc pm an cdv ct) ⟨us,ks.zip ws⟩=pure (ps.zip (perm.map fun i=> (us++ws).getD i .none))
def MB (m q:Str) (st:Stmt) (kws:List (Str×V)) (ps ks:List Str) (n0:Nat) (perm:List Nat) (mz:List V):Prop:=∀(K:PySem.W.Frag) (f:Addr) (fd:FuncData),FunD K m q (defArgs st) (defBody st) (defScope st) [] kws f fd→
  ∃mv:List Value,KBn K fd ps n0 ks (fun us ws=> perm.map fun i=> (us++(ws++mv)).getD i .none) (fun vs zs=> perm.map fun i=> (vs++(zs++mz)).getD i .non)
theorem C02 {perm:List Nat} {vs zs mz:List V} {us ws mv:List Value} (r1:Vals vs us) (r2:Vals zs ws) (rk:Vals mz mv):Vals (perm.map fun i=> (vs++(zs++mz)).getD i V.non) (perm.map fun i=> (us++(ws++mv)).getD i Value.none):=by
  have r:=B0I r1 (B0I r2 rk)
  induction perm with
  | nil=> exact .nil
  | cons i t ih=> exact .cons (Vals.getD' i r) ih
theorem C4S {m q:Str} {st:Stmt} {ps ks:List Str} {n0:Nat} {perm:List Nat} (h:KwA m q st ps ks n0 perm):MB m q st [] ps ks n0 perm []:=fun K f fd F=> by
  obtain ⟨oc,od,dV,kV,doc,pm,an,cdv,ct,osl,rfl,lk,hcd,hD,hK⟩:=F.ex
  rcases hD with ⟨_,rfl⟩ | ⟨e,_⟩
  · refine ⟨[],⟨fun s us ws X l1 l2=> ?_,fun {vs us zs ws} r1 r2=> C02 r1 r2 .nil⟩⟩
    have z:=h kV doc pm an cdv ct us ws l1 l2
    simp only [List.append_nil]
    exact .of_eq z
  · exact absurd rfl e
def aMethM (C m:Str) (E:AExc→A1→AH→Prop) (sp:I9) (N:Nat) (gW:List W→List W→List W) (to:AT) (t tk:I6):AT:=fun env h Q=> to env h fun r env1 h1=> ∃a fs,r= .val (.ref a)∧h1 a=some (.ins C fs)∧fs.lookup m=none∧
  t env1 h1 fun ws env2 h2=> tk env2 h2 fun zs env3 h3=> (gW (.ref a::ws) zs).length=N∧sp (gW (.ref a::ws) zs) h3 (kRes Q env3) fun x h4=> E x env3 h4
theorem aMethM.mono {C m:Str} {E:AExc→A1→AH→Prop} {sp:I9} {N:Nat} {gW:List W→List W→List W} {to:AT} {t tk:I6} (sm:R0 sp) (a:B9 to) (b:B9 t) (c:B9 tk):B9 (aMethM C m E sp N gW to t tk):=fun env h Q Q' k q=>
  a env h _ _ (fun r e g ⟨p,fs,z1,z2,z3,z4⟩=> ⟨p,fs,z1,z2,z3,b e g _ _ (fun ws e2 g2 z=> c e2 g2 _ _ (fun zs e3 g3 z=> ⟨z.1,sm _ _ _ _ _ _ (fun r f y=> kRes.imp k r f y) (fun x f y=> y) z.2⟩) z) z4⟩) q
def aMakeM (C:Str) (E:AExc→A1→AH→Prop) (sp:I9) (N:Nat) (gW:List W→List W→List W) (t tk:I6):AT:=fun env h Q=> t env h fun ws env1 h1=> tk env1 h1 fun zs env2 h2=> (∀a:Addr,(gW (.ref a::ws) zs).length=N)∧∀a,h2 a=none→sp (gW (.ref a::ws) zs) (C6 h2 a (.ins C [])) (kMk Q env2 a) fun x h3=> E x env2 h3
theorem aMakeM.mono {C:Str} {E:AExc→A1→AH→Prop} {sp:I9} {N:Nat} {gW:List W→List W→List W} {t tk:I6} (sm:R0 sp) (b:B9 t) (c:B9 tk):B9 (aMakeM C E sp N gW t tk):=fun env h Q Q' k q=>
  b env h _ _ (fun ws e g z=> c e g _ _ (fun zs e g z=> ⟨z.1,fun a n=> sm _ _ _ _ _ _ (fun r f y=> ⟨y.1,k _ _ _ y.2⟩) (fun x f y=> y) (z.2 a n)⟩) z) q
theorem C2z {n0 m0 N:Nat} {perm:List Nat} {ds ws zs:List W} (h0:0 < perm.length) (z:(gMx n0 m0 perm ds ws zs).length=perm.length):ws.length=n0∧zs.length=m0:=by
  unfold gMx A89 at z
  split at z
  · rename_i hc
    simpa using hc
  · simp at z
    omega
section
variable {X:Cx} {G:Gx} {sp:I9} {C m:Str} {st:Stmt} {k j n0:Nat} {ps ks:List Str} {kws0:List (Str×V)} {mz:List V} {ds:List W} {o e:Expr} {es:List Expr} {kws:List Keyword} {pos apos p:Pos} {to:AT} {t tk:I6} {E:AExc→A1→AH→Prop} {perm:List Nat}
theorem C0j {CX:CXT} {n:Nat} {C f:Addr} {fd:FuncData} {sp:Sp} {E:XK} {g:List Value→List Value→List Value} {gV:List V→List V→List V} {pins:List (Addr×Obj)} {σ:L2.St} {H:Hp} {s:Shared} {Q:VK} {us ws:List Value} {vs zs:List V} (M:Mk X.K C f) (F:FnOk X.prog X.w X.K X.mg X.base CX k f fd ps sp) (hr:Room (k+1) X.A) (hb:KBn X.K fd ps (n+1) ks g gV) (hx:PassesAt CX X σ E)
    (I:Inv X pins σ H s) (r:Vals vs us) (rz:Vals zs ws) (l1:vs.length=n) (l2:zs.length=ks.length)
    (h:∀x dx,H x=none→H dx=none→dx≠x→sp (gV (.ref x::vs) zs) (upd (upd H dx (.own x)) x (.ins C dx [])) (fun v H2=> v= .non∧Q (.ref x) H2) E):
    wpAny (model X.prog X.w) X.A (call (.ref C) us (ks.zip ws)) (EP X pins σ Q) X.xe s:=by
  have hq:=h (s.heap.objs.size+1) s.heap.objs.size (I.hok.fresh (Nat.le_succ _)) (I.hok.fresh (Nat.le_refl _)) (Nat.ne_of_lt (Nat.lt_succ_self _))
  have I2:=Inv.made (C:=C) I
  have r1:Vals (V.ref (s.heap.objs.size+1)::vs) (Value.ref (s.heap.objs.size+1)::us):= .cons rfl r
  have r2:=hb.rel r1 rz
  have n1:(Value.ref (s.heap.objs.size+1)::us).length=n+1:=by
    rw [List.length_cons,←r.length,l1]
  refine wpAny_call (make_map (f:=f) I.kIn M.makes M.init (beq_iff_eq.mp M.fn) (codeAny_mono (F.run _ X.stack _ _ ⟨Value.ref (s.heap.objs.size+1)::us,ks.zip ws⟩ (g (Value.ref (s.heap.objs.size+1)::us) ws) _ _ E (hr.make C us (ks.zip ws))
    (I2.env0.make C us (ks.zip ws)) (hb.to _ (Value.ref (s.heap.objs.size+1)::us) ws I2.kIn n1 (rz.length.symm.trans l2)) r2 hq) fun r s' hq'=> ?_))
  cases r with
  | error e=> exact hx pins _ _ e s' I2 hq'
  | ok fl=>
    cases fl with
    | ret u=>
      obtain ⟨v,H',I3,rv,ev,q3⟩:=I2.after hq'
      subst ev
      exact ⟨rv,⟨V.ref (s.heap.objs.size+1),H',I3,rfl,q3⟩⟩
    | next=> exact False.elim hq'
    | brk=> exact False.elim hq'
    | cont=> exact False.elim hq'
theorem C0v {ws:Addr→List W} {vs:V→List V} {N:Nat} {env env1:A1} {h h1:AH} {σ:L2.St} {H H1:Hp} {Q:VK} (S1:BS G env1 h1 σ H1) (x1:Xt env h σ H env1 h1 H1) (r:∀(H':Hp) a,Keeps H1 H'→RepL G.K H' (ws a) (vs (.ref a)))
    (z:∀a,h1 a=none→(ws a).length=N∧sp (ws a) (C6 h1 a (.ins C [])) (kMk (fun r e g=> ∀v H',BS G e g σ H'→Xt env h σ H e g H'→RvRep G e g σ H' r v→R3 H r v→Q v H') env1 a) fun x h3=> E x env1 h3):
    ∀x dx,H1 x=none→H1 dx=none→dx≠x→O9 G.K N sp (vs (.ref x)) (upd (upd H1 dx (.own x)) x (.ins (He.ga G.K C) dx [])) (fun v H2=> v= .non∧Q (.ref x) H2) (WE (cW G E) σ):=fun a dx na nd ne=> by
  obtain ⟨ha,_,_⟩:=S1.noAt na
  obtain ⟨S2,x2⟩:=S1.made (C:=C) na nd ne
  refine ⟨ws a,_,_,_,(z a ha).1,S2.hp,S2.tabs,r _ a (x2.keeps S1),(z a ha).2,fun r h' v H' ⟨y1,y⟩ c rr=> ?_,fun x h' cls d H' y c xr=> ?_⟩
  · obtain ⟨S3,x3⟩:=S2.after c
    subst y1
    exact ⟨Rep.of_non (K:=G.K) (H:=H') rr,y (.ref a) H' S3 (x1.trans (x2.trans x3)) (show Rep G.K H' (.ref a) (.ref a) from .ref) trivial⟩
  · obtain ⟨S3,x3⟩:=S2.after c
    exact ⟨x,env1,h',S3,xr,y⟩
end
end Ab
namespace Ab
open PySem PySem.Spec PyProof.Rows L2 RZ
def A2m (l2:List (Str×W)):List (Str×W)→Bool
  | []=> true
  | p::r=> match l2.lookup p.1 with
    | none=> false
    | some u=> M8 p.2 u && A2m l2 r
def u8 (l:List (Str×W)):Bool:=l.all fun p=> p.2.dat 60
def B7C (K:PySem.W.Frag):R2:=fun x y H Q=> ∃(a b:Addr) (ks ls:List (Key×V)) (l1 l2:List (Str×W)),x= .ref a∧y= .ref b∧Rd H a (.dK ks)∧Rd H b (.dK ls)∧ks.map (·.1)=l1.map (fun p=> Sum.inr p.1)∧RepL K H (l1.map (·.2)) (ks.map (·.2))∧
  ls.map (·.1)=l2.map (fun p=> Sum.inr p.1)∧RepL K H (l2.map (·.2)) (ls.map (·.2))∧u8 l1=true∧u8 l2=true∧Q (.bl (l1.length==l2.length && A2m l2 l1)) H
theorem C3A {l:List (Str×W)} {s:Str} {w:W} (d:u8 l=true) (e:l.lookup s=some w):w.dat 60=true:=by
  induction l with
  | nil=> cases e
  | cons p l ih=>
    unfold u8 at d
    rw [List.all_cons,Bool.and_eq_true] at d
    obtain ⟨g,u⟩:=p
    simp only [List.lookup] at e
    split at e
    · cases e;exact d.1
    · exact ih d.2 e
section
variable {X:Cx} {pins:List (Addr×Obj)} {σ:L2.St} {H:Hp} {s:Shared}
theorem B52 (I:Inv X pins σ H s) {A:Around} (hu:A.units+60 < cLine) {l2:List (Str×W)} {ls:List (Key×V)} {vb:List (Key×Value)} (rb:KV ls vb) (k2:ls.map (·.1)=l2.map (fun p=> Sum.inr p.1)) (r2:RepL X.K H (l2.map (·.2)) (ls.map (·.2))) (d2:u8 l2=true):
    ∀{l1:List (Str×W)} {ks:List (Key×V)} {va:List (Key×Value)},KV ks va→ks.map (·.1)=l1.map (fun p=> Sum.inr p.1)→RepL X.K H (l1.map (·.2)) (ks.map (·.2))→u8 l1=true→PySem.W.KeqHits A s vb va (A2m l2 l1)
  | [],[],va,ra,_,_,_=> by cases ra;exact .nil
  | [],_::_,_,_,e,_,_=> by cases e
  | _::_,[],_,_,e,_,_=> by cases e
  | p::l1,q::ks,va,ra,e,r,d=> by
    rw [List.map_cons,List.map_cons] at e
    injection e with e1 e2
    obtain ⟨v',r1,e3,a,b⟩:=RepL.of_cons (w:=p.2) (ws:=l1.map (·.2)) r
    rw [List.map_cons] at e3
    injection e3 with e3 e4
    subst e3 e4
    unfold u8 at d
    rw [List.all_cons,Bool.and_eq_true] at d
    unfold KV at ra
    cases ra with
    | @cons _ qv _ vs h t=>
      obtain ⟨h1,h2⟩:=h
      obtain ⟨key,v⟩:=qv
      have h1':q.1=key:=h1
      have ek:key= .inr p.1:=by rw [←h1',e1]
      subst ek
      have rr:RelO (valV ls (.inr p.1)) (valueAt vb (.inr p.1)):=rb.val (.inr p.1)
      unfold A2m
      rcases A6O (s:=p.1) k2 r2 with ⟨x1,x2⟩ | ⟨w,u,x1,x2,ru⟩
      · rw [x1]
        rw [x2] at rr
        exact .miss rr.none_of
      · rw [x1]
        rw [x2] at rr
        obtain ⟨y,hy,ry⟩:=rr.some_of
        obtain ⟨as,q1⟩:=Dp.reads I _ _ _ (Rep.dp 60 p.2 q.2 a d.1) h2
        obtain ⟨bs,q2⟩:=Dp.reads I _ _ _ (Rep.dp 60 w u ru (C3A d2 x1)) ry
        have z:=Nat.min_le_left p.2.pd.depth w.pd.depth
        have z2:=W.dat_depth 60 p.2 d.1
        exact .hit hy (SeqAt.eqAt_plain _ _ A s v y as bs q1 q2 (W.pd_plain _) (W.pd_plain _) (by omega)) (B52 I hu rb k2 r2 d2 t e2 b d.2)
theorem C4p (hu:X.A.units+64 < cLine):OpR X (compareOp .Eq) (B7C X.K):=by
  intro pins s σ H x y v u Q I rx ry h
  obtain ⟨a,b,ks,ls,l1,l2,rfl,rfl,ea,eb,k1,r1,k2,r2,d1,d2,q⟩:=h
  obtain rfl:v=Value.ref a:=rx
  obtain rfl:u=Value.ref b:=ry
  obtain ⟨_,ya,va,ra,da⟩:=(show ObjOk X.prog X.w H s.heap a (.dK ks) from ea.ok I.hok)
  obtain ⟨_,yb,vb,rb,db⟩:=(show ObjOk X.prog X.w H s.heap b (.dK ls) from eb.ok I.hok)
  have la:va.length=l1.length:=by rw [←ra.length];have:=congrArg List.length k1;simpa using this
  have lb:vb.length=l2.length:=by rw [←rb.length];have:=congrArg List.length k2;simpa using this
  exact PySem.W.keq_eq (knd:=mixKind X.prog X.w) ya yb da db (by omega) (fun _=> B52 I (show X.A.in1.units+60 < cLine by show X.A.units+1+60 < cLine;omega) rb k2 r2 d2 ra k1 r1 d1) (fin_bl I q (by rw [la,lb]))
end
def oEqM:M7:=fun a b Q=> ∃l1 l2,a.toW=U7 l1∧b.toW=U7 l2∧u8 l1=true∧u8 l2=true∧Q (.val (.bl (l1.length==l2.length && A2m l2 l1)))
theorem oEqM.mono (a b:Vw) (Q Q':RV→Prop) (k:∀r,Q r→Q' r) (q:oEqM a b Q):oEqM a b Q':=
  let ⟨l1,l2,x1,x2,c,d,q⟩:=q
  ⟨l1,l2,x1,x2,c,d,k _ q⟩
theorem C2i {K:PySem.W.Frag}:OpA K (B7C K) oEqM:=
  ⟨oEqM.mono,fun a b x y H Q0 Q ra rb ⟨l1,l2,x1,x2,d1,d2,q⟩ k=> by
    obtain ⟨p,ks,ex,e0,e1,e2⟩:=ra.smap x1
    obtain ⟨p2,ls,ey,f0,f1,f2⟩:=rb.smap x2
    exact ⟨p,p2,ks,ls,l1,l2,ex,ey,e0,f0,e1,e2,f1,f2,d1,d2,k _ _ (.val q .bl)⟩⟩
def oNeM:M7:=fun a b Q=> ∃l1 l2,a.toW=U7 l1∧b.toW=U7 l2∧u8 l1=true∧u8 l2=true∧Q (.val (.bl (!(l1.length==l2.length && A2m l2 l1))))
theorem oNeM.mono (a b:Vw) (Q Q':RV→Prop) (k:∀r,Q r→Q' r) (q:oNeM a b Q):oNeM a b Q':=
  let ⟨l1,l2,x1,x2,c,d,q⟩:=q
  ⟨l1,l2,x1,x2,c,d,k _ q⟩
section
variable {X:Cx}
end
section
variable {X:Cx}
def B6d:R2:=fun x y H Q=> ∃l k xs,x= .ref l∧y= .int k∧Rd H l (.lst xs)∧ -(2 ^ 63)≤k∧k < 2 ^ 63∧xs.length*k.toNat≤sizeLine∧∀p,H p=none→Q (.ref p) (upd H p (.lst (List.replicate k.toNat xs).flatten))
theorem C3e:OpR X (binaryOp .Mult) B6d:=by
  intro pins s σ H x y v u Q I rx ry h
  obtain ⟨l,k,xs,rfl,rfl,hH,h1,h2,hz,q⟩:=h
  cases rx
  obtain ⟨t,rfl⟩:=ry
  obtain ⟨z,its,n,r,e⟩:=B0i I hH
  have hl:=r.length
  have hlen:its.toArray.size*k.toNat≤sizeLine:=by rw [List.size_toArray,←hl];exact hz
  have hcap:¬its.toArray.size*k.toNat > (2 ^ 63 - 1) / 8:=by
    have:(sizeLine:Nat)≤(2 ^ 63 - 1) / 8:=by decide
    omega
  have hfit:¬(!Builtin.List.listFitsIndex k)=true:=by
    rw [fitsIndex_both h1 h2]
    exact Bool.false_ne_true
  have hlong:¬Builtin.List.listTooLong (its.toArray.size*k.toNat)=true:=by
    rw [notLongL hlen]
    exact Bool.false_ne_true
  have hnew:List.foldl (fun x1 x2=> x1++x2) #[] (List.replicate (if its.toArray.isEmpty=true then 0 else k.toNat) its.toArray)=(List.replicate k.toNat its).flatten.toArray:=by
    have f0:∀m:Nat,List.foldl (fun x1 x2=> x1++x2) #[] (List.replicate m its.toArray)=(List.replicate m its).flatten.toArray:=fun m=> by
      have:=foldl_rep its m []
      rw [List.nil_append] at this
      exact this
    rw [f0]
    cases its with
    | nil=> simp
    | cons a r'=> rw [if_neg (by simp)]
  refine wpAny_binaryOp_repeat_ref (T:="list") (U:="int") (by decide) ⟨_,e,rfl⟩ (fun s'=> typeIs_int s' k t) noFill_list_mul F.fills_int_mul F.slot_int_rmul repeat_list F.slot_int_index.lookup
    (call_meets F.slot_int_rmul (typeIs_int s k t) F.entry_int_rmul (F.args_int_rmul_2 _ _) (int___rmul___int_list k t l its.toArray n)
      ⟨e,rfl,⟨_,e,rfl⟩,call_meets F.slot_list_mul ⟨_,e,rfl⟩ F.entry_list_mul (F.args_list_mul_2 _ _) (AutoListH.list___mul___list_int_3 l its.toArray n k t hfit hcap hlong) ⟨e,?_⟩⟩)
  rw [hnew]
  exact ⟨.ref _,_,I.lnew (t':=s.toks) (r.rep k.toNat) (by rw [PyProof.Rows.lm_len_rep_flat,Nat.mul_comm];exact hz),rfl,q _ I.fresh⟩
def A2S (x:Str) (n:Int):Str:=⟨(List.replicate n.toNat x.cps.toList).flatten.toArray⟩
def B6Z:R2:=fun x y H Q=> ∃a n,x= .str a∧y= .int n∧0≤n∧n≤1000∧a.length≤1000∧Q (.str (A2S a n)) H
theorem B3q (x:Array Nat):∀(n:Nat) (acc:Array Nat),(List.replicate n x).foldl (· ++ ·) acc=acc++(List.replicate n x.toList).flatten.toArray
  | 0,acc=> by simp
  | n+1,acc=> by
    rw [List.replicate_succ,List.foldl_cons,B3q x n,List.replicate_succ,List.flatten_cons]
    obtain ⟨x⟩:=x
    simp
theorem C3Q:OpR X (binaryOp .Mult) B6Z:=by
  intro pins s σ H x y v u Q I rx ry h
  obtain ⟨a,n,rfl,rfl,n0,n1,la,q⟩:=h
  obtain ⟨t,rfl⟩:=rx
  obtain ⟨t',rfl⟩:=ry
  have hz:a.length*n.toNat≤1000000:=Nat.le_trans (Nat.mul_le_mul la (show n.toNat≤1000 by omega)) (by decide)
  refine PySem.P.mul_str (by
    have h1:¬n < -(2 ^ 63:Int):=by omega
    have h2:¬n≥2 ^ 63:=by omega
    rw [decide_eq_false h1,decide_eq_false h2];rfl) (fun h1 _=> ?_) (fun _ _=> ?_) ?_
  · have h3:(9223372036854775:Int)≤(2 ^ 63 - 1) / n:=by
      have:=Int.le_ediv_of_mul_le (a:=9223372036854775) (b:=2 ^ 63 - 1) (c:=n) (by omega) (by omega)
      exact this
    omega
  · unfold Builtin.Str.tooLong
    rw [decide_eq_false]
    rw [show sizeLine=16777216 from rfl]
    omega
  · by_cases h1:n < 1
    · rw [if_pos h1]
      have e:n=0:=by omega
      subst e
      exact ⟨by decide,.str _,H,I.tok _,⟨_,rfl⟩,q⟩
    · rw [if_neg h1]
      by_cases h2:(n==1 || a.length==0)=true
      · rw [if_pos h2]
        have e:A2S a n=a:=by
          rcases Bool.or_eq_true_iff.mp h2 with e | e
          · have e:n=1:=by simpa using e
            subst e
            show Str.mk _=a
            simp
          · have e:a.length=0:=by simpa using e
            obtain ⟨⟨c⟩⟩:=a
            have:c=[]:=List.eq_nil_of_length_eq_zero e
            subst this
            unfold A2S
            simp
        rw [e] at q
        exact ⟨.str a,H,I,⟨t,rfl⟩,q⟩
      · rw [if_neg h2]
        have e:(⟨(List.replicate n.toNat a.cps).foldl (· ++ ·) #[]⟩:Str)=A2S a n:=by
          unfold A2S
          rw [B3q]
          simp
        rw [e]
        refine ⟨?_,.str _,H,I.tok _,⟨_,rfl⟩,q⟩
        show (A2S a n).cps.size≤_
        unfold A2S
        simp only [List.size_toArray,List.length_flatten,List.map_replicate,List.sum_replicate_nat,Array.length_toList]
        rw [show sizeLine=16777216 from rfl,Nat.mul_comm]
        exact Nat.le_trans hz (by decide)
end
def oMulX:M7:=fun a b Q=> match b with
  | .wv (.int j)=> match a with
    | .wv (.int i)=> CMulW i j∧Q (.val (.int (i*j)))
    | .wv (.str x)=> (0≤j∧j≤1000∧x.length≤1000)∧Q (.val (.str (A2S x j)))
    | a=> ∃xs,a.seq=some xs∧(-(2 ^ 63)≤j∧j < 2 ^ 63∧xs.length*j.toNat≤sizeLine)∧Q (.own (.seq (List.replicate j.toNat xs).flatten))
  | _=> False
theorem oMulX.mono (a b:Vw) (Q Q':RV→Prop) (k:∀r,Q r→Q' r) (q:oMulX a b Q):oMulX a b Q':=by
  unfold oMulX at q ⊢
  split at q
  · split at q
    · exact ⟨q.1,k _ q.2⟩
    · exact ⟨q.1,k _ q.2⟩
    · obtain ⟨xs,e,z,q⟩:=q;exact ⟨xs,e,z,k _ q⟩
  · exact q
theorem C2K {K:PySem.W.Frag}:OpA K (fun x y H Q=> (rI CMulW (fun i j=> .int (i*j)) x y H Q∨B6Z x y H Q)∨B6d x y H Q) oMulX:=
  ⟨oMulX.mono,fun a b x y H Q0 Q ra rb q k=> by
    unfold oMulX at q
    split at q
    · rename_i j
      have ey:y= .int j:=rb.int
      split at q
      · rename_i i
        exact .inl (.inl ⟨i,j,ra.int,ey,q.1,k _ _ (.val q.2 .int)⟩)
      · rename_i x
        exact .inl (.inr ⟨x,j,ra.str,ey,q.1.1,q.1.2.1,q.1.2.2,k _ _ (.val q.2 .str)⟩)
      · obtain ⟨xs,e,z,q⟩:=q
        obtain ⟨p,vs,ex,d1,r1⟩:=ra.seq e
        exact .inr ⟨p,j,vs,ex,ey,d1,z.1,z.2.1,by rw [←r1.length];exact z.2.2,fun p' n=> k _ _ (.lst n q (r1.rep _))⟩
    · exact q.elim⟩
section
variable {X:Cx} {G:Gx} {a b:Expr} {ta tb:AT} {pos:Pos}
theorem C3Y (ha:AE X G a ta) (hb:AE X G b tb):AE X G (.BinOp a .Mult b pos) (aOp2 oMulX ta tb):=A3l ((op_mulW.or C3Q).or C3e) C2K ha hb
theorem C4F (gk:G.K=X.K) (hu:X.A.units+64 < cLine) (ha:AE X G a ta) (hb:AE X G b tb):AE X G (.Compare a [.Eq] [b] pos) (aOp2 oEqM ta tb):=A4F (C4p hu) (gk▸C2i) ha hb (nomark _)
end
abbrev AJT:=A1→AH→(Str→A1→AH→Prop)→Prop
def fmtV (v:Vw) (Q:Str→Prop):Prop:=match v with
  | .wv (.str y)=> y.length≤sizeLine∧Q y
  | .wv (.int i)=> i.natAbs.log2 < 1920∧Q (toString i)
  | _=> False
def aFmt (t:AT):AT:=fun env h Q=> t env h fun r env1 h1=> fmtV (view env1 h1 r) fun y=> Q (.val (.str y)) env1 h1
theorem fmtV.imp {v:Vw} {Q Q':Str→Prop} (k:∀y,Q y→Q' y) (q:fmtV v Q):fmtV v Q':=by
  unfold fmtV at q ⊢
  split at q
  · exact ⟨q.1,k _ q.2⟩
  · exact ⟨q.1,k _ q.2⟩
  · exact q
theorem aFmt.mono {t:AT} (m:B9 t):B9 (aFmt t):=fun env h Q Q' k q=> m env h _ _ (fun r e g z=> z.imp fun y z=> k _ _ _ z) q
def jsL:List AT→Str→AJT
  | [],acc=> fun env h Q=> Q acc env h
  | t::ts,acc=> fun env h Q=> t env h fun r env1 h1=> ∃y:Str,r= .val (.str y)∧(acc++y).length≤sizeLine∧jsL ts (acc++y) env1 h1 Q
inductive AJ (X:Cx) (G:Gx):List Expr→List AT→Prop where
  | nil:AJ X G [] []
  | cons {e:Expr} {t:AT} {es:List Expr} {ts:List AT} (h:AE X G e t) (r:AJ X G es ts):AJ X G (e::es) (t::ts)
section
variable {X:Cx} {G:Gx} {e v1 v2:Expr} {t:AT} {es rest:List Expr} {ts:List AT} {pos:Pos}
theorem AJ.mono (a:AJ X G es ts):∀acc,B9 (jsL ts acc):=by
  induction a with
  | nil=> exact fun acc env h Q Q' k q=> k _ _ _ q
  | cons h r ih=> exact fun acc env g Q Q' k q=> h.mono env g _ _ (fun r e g ⟨y,e1,e2,z⟩=> ⟨y,e1,e2,ih _ _ _ _ _ k z⟩) q
end
end Ab
namespace Ab
open PySem PySem.Spec PyProof.Rows L2 RZ
def A2l (x:Str):List W:=x.cps.toList.map fun c=> .str ⟨#[c]⟩
theorem C14 {x:Str}:(A2l x).length=x.cps.size:=by unfold A2l;simp
theorem C1i {x:Str} {i:Nat} {w:W} (e:(A2l x)[i]? =some w):∃c,x.cps[i]? =some c∧w= .str ⟨#[c]⟩:=by
  unfold A2l at e
  rw [List.getElem?_map] at e
  cases q:x.cps.toList[i]? with
  | none=> rw [q] at e;cases e
  | some c=>
    rw [q] at e
    have e:some (W.str ⟨#[c]⟩)=some w:=e
    cases e
    exact ⟨c,by rw [←Array.getElem?_toList];exact q,rfl⟩
theorem C0q {K:PySem.W.Frag} {H:Hp} {x:Str}:A2i K (Its x) H (A2l x):=fun H' kk i=> by
  refine ⟨fun h=> (by rw [C14] at h;exact h),fun w e=> ?_⟩
  obtain ⟨c,ec,rfl⟩:=C1i e
  have hi:i < x.cps.size:=by
    by_cases q:i < x.cps.size
    · exact q
    · rw [Array.getElem?_eq_none (by omega)] at ec;cases ec
  exact ⟨hi,fun v H2 ⟨e1,c',ec',ev⟩=> by
    subst e1
    rw [ec] at ec'
    cases ec'
    subst ev
    exact ⟨.refl _,.str⟩⟩
def B1s (t:AT):X6:=fun env h Q=> t env h fun r env1 h1=> ∃x,r= .val (.str x)∧Q (A2l x) env1 h1
section
variable {X:Cx} {G:Gx} {tg e a b o k:Expr} {t ta tb to:AT} {tk:D5} {pos:Pos}
theorem C4E (ha:AE X G e t):AI X G tg e (B1s t):=by
  refine ⟨fun env h Q Q' k q=> ha.mono env h _ _ (fun r e g ⟨x,z1,z2⟩=> ⟨x,z1,k _ _ _ z2⟩) q,PI.imp (pi_str ha.pe) fun σ H R ⟨env,h,S,q⟩=> ?_⟩
  refine ⟨env,h,S,ha.mono env h _ _ (fun r env1 h1 ⟨x,z1,z⟩ v H1 S1 x1 r1 _=> ?_) q⟩
  subst z1
  exact ⟨x,Rep.of_str (K:=G.K) (H:=H1) r1,z _ H1 S1 x1 C0q⟩
def A1F (i j:Str):Bool:= !(Builtin.Str.occurrences j i 0 j.length 1).isEmpty
def B7S (neg:Bool):R2:=fun x y H Q=> ∃i j,x= .str i∧y= .str j∧Q (.bl (if neg=true then !A1F i j else A1F i j)) H
theorem C4X:OpR X (compareOp .In) (B7S false):=op_in_str
def oInS (neg:Bool):M7:=fun a b Q=> match a,b with
  | .wv (.str i),.wv (.str j)=> Q (.val (.bl (if neg=true then !A1F i j else A1F i j)))
  | _,_=> False
theorem oInS.mono {neg:Bool} (a b:Vw) (Q Q':RV→Prop) (k:∀r,Q r→Q' r) (q:oInS neg a b Q):oInS neg a b Q':=by
  unfold oInS at q ⊢
  split at q
  · exact k _ q
  · exact q
theorem C2a {K:PySem.W.Frag} {neg:Bool}:OpA K (B7S neg) (oInS neg):=⟨oInS.mono,fun a b x y H Q0 Q ra rb q k=> by
  unfold oInS at q
  split at q
  · exact ⟨_,_,ra.str,rb.str,k _ _ (.val q .bl)⟩
  · exact q.elim⟩
theorem C34 (ha:AE X G a ta) (hb:AE X G b tb) (h1:behindInMarks .In b=false:=by rfl):AE X G (.Compare a [.In] [b] pos) (aOp2 (oInS false) ta tb):=A4F C4X C2a ha hb h1
theorem C3N {x z:Str} (hg:Gl X x) (hm:∃t,X.mg x=some (.str z t)) (hd:(x==("__debug__":Str))=false:=by decide):AE X G (.Name x pos) (aC (.str z)):=by
  obtain ⟨t,hm⟩:=hm
  exact A2j (v:= .str z) (pe_glob (v:= .str z) hg hm ⟨t,rfl⟩ hd) fun _=> .str
end
end Ab
namespace Ab
open PySem PySem.Spec PyProof.Rows L2 RZ
section
variable {X:Cx} {G:Gx} {i a b:Nat} {n f A B Sn:Str} {kx vx:Expr} {pos p1 p2 p3 p4 p5 p6 p7:Pos} {k0:Nat} {tk tv:D5} {scope:Scope} {own:List (Str×Nat)}
theorem B5T (gk:G.K=X.K) (hc:X.calm=true) (hN:X.N.Nodup) (F:FldOk X.K n f) (ho:PE X (.Name Sn p1) (tVar i)) (ok:BlkOk X.N X.env.scope scope own) (hab:a∈own.map (·.2)∧b∈own.map (·.2))
    (ga:∀(s:Shared) (H:Hp) (C:Addr) (cl:List (Str×Addr)) (fp:List Addr),PG (X.blk s H scope (compEnvC scope cl C X.env) fp) (.Tuple [.Name A p4,.Name B p5] k0 p7) (gTup X.K 2 (gCons (gName a) (gCons (gName b) gNil))))
    (hk:∀(G':Gx),G'.K=X.K→∀(s:Shared) (H:Hp) (C:Addr) (cl:List (Str×Addr)) (fp:List Addr),AV (X.blk s H scope (compEnvC scope cl C X.env) fp) G' kx tk)
    (hv:∀(G':Gx),G'.K=X.K→∀(s:Shared) (H:Hp) (C:Addr) (cl:List (Str×Addr)) (fp:List Addr),AV (X.blk s H scope (compEnvC scope cl C X.env) fp) G' vx tv)
    (hfb:attributeBase (.Name Sn p1) f X.env (eval (.Name Sn p1) X.env)=eval (.Name Sn p1) X.env:=by rfl) (hbase:attributeBase (.Attribute (.Name Sn p1) f p2) "items" X.env (eval (.Attribute (.Name Sn p1) f p2) X.env)=eval (.Attribute (.Name Sn p1) f p2) X.env:=by rfl) (hline:(p3.endLine==p6.line)=true:=by rfl)
    (hs:∀x,foldedSetIterable (.Call (.Attribute (.Attribute (.Name Sn p1) f p2) "items" p3) [] [] p6) X.env x=pure x:=by intro _;rfl):
    AE X G (.DictComp kx vx [⟨.Tuple [.Name A p4,.Name B p5] k0 p7,.Call (.Attribute (.Attribute (.Name Sn p1) f p2) "items" p3) [] [] p6,[],0⟩] scope pos) (A6j (own.map (·.2)) i n f a b tk tv):=
  C4h gk hc hN F ho ok hab ga hk hv (hk G gk X.s_0 X.H_0 0 [] []).mono (hv G gk X.s_0 X.H_0 0 [] []).mono hfb hbase hline hs
end
section
variable {X:Cx} {G:Gx} {elt tg iter:Expr} {ifs:List Expr} {scope:Scope} {own:List (Str×Nat)} {pos:Pos} {ti:d4} {g:K5} {tt:L8} {te:D5} {sl:List Nat}
theorem C3M (hc:X.calm=true) (hN:X.N.Nodup) (hi:AI2 X G tg iter ti) (ok:BlkOk X.N X.env.scope scope own) (hsl:∀i∈sl,i∈own.map (·.2))
    (hg:∀(s:Shared) (H:Hp) (C:Addr) (cl:List (Str×Addr)) (fp:List Addr),AG (X.blk s H scope (compEnvC scope cl C X.env) fp) G tg sl g) (ht:∀(s:Shared) (H:Hp) (C:Addr) (cl:List (Str×Addr)) (fp:List Addr),APs (X.blk s H scope (compEnvC scope cl C X.env) fp) G ifs tt)
    (he:∀(s:Shared) (H:Hp) (C:Addr) (cl:List (Str×Addr)) (fp:List Addr),AV (X.blk s H scope (compEnvC scope cl C X.env) fp) G elt te) (hs:∀x,foldedSetIterable iter X.env x=pure x:=by intro _;rfl):
    AE X G (.ListComp elt [⟨tg,iter,ifs,0⟩] scope pos) (A6Y (own.map (·.2)) ti g tt te):=
  C4f hc hN hi ok hsl hg ht he (hg X.s_0 X.H_0 0 [] []).mono (ht X.s_0 X.H_0 0 [] []).mono (he X.s_0 X.H_0 0 [] []).mono hs
variable {ti1:d4} {g1:K5} {tt1:L8} {vs1 sl1:List Nat} {tg1 iter1:Expr} {ifs1:List Expr}
end
end Ab
namespace Ab
open PySem PySem.Spec PyProof.Rows L2 RZ
theorem VRL.three {K:PySem.W.Frag} {H:Hp} {a b c:Vw} {vs:List V} (r:VRL K H [a,b,c] vs):∃v u t,vs=[v,u,t]∧VR K H a v∧VR K H b u∧VR K H c t:=by
  cases r with
  | cons r1 rr=>
    obtain ⟨u,t,rfl,r2,r3⟩:=VRL.two rr
    exact ⟨_,u,t,rfl,r1,r2,r3⟩
def B7Y (hi:Int) (n:Nat):List W:=(List.range n).map fun (i:Nat)=> W.int (hi - i)
section
variable {X:Cx} {G:Gx} {tg e:Expr} {pos:Pos} {x:Str}
end
end Ab
namespace Ab
open PySem PySem.Spec PyProof.Rows L2 RZ
section
variable {X:Cx} {G:Gx} {body:List Stmt} {f₀:Stmt} {fs:List Stmt} {pos:Pos} {E:AExc→A1→AH→Prop}
variable {sp:I9} {st:Stmt} {k j n:Nat} {ps:List Str} {x y:Str} {p:Pos} {e:Expr} {es:List Expr} {t:I6}
end
section
variable {P:Program} {w:World} {K:PySem.W.Frag} {mg:Str→Option Value} {base:Heap} {C m:Str} {f:Addr} {fd:FuncData} {N ps:List Str} {k n:Nat} {sp:I9} {st:Stmt} {kws:List (Str×V)}
end
end Ab
namespace Ab
open PySem PySem.Spec PyProof.Rows L2 RZ
section
variable {K:PySem.W.Frag}
end
section
variable {X:Cx} {G:Gx} {o k e a b tg:Expr} {to ta tb:AT} {tk:D5} {t:D5} {i j:Nat} {x y:Str} {px py pt pos apos cpos:Pos} {kt:Nat} {k2:Nat} {pt2:Pos}
end
end Ab
namespace Ab
open PySem PySem.Spec PyProof.Rows L2 RZ
def C3E:T3:=fun xs ws Q=> match ws with
  | [.int i,y]=> xs.length < sizeLine∧0≤i∧i < 2 ^ 63∧Q (xs.take i.toNat++[y]++xs.drop i.toNat) .non
  | _=> False
def C1P:T3:=fun xs ws Q=> match ws with
  | []=> Q xs.reverse .non
  | _=> False
def C4H:T3:=fun xs ws Q=> match ws with
  | []=> Q [] .non
  | _=> False
end Ab
namespace Ab
open PySem PySem.Spec PyProof.Rows L2 RZ
def B6g (v:Vw) (w d:W) (Q:RV→Prop):Prop:=∃l s,v.toW=U7 l∧w= .str s∧Q (.val ((l.lookup s).getD d))
def isM (v:Vw):Prop:=∃l,v.toW=U7 l
def aGetMD (to:AT) (tk td:D5):AT:=fun env h Q=> to env h fun r env1 h1=> isM (view env1 h1 r)∧tk env1 h1 fun w env2 h2=> td env2 h2 fun d env3 h3=> B6g (view env3 h3 r) w d fun x=> Q x env3 h3
theorem aGetMD.mono {tk td:D5} {to:AT} (n:B9 to) (m:B9 tk) (o:B9 td):B9 (aGetMD to tk td):=fun env h Q Q' k q=> n env h _ _ (fun r e g z=> ⟨z.1,m e g _ _ (fun w e g z=> o e g _ _ (fun d e g ⟨l,s,z1,z2,z4⟩=> ⟨l,s,z1,z2,k _ _ _ z4⟩) z) z.2⟩) q
section
variable {X:Cx} {G:Gx} {o k e:Expr} {apos cpos:Pos} {tk td:D5} {to:AT}
end
end Ab
namespace Ab
open PySem PySem.Spec PyProof.Rows L2 RZ
def B6m:M3:=fun as Q=> match as with
  | [.wv (.int i)]=> i.natAbs.log2 < 1920∧Q (.val (.str (toString i)))
  | [.wv (.str s)]=> Q (.val (.str s))
  | _=> False
def aJoin (to te:AT):AT:=fun env h Q=> to env h fun r env1 h1=> (∃s,view env1 h1 r= .wv (.str s))∧te env1 h1 fun r2 env2 h2=> ∃(s:Str) (ys:List Str),view env2 h2 r= .wv (.str s)∧(view env2 h2 r2).items=some (ys.map W.str)∧(ys.map (·.length)).sum+ys.length*s.length≤16777216∧Q (.val (.str (Txt.join s ys))) env2 h2
theorem aJoin.mono {to te:AT} (a:B9 to) (b:B9 te):B9 (aJoin to te):=fun env h Q Q' k q=>
  a env h _ _ (fun r e g z=> ⟨z.1,b e g _ _ (fun r2 e2 g2 ⟨s,ys,z1,z2,z3,z4⟩=> ⟨s,ys,z1,z2,z3,k _ _ _ z4⟩) z.2⟩) q
section
variable {X:Cx} {G:Gx} {o e:Expr} {to te:AT} {apos pos:Pos}
end
section
variable {X:Cx} {CX:CXT} {k:Nat} {f C:Addr} {fd:FuncData} {ps:List Str} {sp:Sp} {E:XK}
end
section
variable {X:Cx} {G:Gx} {sp:I9} {C:Str} {st:Stmt} {k j:Nat} {ps:List Str} {o:Expr} {p pos:Pos} {to:AT}
end
end Ab
namespace Ab
open PySem PySem.Spec PyProof.Rows L2 RZ
def aM1 (o:M3) (to te:AT):AT:=fun env h Q=> to env h fun r env1 h1=> (∃s,view env1 h1 r= .wv (.str s))∧te env1 h1 fun r2 env2 h2=> o [view env2 h2 r,view env2 h2 r2] fun x=> Q x env2 h2
theorem aM1.mono {K:PySem.W.Frag} {r:List V→Hp→VK→Prop} {o:M3} {to te:AT} (ca:CallA K r o) (a:B9 to) (b:B9 te):B9 (aM1 o to te):=fun env h Q Q' k q=>
  a env h _ _ (fun r e g z=> ⟨z.1,b e g _ _ (fun r2 e2 g2 z=> ca.mono _ _ _ (fun x q=> k _ _ _ q) z) z.2⟩) q
def C4r:M3:=fun as Q=> match as with
  | [.wv (.str a),.wv (.str b)]=> (b.length==0)=false∧a.length+2≤sizeLine∧Q (.own (.seq ((Txt.split a b).map W.str)))
  | _=> False
section
variable {X:Cx} {G:Gx} {o e:Expr} {to te:AT} {apos pos:Pos}
end
end Ab
namespace Ab
open PySem PySem.Spec PyProof.Rows L2 RZ
def t8 (tab:List (Str×Int)) (x:Str):Option Int:=(tab.find? fun p=> decide (p.1=x)).map (·.2)
structure DcF (K:PySem.W.Frag) (w:World) (a:Addr) (tab:List (Str×Int)):Prop where
  kd:∃es n,KDict K w a es n
  hit:∀x i,t8 tab x=some i→∃t,PySem.W.nsIn K a x=some (some (.int i t))
  miss:∀x,t8 tab x=none→PySem.W.nsIn K a x=some none
def aInKD (neg:Bool) (tab:List (Str×Int)) (tk:D5):AT:=fun env h Q=> tk env h fun w env1 h1=> ∃s,w= .str s∧Q (.val (.bl (if neg=true then !(t8 tab s).isSome else (t8 tab s).isSome))) env1 h1
theorem aInKD.mono {neg:Bool} {tab:List (Str×Int)} {tk:D5} (m:B9 tk):B9 (aInKD neg tab tk):=fun env h Q Q' k q=> m env h _ _ (fun w e g ⟨s,z1,z2⟩=> ⟨s,z1,k _ _ _ z2⟩) q
def aIxKD (tab:List (Str×Int)) (tk:D5):AT:=fun env h Q=> tk env h fun w env1 h1=> ∃s i,w= .str s∧t8 tab s=some i∧Q (.val (.int i)) env1 h1
theorem aIxKD.mono {tab:List (Str×Int)} {tk:D5} (m:B9 tk):B9 (aIxKD tab tk):=fun env h Q Q' k q=> m env h _ _ (fun w e g ⟨s,i,z1,z0,z2⟩=> ⟨s,i,z1,z0,k _ _ _ z2⟩) q
section
variable {X:Cx} {G:Gx} {k:Expr} {pos dpos:Pos} {x:Str} {tab:List (Str×Int)} {tk:D5}
end
end Ab
namespace Ab
open PySem PySem.Spec PyProof.Rows L2 RZ
def C5v:M3:=fun as Q=> match as with
  | [.wv (.bl b)]=> Q (.val (.int (if b then 1 else 0)))
  | _=> False
end Ab
namespace Ab
open PySem PySem.Spec PyProof.Rows L2 RZ
section
variable {X:Cx} {G:Gx} {e:Expr} {t:AT} {i:Nat}
end
section
variable {X:Cx} {G:Gx} {sp:I9} {C m:Str} {st:Stmt} {k j n0:Nat} {ps ks:List Str} {kws0:List (Str×V)} {mz:List V} {ds:List W} {o e:Expr} {es:List Expr} {kws:List Keyword} {pos apos p:Pos} {to:AT} {t tk:I6} {E:AExc→A1→AH→Prop} {perm:List Nat}
theorem C0x (gk:G.K=X.K) (MC:MkC X.K X.mg C) (O:OkM X.prog X.w X.K X.mg X.base C "__init__" st k perm.length ps kws0 sp) (mb:MB "__init__" (C++"."++"__init__") st kws0 ps ks 1 perm mz) (hd:∀H,RepL G.K H ds mz) (hr:Room j X.A) (kj:k+1≤j) (hg:Gl X C) (tkk:Takes X (cW G E)) (hkw:AK X G kws tk)
    (h0:0 < perm.length:=by decide) (hall:(backToKw pos (keywordEach kws X.env)).all (·.1.isSome)=true:=by rfl) (hks:(backToKw pos (keywordEach kws X.env)).filterMap (·.1)=ks:=by rfl) (hdb:(C==("__debug__":Str))=false:=by decide)
    (hpl:((backTo pos (starEach [] X.env)).any (·.1) || (backToKw pos (keywordEach kws X.env)).any (·.1.isNone))=false:=by rfl):
    AE X G (.Call (.Name C p) [] kws pos) (aMakeM C E sp perm.length (gMx 1 ks.length perm ds) aNil tk):=by
  obtain ⟨f,fd,M,FD,F⟩:=O.ex
  have F:FnOk X.prog X.w X.K X.mg X.base (L2.CX X.prog X.w) k f fd ps (O9 G.K perm.length sp):=gk▸F
  obtain ⟨mv,kb⟩:=mb _ _ _ FD
  refine ⟨aMakeM.mono O.sm aNil.mono hkw.mono,⟨fun pins s σ H Q I ⟨env,h,S,q⟩=> ?_⟩⟩
  have step:cA G tk σ H fun zs H2=> zs.length=ks.length∧∀x dx,H2 x=none→H2 dx=none→dx≠x→O9 G.K perm.length sp (perm.map fun i=> ((V.ref x::[])++(zs++mz)).getD i V.non) (upd (upd H2 dx (.own x)) x (.ins (He.ga X.K C) dx [])) (fun v H2=> v= .non∧Q (.ref x) H2) (WE (cW G E) σ):=by
    refine ⟨env,h,S,hkw.mono env h _ _ (fun zs env2 h2 z vz H2 S2 x2 r2=> ?_) q⟩
    obtain ⟨l1,l2⟩:=C2z (N:=0) h0 (z.1 0)
    refine ⟨by rw [←r2.length];exact l2,?_⟩
    rw [←gk]
    exact C0v (ws:=fun a=> gMx 1 ks.length perm ds [.ref a] zs) (vs:=fun v=> perm.map fun i=> ([v]++(vz++mz)).getD i V.non) S2 x2 (fun H' a kp=> C21 (ws:=[.ref a]) (vs:=[.ref a]) rfl l2 (.cons .ref .nil) (RepL.mono kp _ _ r2) (hd H')) fun a n=> ⟨z.1 a,z.2 a n⟩
  refine wpAny_Call_Name_kw (ld_glob I hg MC.gl ?_ hdb)
  refine PySem.W.callWith_KW0 (h₀:=X.base) I.ok.mod.kin MC.kp hall ?_ hpl
  refine thn (hkw.pk.run pos pins s σ H _ I step) fun ws s3 ⟨zs,H3,I3,rz,l2,q3⟩=> ⟨I3.kIn,?_⟩
  rw [hks,List.append_nil]
  exact C0j (us:=[]) (vs:=[]) ⟨MC.makes,M.at_,M.fn,MC.kp⟩ F (hr.mono kj) kb (passAt tkk σ) I3 .nil rz rfl l2 q3
end
end Ab
namespace Ab
open PySem PySem.Spec PyProof.Rows L2 RZ
open Builtin in
theorem C5F {prog:Program} {w:World} {A:Around} {E:Value→Shared→Prop} {s:Shared} {K:PySem.W.Frag} {x C f:Addr} {b tb:Value} {ox:Obj} {od:Option Obj} {Q:Value→Shared→Prop} (hu:A.units+1 < cLine) (X:K.In s.heap)
    (I:PySem.W.InstAt s.heap x ox C od) (I':PySem.W.Looks (model prog w) s.heap (typeOf b) tb) (hn:PySem.W.notFirst K C tb=true) (N:NeOk K C) (hs:PySem.W.findIn K (.ref C) "__eq__"=some (some (.ref f))) (hf:PySem.W.isFn K (.ref f)=true)
    (h:wpAny (model prog w) A.in1 (call (.ref f) [.ref x,b]) (fun v s'=> ∃b,v= .bool b∧Q (.bool (!b)) s') E s):wpAny (model prog w) A (richCompare .NotEq (.ref x) b) Q E s:=by
  have hu0:A.units < cLine:=by omega
  have body:wpAny (model prog w) A.in1 (Builtin.«object.__ne__» ⟨[.ref x,b],[]⟩) (fun fin s'=> ∃v,fin= .done (.ret v)∧∃b,v= .bool b∧Q v s') E s:=by
    unfold Builtin.«object.__ne__»
    repeat (first
      | with_reducible refine wpAny_cRoomFor (show A.in1.units < cLine from hu) ?_
      | (refine wpAny_bind (m:=callSpecialIfBound? (.ref x) (Str.ofString "__eq__") [b])
          (PySem.W.ifBound_K X I hs hf (wpAny_mono h (fun r s' hr=> by
            obtain ⟨b,rfl,hq⟩:=hr
            repeat (first | exact ⟨_,rfl,_,rfl,hq⟩ | exact wpAny_pure ⟨_,rfl,_,rfl,hq⟩ | exact wpAny_truthy_bool ⟨_,rfl,_,rfl,hq⟩ | (refine wpAny_bind (m:=truthy (.bool _)) (wpAny_truthy_bool ?_)) | wp_step)) fun _ _ e=> e)))
      | wp_step)
  have one:wpAny (model prog w) A (tryCompare (.ref x) "__ne__" b) (fun r s'=> ∃v,r=some v∧Q v s') E s:=by
    unfold tryCompare
    refine wpAny_bind (B4W X I N.ne (fun self=> rfl) (wpAny_call (codeAny_call_builtin PySem.F.cmp_object.ne.plain PySem.F.cmpEntry_ne (PySem.W.check_slot (i:="object.__ne__") (owner:="object") (n:="__ne__") PySem.F.cmpKind_ne PySem.F.cmpSplit_ne (I.type.andThen (PySem.W.looks_mroIn X N.mr)) (PySem.F.cmpArgs_ne _ _) (wpAny_mono body (fun fin s' z=> ?_) fun _ _ z=> z)))))
    obtain ⟨v,rfl,b,rfl,q⟩:=z
    exact wpAny_pure ⟨_,rfl,q⟩
  unfold richCompare
  simp only [oneThing_ref]
  refine wpAny_holding (wpAny_bind (wpAny_cRoomFor hu0 ?_))
  rw [cmpInfo_NotEq]
  dsimp only
  refine wpAny_bind (I.type.here (wpAny_bind (I'.here ?_)))
  split
  · rename_i q
    have e:PySem.W.subIn K tb (.ref C)=some false:=by
      rcases Bool.or_eq_true_iff.mp hn with e | e
      · rw [beq_iff_eq.mp e] at q;simp at q
      · exact beq_iff_eq.mp e
    refine wpAny_bind ((PySem.W.looks_subIn X e).here ?_)
    simp only [Bool.false_eq_true,if_false]
    refine wpAny_bind (wpAny_mono one (fun r s' z=> ?_) fun _ _ e=> e)
    obtain ⟨v,rfl,hq⟩:=z
    exact wpAny_pure hq
  · refine wpAny_bind (wpAny_pure ?_)
    simp only [Bool.false_eq_true,if_false]
    refine wpAny_bind (wpAny_mono one (fun r s' z=> ?_) fun _ _ e=> e)
    obtain ⟨v,rfl,hq⟩:=z
    exact wpAny_pure hq
theorem B1P {K:PySem.W.Frag} {C:Addr} {n:String} (h:PySem.fastBuiltinMro n=some [.type n,.type "object"]):PySem.W.notFirst K C (.type n)=true:=by
  show (Value.type n==Value.ref C || (Option.map (fun x=> x.contains (Value.ref C)) (PySem.fastBuiltinMro n)==some false))=true
  rw [h]
  rfl
theorem C3y {K:PySem.W.Frag} {H:Hp} {C:Addr} {v:V} (ty:TyX K H v (.type "list")∨TyX K H v (.type "tuple")∨TyX K H v (.type "str")):∃t,TyX K H v t∧PySem.W.notFirst K C t=true:=by
  rcases ty with ty | ty | ty
  · exact ⟨_,ty,B1P (by kernel_rfl)⟩
  · exact ⟨_,ty,B1P (by kernel_rfl)⟩
  · exact ⟨_,ty,B1P (by kernel_rfl)⟩
def B7U (K:PySem.W.Frag) (C:Addr) (sp:Sp) (neg:Bool):R2:=fun x y H Q=> ∃a dx fs t,x= .ref a∧H a=some (.ins C dx fs)∧TyX K H y t∧PySem.W.notFirst K C t=true∧sp [.ref a,y] H (fun v H'=> ∃k:Bool,v= .bl k∧Q (.bl (if neg=true then !k else k)) H') EF
section
variable {X:Cx} {k:Nat} {C f:Addr} {fd:FuncData} {ps:List Str} {sp:Sp}
theorem C4P (F:FnOk X.prog X.w X.K X.mg X.base (L2.CX X.prog X.w) k f fd ps sp) (M:Meth X.K C "__eq__" f) (N:NeOk X.K C) (hr:Room (k+1) X.A) (hb:Binds X.K fd ps []):OpR X (compareOp .NotEq) (B7U X.K C sp true):=by
  intro pins s σ H x y u v Q I rx ry h
  obtain ⟨a,dx,fs,t,rfl,ea,ty,nf,q⟩:=h
  obtain rfl:u=Value.ref a:=rx
  obtain ⟨mA,J,_⟩:=ins_get I.hok ea
  obtain ⟨od,J,_⟩:=J.look
  obtain ⟨P,Z,p,_⟩:=kit_of I ry ty
  show wpAny (model X.prog X.w) X.A (richCompare .NotEq (.ref a) v) _ _ _
  refine C5F hr.in1.units0 I.kIn J (Z.ty _ _ I.kIn p) nf N M.at_ M.fn (thn (B42 (us:=[.ref a,v]) (vs:=[.ref a,y]) F hr hb B1W I (.cons rfl (.cons ry .nil)) q) fun u s' ⟨v,H',I',rv,k,ev,q⟩=> ?_)
  subst ev
  obtain rfl:u=Value.bool k:=rv
  exact ⟨k,rfl,.bl _,H',I',rfl,q⟩
end
def aCmG (C:Str) (neg:Bool) (sp:I9) (ta:AT) (tb:D5):AT:=fun env h Q=> ta env h fun r env1 h1=> tb env1 h1 fun w env2 h2=> ∃a fs,r= .val (.ref a)∧h2 a=some (.ins C fs)∧A80 w∧
  sp [.ref a,w] h2 (fun x h3=> ∃k:Bool,x= .val (.bl k)∧Q (.val (.bl (if neg=true then !k else k))) env2 h3) fun _ _=> False
theorem aCmG.mono {C:Str} {neg:Bool} {sp:I9} {ta:AT} {tb:D5} (sm:R0 sp) (m:B9 ta) (n:B9 tb):B9 (aCmG C neg sp ta tb):=fun env h Q Q' k q=>
  m env h _ _ (fun r e g z=> n e g _ _ (fun r2 e2 g2 ⟨a,fs,z1,z2,z3,z⟩=> ⟨a,fs,z1,z2,z3,sm _ _ _ _ _ _ (fun x f ⟨b,y1,y2⟩=> ⟨b,y1,k _ _ _ y2⟩) (fun _ _ z=> z) z⟩) z) q
section
variable {X:Cx} {G:Gx} {sp:I9} {C:Str} {st:Stmt} {k j:Nat} {ps:List Str} {o o2:Expr} {p pos:Pos} {to:AT} {t2:D5}
theorem C1Q {neg:Bool} {σ:L2.St} {H:Hp} {Q:VK} (gk:G.K=X.K) (sm:R0 sp) (mo:B9 to) (m2:B9 t2) (q:cE G (aCmG C neg sp to t2) σ H Q):tOp (B7U X.K (He.ga X.K C) (O9 G.K 2 sp) neg) (cE G to) (cV G t2) σ H Q:=by
  obtain ⟨env,h,S,q⟩:=q
  refine ⟨env,h,S,mo env h _ _ (fun r env1 h1 z x H1 S1 x1 r1 _=> ?_) q⟩
  refine ⟨env1,h1,S1,m2 env1 h1 _ _ (fun w env2 h2 ⟨a,fs,z1,z2,z3,zz⟩ y H2 S2 x2 rr2=> ?_) z⟩
  subst z1
  have ex:x= .ref a:=Rep.of_ref (K:=G.K) (H:=H1) r1
  subst ex
  obtain ⟨dx,vs,ea,_⟩:=S2.hp a _ z2
  obtain ⟨t,ty,nf⟩:=C3y (C:=He.ga X.K C) (B44 z3 rr2)
  refine ⟨a,dx,vs,t,rfl,gk▸ea,gk▸ty,gk▸nf,[.ref a,w],h2,_,_,rfl,S2.hp,S2.tabs,.cons .ref (.cons rr2 .nil),zz,fun r h' v H' ⟨kb,e,y⟩ c rr=> ?_,fun _ _ _ _ _ z _ _=> z.elim⟩
  obtain ⟨S3,x3⟩:=S2.after c
  subst e
  exact ⟨kb,Rep.of_bl (K:=G.K) (H:=H') rr,y _ H' S3 (x1.trans (x2.trans x3)) (show Rep G.K H' (.bl (if neg=true then !kb else kb)) _ from .bl) trivial⟩
variable (gk:G.K=X.K) (O:OkM X.prog X.w X.K X.mg X.base C "__eq__" st k 2 ps [] sp) (bd:V6 C "__eq__" st ps) (hr:Room j X.A) (kj:k+1≤j) (ho:AE X G o to) (h2:AV X G o2 t2)
include gk O bd hr kj ho h2
theorem B5z (N:NeOk X.K (He.ga X.K C)):AE X G (.Compare o [.NotEq] [o2] pos) (aCmG C true sp to t2):=by
  obtain ⟨f,fd,M,FD,F⟩:=O.ex
  have F:FnOk X.prog X.w X.K X.mg X.base (L2.CX X.prog X.w) k f fd ps (O9 G.K 2 sp):=gk▸F
  exact ⟨aCmG.mono O.sm ho.mono h2.mono,PE.imp (pe_cmpR (C4P F M N (hr.mono kj) (FD.bindsN bd)) ho.pe h2.pe (nomark _)) fun σ H Q q=> C1Q gk O.sm ho.mono h2.mono q⟩
end
end Ab
namespace Ab
open PySem PySem.Spec PyProof.Rows L2
theorem C1Y {n:String} {bm:List Value} (h:B1L n bm=true):∃B ii bmB,ExcBaseFacts B n ii bmB∧MroG bm bmB:=by
  unfold B1L at h
  rcases Bool.or_eq_true_iff.mp h with h | h
  · obtain ⟨a,b⟩:=Bool.and_eq_true_iff.mp h
    obtain rfl:=of_decide_eq_true a
    exact ⟨_,_,_,F.excBase_ValueError,A97 C53 _ b⟩
  rcases Bool.or_eq_true_iff.mp h with h | h
  · obtain ⟨a,b⟩:=Bool.and_eq_true_iff.mp h
    obtain rfl:=of_decide_eq_true a
    exact ⟨_,_,_,F.excBase_LookupError,A97 C51 _ b⟩
  · obtain ⟨a,b⟩:=Bool.and_eq_true_iff.mp h
    obtain rfl:=of_decide_eq_true a
    exact ⟨_,_,_,F.excBase_IndexError,A97 C5n _ b⟩
theorem C2r {K:PySem.W.Frag} {C:Addr} (h:B1q K C=true):∃nm q N bs bm bmB B newId initId sn sub ab col dd k0 k1 k2 k3 k5,K.lookup C=some (excClassObj nm q C N bs bm true sn sub ab col dd k0 k1 k2 k3 k5 newId)∧ExcBaseFacts B newId initId bmB∧MroG bm bmB:=by
  unfold B1q at h
  split at h
  · rename_i t dd cd sl e
    obtain ⟨h1,h⟩:=Bool.and_eq_true_iff.mp h
    split at h
    · rename_i C' bm k0 k1 k2 k3 n k5 hm hs
      obtain ⟨h2,h⟩:=Bool.and_eq_true_iff.mp h
      obtain ⟨h3,h⟩:=Bool.and_eq_true_iff.mp h
      obtain ⟨h4,h5⟩:=Bool.and_eq_true_iff.mp h
      have h1:=of_decide_eq_true h1
      have h2:=of_decide_eq_true h2
      obtain ⟨B,ii,bmB,FB,M⟩:=C1Y h3
      obtain ⟨nm,bs,mro,ns,qn,hd,sn,sub,ab,col,del⟩:=cd
      dsimp only at hm h4 h5
      have h4:del=false:=by simpa using h4
      subst h1 h2 hm h4 h5
      have es:sl=#[k0,k1,k2,k3,some (.builtin n),k5]:=by
        obtain ⟨l⟩:=sl
        simp only at hs
        rw [hs]
      subst es
      exact ⟨nm,qn,ns,bs,bm,bmB,B,n,ii,sn,sub,ab,col,dd,k0,k1,k2,k3,k5,e,FB,M⟩
    · cases h
  · cases h
structure XkF (K:PySem.W.Frag) (x:Str) (fs:List Str):Prop where
  cls:OexG K (He.ga K x)
  ini:PySem.W.findIn K (.ref (He.ga K x)) "__init__"=some (some (.ref (He.ma K (He.ga K x) "__init__")))
  fn:PySem.W.typeIn K (.ref (He.ma K (He.ga K x) "__init__"))=some (.type "function")
  xf:XfC K (He.ga K x)
  no:∀f∈("word":Str)::fs,PySem.W.findIn K (.ref (He.ga K x)) f=some none
theorem A2c {K:PySem.W.Frag} {x:Str} {fs:List Str} (h:xkB K x fs=true):XkF K x fs:=by
  unfold xkB at h
  obtain ⟨h1,h⟩:=Bool.and_eq_true_iff.mp h
  obtain ⟨h2,h⟩:=Bool.and_eq_true_iff.mp h
  obtain ⟨h3,h⟩:=Bool.and_eq_true_iff.mp h
  obtain ⟨h4,h⟩:=Bool.and_eq_true_iff.mp h
  obtain ⟨h5,h⟩:=Bool.and_eq_true_iff.mp h
  obtain ⟨h6,h⟩:=Bool.and_eq_true_iff.mp h
  obtain ⟨h7,h⟩:=Bool.and_eq_true_iff.mp h
  obtain ⟨h8,h9⟩:=Bool.and_eq_true_iff.mp h
  exact ⟨⟨C2r h1,of_decide_eq_true h2,of_decide_eq_true h3,of_decide_eq_true h4,h5⟩,of_decide_eq_true h6,of_decide_eq_true h7,xfB_ok h8,fun f m=> of_decide_eq_true (List.all_eq_true.mp h9 f m)⟩
theorem xk0 {P:Program} {w:World} {K:PySem.W.Frag} {mg:Str→Option Value} {base:Heap} {x qual word:Str} {params:Arguments} {scope:Scope} {fd:FuncData} {q1 q2 q3 q4:Pos} {j:Nat} (X:XkF K x []) (gl:mg x=some (.ref (He.ga K x)))
    (F:FunD K "__init__" qual params [.Assign [.Attribute (.Name "self" q1) "word" q2] (.Constant (.str word) j q3) q4] scope [] [] (He.ma K (He.ga K x) "__init__") fd) (S:FnScope ["self"] ["self"] scope)
    (bd:∀(kV doc pm:Value) (an:Option Addr) (cdv ct:Value) (us:List Value),us.length=1→bindArgs (PySem.W.fnOf "__init__" qual params [.Assign [.Attribute (.Name "self" q1) "word" q2] (.Constant (.str word) j q3) q4] scope .none kV doc pm an cdv ct) ⟨us,[]⟩=pure ((["self"]:List Str).zip us)):XkOk P w K mg base x word []:=
  ⟨gl,X.cls,_,fd,["self"],X.ini,X.fn,F.bindsN bd,C5H F S X.cls (X.no _ (by simp))⟩
theorem xk1 {P:Program} {w:World} {K:PySem.W.Frag} {mg:Str→Option Value} {base:Heap} {x qual word f:Str} {params:Arguments} {scope:Scope} {fd:FuncData} {q1 q2 q3 q4 q5 q6 q7 q8:Pos} {j:Nat} (X:XkF K x [f]) (gl:mg x=some (.ref (He.ga K x)))
    (F:FunD K "__init__" qual params [.Assign [.Attribute (.Name "self" q1) "word" q2] (.Constant (.str word) j q3) q4,.Assign [.Attribute (.Name "self" q5) f q6] (.Name f q7) q8] scope [] [] (He.ma K (He.ga K x) "__init__") fd) (S:FnScope ["self",f] ["self",f] scope)
    (bd:∀(kV doc pm:Value) (an:Option Addr) (cdv ct:Value) (us:List Value),us.length=2→bindArgs (PySem.W.fnOf "__init__" qual params [.Assign [.Attribute (.Name "self" q1) "word" q2] (.Constant (.str word) j q3) q4,.Assign [.Attribute (.Name "self" q5) f q6] (.Name f q7) q8] scope .none kV doc pm an cdv ct) ⟨us,[]⟩=pure ((["self",f]:List Str).zip us))
    (hd:(f==("__debug__":Str))=false:=by decide) (hcd:(f==("__classdict__":Str))=false:=by decide):XkOk P w K mg base x word [f]:=
  ⟨gl,X.cls,_,fd,["self",f],X.ini,X.fn,F.bindsN bd,C47 F S X.cls (X.no _ (by simp)) (X.no _ (by simp)) hd hcd⟩
theorem xk2 {P:Program} {w:World} {K:PySem.W.Frag} {mg:Str→Option Value} {base:Heap} {x qual word f g:Str} {params:Arguments} {scope:Scope} {fd:FuncData} {q1 q2 q3 q4 q5 q6 q7 q8 r5 r6 r7 r8:Pos} {j:Nat} (X:XkF K x [f,g]) (gl:mg x=some (.ref (He.ga K x)))
    (F:FunD K "__init__" qual params [.Assign [.Attribute (.Name "self" q1) "word" q2] (.Constant (.str word) j q3) q4,.Assign [.Attribute (.Name "self" q5) f q6] (.Name f q7) q8,.Assign [.Attribute (.Name "self" r5) g r6] (.Name g r7) r8] scope [] [] (He.ma K (He.ga K x) "__init__") fd) (S:FnScope ["self",f,g] ["self",f,g] scope)
    (bd:∀(kV doc pm:Value) (an:Option Addr) (cdv ct:Value) (us:List Value),us.length=3→bindArgs (PySem.W.fnOf "__init__" qual params [.Assign [.Attribute (.Name "self" q1) "word" q2] (.Constant (.str word) j q3) q4,.Assign [.Attribute (.Name "self" q5) f q6] (.Name f q7) q8,.Assign [.Attribute (.Name "self" r5) g r6] (.Name g r7) r8] scope .none kV doc pm an cdv ct) ⟨us,[]⟩=pure ((["self",f,g]:List Str).zip us))
    (hd:(f==("__debug__":Str))=false:=by decide) (hcd:(f==("__classdict__":Str))=false:=by decide) (hd':(g==("__debug__":Str))=false:=by decide) (hcd':(g==("__classdict__":Str))=false:=by decide):XkOk P w K mg base x word [f,g]:=
  ⟨gl,X.cls,_,fd,["self",f,g],X.ini,X.fn,F.bindsN bd,C5J F S X.cls (X.no _ (by simp)) (X.no _ (by simp)) (X.no _ (by simp)) hd hcd hd' hcd'⟩
theorem C5A {K:PySem.W.Frag} {C:Str} (h:neB K C=true):NeOk K (He.ga K C):=by
  obtain ⟨a,b⟩:=Bool.and_eq_true_iff.mp h
  exact ⟨of_decide_eq_true a,of_decide_eq_true b⟩
theorem C33 {K:PySem.W.Frag} {mg:Str→Option Value} {n C:Str} {b:Bool} (h:B7I K n C b=true) (gl:mg C=some (.ref (He.ga K C))) (cl:Cls K (He.ga K n)):IsO K mg n C b:=by
  obtain ⟨h1,h⟩:=Bool.and_eq_true_iff.mp h
  obtain ⟨h2,h⟩:=Bool.and_eq_true_iff.mp h
  obtain ⟨h3,h⟩:=Bool.and_eq_true_iff.mp h
  obtain ⟨h4,h⟩:=Bool.and_eq_true_iff.mp h
  obtain ⟨h5,h⟩:=Bool.and_eq_true_iff.mp h
  obtain ⟨h6,h⟩:=Bool.and_eq_true_iff.mp h
  obtain ⟨h7,h8⟩:=Bool.and_eq_true_iff.mp h
  exact ⟨gl,cl,of_decide_eq_true h1,of_decide_eq_true h2,of_decide_eq_true h3,of_decide_eq_true h4,of_decide_eq_true h5,of_decide_eq_true h6,of_decide_eq_true h7,of_decide_eq_true h8⟩
end Ab
namespace Ab
open PySem PySem.Spec PyProof.Rows L2
end Ab
namespace Ab
open PySem PySem.Spec PyProof.Rows L2 RZ
abbrev MC:=AH→(RR→AH→Prop)→(AExc→AH→Prop)→Prop
abbrev CE:=(SV→MC)→MC
abbrev CW:=(W→MC)→MC
abbrev CB:=(Bool→MC)→MC
abbrev CS:=(List SV→MC)→MC
abbrev E6:=(List W→MC)→MC
abbrev CO:=(Option Int→MC)→MC
def SV.fz:SV→W
  | .val w=> w
  | .own c=> c.fz
def SV.rr:SV→RR
  | .val w=> .val w
  | .own c=> .own c
def SV.rv:SV→RV
  | .val w=> .val w
  | .own c=> .own c
def RR.sv:RR→SV
  | .val w=> .val w
  | .own c=> .own c
def M5 (h:AH):SV→Vw
  | .val w=> viewW h w
  | .own c=> .cv c
def bad:MC:=fun _ _ _=> False
def K6 (p:Prop) (m:MC):MC:=fun h Q E=> p∧m h Q E
def ret (x:SV):MC:=fun h Q _=> Q x.rr h
def v5 (k:SV→MC):RV→MC
  | .val w=> k (.val w)
  | .own c=> k (.own c)
  | .slot _=> bad
def u9:M7:=oII (fun _ _=> True) fun i j=> .int (i - j)
def S0:M7:=oII B7O fun i j=> .int (i % j)
def s8:M7:=oII CDivW fun i j=> .int (i / j)
def A2k:M7:=oII CPow fun i j=> .int (i ^ j.toNat)
def oLt:M7:=oII (fun _ _=> True) fun i j=> .bl (decide (i < j))
def oLe:M7:=oII (fun _ _=> True) fun i j=> .bl (decide (i≤j))
def oGt:M7:=oII (fun _ _=> True) fun i j=> .bl (decide (j < i))
def oGe:M7:=oII (fun _ _=> True) fun i j=> .bl (decide (j≤i))
def A4Z:M3:=oBls fun bs=> bs.any id
def A1M:M3:=oBls fun bs=> bs.all id
def C6X:M3:=o1I fun i=> if i < 0 then -i else i
def C5G:M3:=o2I fun i j=> if j < i then j else i
def C5C:M3:=o2I fun i j=> if j > i then j else i
def eV (x:SV):CE:=fun k=> k x
def eC (w:W):CE:=fun k=> k (.val w)
def E4 (o:M7) (x y:SV) (k:SV→MC):MC:=fun h Q E=> o (M5 h x) (M5 h y) fun r=> v5 k r h Q E
def A9 (o:M7) (a b:CE):CE:=fun k=> a fun x=> b fun y=> E4 o x y k
def A0 (a:CE):CW:=fun k=> a fun x=> k x.fz
def C0:E6:=fun k=> k []
def A4 (a:CW) (b:E6):E6:=fun k=> a fun w=> b fun ws=> k (w::ws)
def B67 (ws:List W) (k:SV→MC):MC:=fun h Q E=> ∃(kvs:List (W×W)) (ks:List Key),ws=B1S kvs∧kvs.map (fun p=> A1L p.1)=ks.map some∧ks.Nodup∧kvs.length≤15∧k (.own (.map kvs)) h Q E
def C5b (a:E6):CE:=fun k=> a fun ws=> B67 ws k
def B7H (x:SV) (w d:W) (k:SV→MC):MC:=fun h Q E=> ∃kvs key,x= .own (.map kvs)∧B69 kvs∧A1L w=some key∧k (.val (B6s kvs key d)) h Q E
def C5p (x:SV) (mk md:CW):CE:=fun k=> fun h Q E=> (∃kvs,x= .own (.map kvs))∧(mk fun w=> md fun d=> B7H x w d k) h Q E
def R1 (a:E6):CE:=fun k=> a fun ws=> K6 (ws.length≤sizeLine) (k (.val (.tup ws)))
def O1 (a:E6):CE:=fun k=> a fun ws=> K6 (ws.length≤sizeLine) (k (.own (.seq ws)))
def S8 (x:SV) (k:Int→MC):MC:=fun h Q E=> match M5 h x with
  | .wv (.int i)=> k i h Q E
  | _=> False
def V2 (x:SV) (k:Bool→MC):MC:=fun h Q E=> match M5 h x with
  | .wv (.bl i)=> k i h Q E
  | _=> False
def oNo:CO:=fun k=> k none
def A1o (a:CE):CO:=fun k=> a fun x=> S8 x fun i=> k (some i)
def slc (x:SV) (l u:Option Int) (k:SV→MC):MC:=fun h Q E=> oSl (M5 h x) l u fun r=> v5 k r h Q E
def eSl (a:CE) (lo hi:CO):CE:=fun k=> a fun x=> lo fun l=> hi fun u=> slc x l u k
def E7:CS:=fun k=> k []
def D7 (a:CE) (b:CS):CS:=fun k=> a fun x=> b fun xs=> k (x::xs)
def cb (o:M3) (xs:List SV) (k:SV→MC):MC:=fun h Q E=> o (xs.map (M5 h)) fun r=> v5 k r h Q E
def F6 (o:M3) (a:CS):CE:=fun k=> a fun xs=> cb o xs k
def tYes:CB:=fun k=> k true
def F8 (a:CE):CB:=fun k=> a fun x=> V2 x k
def tAnd (a b:CB):CB:=fun k=> a fun x=> if x=true then b k else k false
def tOr (a b:CB):CB:=fun k=> a fun x=> if x=true then k true else b k
def z8 (a:CB):CB:=fun k=> a fun x=> k (!x)
def eIf (c:CB) (a b:CE):CE:=fun k=> c fun x=> if x=true then a k else b k
def v4 (a b:CE):CE:=fun k=> a fun x=> V2 x fun c=> if c=true then b k else k (.val (.bl false))
def eOr (a b:CE):CE:=fun k=> a fun x=> V2 x fun c=> if c=true then k (.val (.bl true)) else b k
def A9G (a:CE):CE:=fun k=> a fun x=> V2 x fun c=> k (.val (.bl (!c)))
def A6V (a:CE):CE:=fun k=> a fun x=> S8 x fun i=> k (.val (.int (-i)))
def A10 (P P':Int→Int→Bool) (a b c:CE):CE:=fun k=> a fun x=> b fun y=> S8 x fun i=> S8 y fun j=>
  if P i j=true then c fun z=> S8 z fun l=> k (.val (.bl (P' j l))) else k (.val (.bl false))
def call (m:MC) (k:SV→MC):MC:=fun h Q E=> m h (fun r h'=> k r.sv h' Q E) E
def G6 (f:List W→MC) (a:E6):CE:=fun k=> a fun ws=> call (f ws) k
def call0 (m:MC) (k:SV→MC):MC:=fun h Q E=> m h (fun r h'=> k r.sv h' Q E) fun _ _=> False
def A1B (f:List W→MC) (a:E6):CE:=fun k=> a fun ws=> call0 (f ws) k
def A4T (x:AExc):MC:=fun h _ E=> E x h
def perm (p:List Nat) (ws:List W) (k:List W→MC):MC:=K6 (ws.length=p.length) (k (p.map fun i=> ws.getD i .non))
def C5M (p:List Nat) (a:E6):E6:=fun k=> a fun ws=> perm p ws k
def items (w:W) (k:List W→MC):MC:=match w with
  | .tup ws=> k ws
  | .lst ws=> k ws
  | _=> bad
def A4P (w:W) (k:List W→MC):MC:=match w with
  | .emp=> k []
  | w=> items w k
def w8 (a:CW):E6:=fun k=> a fun w=> items w k
def A9M (xs:List SV) (k:List W→MC):MC:=match xs with
  | [x]=> S8 x fun j=> K6 (-(2 ^ 62)≤j∧j < 2 ^ 62) (k (R9 0 j.toNat))
  | _=> bad
def B1i (xs:List SV) (k:List W→MC):MC:=match xs with
  | [x,y]=> S8 x fun i=> S8 y fun j=> K6 (-(2 ^ 62)≤i∧i < 2 ^ 62∧ -(2 ^ 62)≤j∧j < 2 ^ 62) (k (R9 i (j - i).toNat))
  | _=> bad
def A2f (a:CS):E6:=fun k=> a fun xs=> A9M xs k
def C5P (a:CS):E6:=fun k=> a fun xs=> B1i xs k
def A9H (ws:List W) (k:List W→MC):MC:=match ws with
  | [.tup xs,.tup ys]=> k (List.zipWith (fun a b=> W.tup [a,b]) xs ys)
  | [.lst xs,.lst ys]=> k (List.zipWith (fun a b=> W.tup [a,b]) xs ys)
  | _=> bad
def C6A (a:E6):E6:=fun k=> a fun ws=> A9H ws k
def A8q (a:CW):E6:=fun k=> a fun w=> A4P w fun ws=> k (V3 ws)
def enz (ws:List W) (k:List W→MC):MC:=match ws with
  | [a,b]=> items a fun xs=> items b fun ys=> k (ezW xs ys)
  | _=> bad
def C6M (a:E6):E6:=fun k=> a fun ws=> enz ws k
def un2 (w:W) (k:W→W→MC):MC:=match w with
  | .tup [a,b]=> k a b
  | _=> bad
def un3 (w:W) (k:W→W→W→MC):MC:=match w with
  | .tup [a,b,c]=> k a b c
  | _=> bad
def un5 (w:W) (k:W→W→W→W→W→MC):MC:=match w with
  | .tup [a,b,c,d,e]=> k a b c d e
  | _=> bad
def uq2 (w:W) (k:W→W→MC):MC:=items w fun ws=> match ws with
  | [a,b]=> k a b
  | _=> bad
def uq3 (w:W) (k:W→W→W→MC):MC:=items w fun ws=> match ws with
  | [a,b,c]=> k a b c
  | _=> bad
def uq4 (w:W) (k:W→W→W→W→MC):MC:=items w fun ws=> match ws with
  | [a,b,c,d]=> k a b c d
  | _=> bad
def uq5 (w:W) (k:W→W→W→W→W→MC):MC:=items w fun ws=> match ws with
  | [a,b,c,d,e]=> k a b c d e
  | _=> bad
def A6X (w:W) (k:W→SV→MC):MC:=items w fun ws=> match ws with
  | x::r=> k x (.own (.seq r))
  | _=> bad
def V1 (body:W→(Option W→MC)→MC) (k:List W→MC):List W→List W→MC
  | [],acc=> k acc
  | w::ws,acc=> body w fun o=> match o with
    | some y=> K6 (acc.length < sizeLine) (V1 body k ws (acc++[y]))
    | none=> V1 body k ws acc
def o6 (it:E6) (body:W→(Option W→MC)→MC):CE:=fun k=> it fun ws=> V1 body (fun acc=> k (.own (.seq acc))) ws []
def m7 {σ:Type} (body:W→σ→(σ→MC)→(σ→MC)→MC) (k:σ→MC):List W→σ→MC
  | [],s=> k s
  | w::ws,s=> body w s (m7 body k ws) k
def join {σ:Type} (k:σ→MC) (f:(σ→MC)→MC):MC:=f k
def SV.isSq (h:AH):SV→Prop
  | .own (.seq _)=> True
  | .val (.ref a)=> ∃xs,h a=some (.cont (.seq xs))
  | _=> False
def isq (x:SV) (m:MC):MC:=fun h Q E=> x.isSq h∧m h Q E
def lm (f:T3) (x:SV) (ws:List W) (k:SV→W→MC):MC:=fun h Q E=> match x with
  | .own (.seq xs)=> f xs ws fun xs' w=> k (.own (.seq xs')) w h Q E
  | .val (.ref a)=> (match h a with
    | some (.cont (.seq xs))=> f xs ws fun xs' w=> k (.val (.ref a)) w (C6 h a (.cont (.seq xs'))) Q E
    | _=> False)
  | _=> False
def ext (x y:SV) (k:SV→MC):MC:=fun h Q E=> match M5 h y with
  | .cv (.seq ys)=> (match x with
    | .own (.seq xs)=> xs.length+ys.length≤sizeLine∧k (.own (.seq (xs++ys))) h Q E
    | .val (.ref a)=> (match h a with
      | some (.cont (.seq xs))=> xs.length+ys.length≤sizeLine∧k (.val (.ref a)) (C6 h a (.cont (.seq (xs++ys)))) Q E
      | _=> False)
    | _=> False)
  | _=> False
def A2e (x y:SV) (w:W) (k:SV→MC):MC:=fun h Q E=> match M5 h y with
  | .wv (.int i)=> (match x with
    | .own (.seq xs)=> ∃j,ixN xs.length i=some j∧k (.own (.seq (xs.set j w))) h Q E
    | .val (.ref a)=> (match h a with
      | some (.cont (.seq xs))=> ∃j,ixN xs.length i=some j∧k (.val (.ref a)) (C6 h a (.cont (.seq (xs.set j w)))) Q E
      | _=> False)
    | _=> False)
  | _=> False
def B6T (f:Int→Int→Int) (x y:SV) (e:CE) (k:SV→MC):MC:=S8 y fun i=> K6 (0≤i∧i < 2 ^ 62) fun h Q E=> match x with
  | .own (.seq xs)=> (match xs[i.toNat]? with
    | some (.int a)=> e (fun z=> S8 z fun b=> k (.own (.seq (xs.set i.toNat (.int (f a b)))))) h Q E
    | _=> False)
  | .val (.ref p)=> (match h p with
    | some (.cont (.seq xs))=> (match xs[i.toNat]? with
      | some (.int a)=> e (fun z=> S8 z fun b=> fun h' Q E=> match h' p with
        | some (.cont (.seq ys))=> i.toNat < ys.length∧k (.val (.ref p)) (C6 h' p (.cont (.seq (ys.set i.toNat (.int (f a b)))))) Q E
        | _=> False) h Q E
      | _=> False)
    | _=> False)
  | _=> False
def B1v (x:SV) (k:SV→MC):MC:=S8 x fun n=> K6 (0≤n∧n≤16777216) (k (.own (.seq (R9 0 n.toNat))))
def B1Z (a:CE):CE:=fun k=> a fun x=> B1v x k
def L7 (mc:CB) (m1 m2:MC):MC:=mc fun b=> if b=true then m1 else m2
def A11 {σ:Type} (mi:E6) (s0:σ) (body:W→σ→(σ→MC)→(σ→MC)→MC) (k:σ→MC):MC:=mi fun ws=> m7 body k ws s0
def lmC (f:T3) (x:SV) (ma:E6) (k:SV→W→MC):MC:=isq x (ma fun ws=> lm f x ws k)
def A9B (x:SV) (m:CE) (k:SV→MC):MC:=isq x (m fun y=> ext x y k)
def y8 (mv:CW) (x:SV) (m:CE) (k:SV→MC):MC:=mv fun w=> m fun y=> A2e x y w k
def C5R (mv:CW) (x:SV) (m:CE) (m2:SV→CE) (k:SV→MC):MC:=mv fun w=> un2 w fun a b=> m fun y=> A2e x y a fun x1=> m2 x1 fun y2=> A2e x1 y2 b k
def C6C (f:Int→Int→Int) (x:SV) (m m2:CE) (k:SV→MC):MC:=m fun y=> B6T f x y m2 k
def pr2 (ws:List W) (k:W→W→MC):MC:=match ws with
  | [v,w]=> k v w
  | _=> bad
def C6L (ma:E6) (k:W→W→MC):MC:=ma fun ws=> pr2 ws k
def A8j (mv:CW) (k:W→SV→MC):MC:=mv fun w=> A6X w k
def A4a (x:SV) (k:W→MC):MC:=fun h Q E=> match x with
  | .own c=> ∀p,h p=none→k (.ref p) (C6 h p (.cont c)) Q E
  | _=> False
def u7 (m:CE):CW:=fun k=> m fun x=> A4a x k
def lmR (f:T3) (x:SV) (ma:E6) (k:MC):MC:=fun h Q E=> match x with
  | .val (.ref p)=> (∃xs,h p=some (.cont (.seq xs)))∧(ma fun ws=> fun h2 Q E=> match h2 p with
    | some (.cont (.seq xs))=> f xs ws fun xs' _=> k (C6 h2 p (.cont (.seq xs'))) Q E
    | _=> False) h Q E
  | _=> False
def lmE (f:T3) (m:CE) (ma:E6) (k:MC):MC:=m fun x=> lmR f x ma k
def upc (f:List W→MC):I9:=fun ws h Q E=> ∃Q0 E0,(∀r k,Q0 r k→Q r k)∧(∀x k,E0 x k→E x k)∧f ws h Q0 E0
theorem upc.m {f:List W→MC}:R0 (upc f):=fun ws h Q Q' E E' k k' ⟨Q0,E0,a,b,z⟩=> ⟨Q0,E0,fun r h q=> k _ _ (a r h q),fun r h q=> k' _ _ (b r h q),z⟩
end Ab
namespace Ab
open PySem PySem.Spec PyProof.Rows L2 RZ
def Rl (env:A1):RV→SV→Prop
  | .val w,s=> s= .val w
  | .own c,s=> s= .own c
  | .slot i,s=> ∃c,s= .own c∧env[i]? =some (some (.own c))
theorem W7 {env:A1} {h:AH} {r:RV} {s:SV} (a:Rl env r s):view env h r=M5 h s:=by
  cases r with
  | val w=> cases a;rfl
  | own c=> cases a;rfl
  | slot i=> obtain ⟨c,rfl,e⟩:=a;show B1X env[i]? =_;rw [e];rfl
section
variable {Q:RR→AH→Prop} {E:AExc→AH→Prop} {env:A1}
def SE (Q:RR→AH→Prop) (E:AExc→AH→Prop) (env:A1) (t:AT) (m:CE):Prop:=∀h (k:SV→MC) (K:RV→A1→AH→Prop),(∀r s h',Rl env r s→k s h' Q E→K r env h')→m k h Q E→t env h K
def SN (Q:RR→AH→Prop) (E:AExc→AH→Prop) (env:A1) (t:AT) (m:CE):Prop:=∀h (k:SV→MC) (K:RV→A1→AH→Prop),(∀s h',k s h' Q E→K s.rv env h')→m k h Q E→t env h K
def SA {α:Type} (Q:RR→AH→Prop) (E:AExc→AH→Prop) (env:A1) (t:A1→AH→(α→A1→AH→Prop)→Prop) (m:(α→MC)→MC):Prop:=∀h (k:α→MC) (K:α→A1→AH→Prop),(∀s h',k s h' Q E→K s env h')→m k h Q E→t env h K
inductive Rls (env:A1):List RV→List SV→Prop where
  | nil:Rls env [] []
  | cons {r:RV} {rs:List RV} {s:SV} {ss:List SV}:Rl env r s→Rls env rs ss→Rls env (r::rs) (s::ss)
theorem B4O {h:AH} {rs:List RV} {ss:List SV} (a:Rls env rs ss):rs.map (view env h)=ss.map (M5 h):=by
  induction a with
  | nil=> rfl
  | cons a _ ih=> rw [List.map_cons,List.map_cons,W7 a,ih]
def SR (Q:RR→AH→Prop) (E:AExc→AH→Prop) (env:A1) (t:X7) (m:CS):Prop:=∀h (k:List SV→MC) (K:List RV→A1→AH→Prop),(∀r s h',Rls env r s→k s h' Q E→K r env h')→m k h Q E→t env h K
theorem C5g {s:SV}:Rl env s.rv s:=by cases s <;> rfl
variable {t t1 t2 t3:AT} {m m1 m2 m3:CE} {tv:D5} {mv:CW} {ta ta2:I6} {ma ma2:E6} {tb tb2:L8} {mb mb2:CB} {tr:X7} {mr:CS} {tl th:AOT} {ml mh:CO} {ti:X6} {mi:E6}
theorem SN.se (a:SN Q E env t m):SE Q E env t m:=fun h k K hk z=> a h k K (fun s h' z=> hk _ _ _ C5g z) z
theorem s4 {i:Nat} {x:SV} (e:env[i]? =some (some x)):SE Q E env (aVar i) (eV x):=fun h k K hk z=> by
  unfold aVar
  rw [e]
  cases x with
  | val w=> exact hk (.val w) (.val w) h rfl z
  | own c=> exact hk (.slot i) (.own c) h ⟨c,rfl,e⟩ z
theorem A3 {i:Nat} {w:W} (e:env[i]? =some (some (.val w))):SN Q E env (aVar i) (eV (.val w)):=fun h k K hk z=> by
  unfold aVar
  rw [e]
  exact hk (.val w) h z
theorem A8 {w:W}:SN Q E env (aC w) (eC w):=fun h k K hk z=> hk _ _ z
def Z7 (o:M7):Prop:=∀a b Q Q',(∀r,Q r→Q' r)→o a b Q→o a b Q'
def A1w (o:M3):Prop:=∀as Q Q',(∀r,Q r→Q' r)→o as Q→o as Q'
theorem A6G {k:SV→MC} {K:RV→A1→AH→Prop} {h:AH} (hk:∀s h',k s h' Q E→K s.rv env h') (r:RV) (z:v5 k r h Q E):K r env h:=by
  cases r with
  | val w=> exact hk (.val w) h z
  | own c=> exact hk (.own c) h z
  | slot i=> exact z.elim
theorem C1 {o:M7} (om:Z7 o) (a:SE Q E env t1 m1) (b:SE Q E env t2 m2):SN Q E env (aOp2 o t1 t2) (A9 o m1 m2):=fun h k K hk z=>
  a h _ _ (fun rx x h1 r1 z=> b h1 _ _ (fun ry y h2 r2 z=> by rw [W7 r1,W7 r2];exact om _ _ _ _ (fun r z=> A6G hk r z) z) z) z
theorem A6 (a:SN Q E env t m):SA Q E env (aFz t) (A0 m):=fun h k K hk z=> a h _ _ (fun s h' z=> by
  cases s with
  | val w=> exact hk _ _ z
  | own c=> exact hk _ _ z) z
theorem C2:SA Q E env aNil C0:=fun h k K hk z=> hk _ _ z
theorem A7 (a:SA Q E env tv mv) (b:SA Q E env ta ma):SA Q E env (aCons tv ta) (A4 mv ma):=fun h k K hk z=> a h _ _ (fun w h1 z=> b h1 _ _ (fun ws h2 z=> hk _ _ z) z) z
theorem n8 (a:SA Q E env ta ma):SN Q E env (aTup ta) (R1 ma):=fun h k K hk z=> a h _ _ (fun ws h1 z=> ⟨z.1,hk (.val _) _ z.2⟩) z
theorem P6 (a:SA Q E env ta ma):SN Q E env (aLst ta) (O1 ma):=fun h k K hk z=> a h _ _ (fun ws h1 z=> ⟨z.1,hk (.own _) _ z.2⟩) z
theorem A08 (a:SN Q E env t m):SA Q E env (aPrm t) (u7 m):=fun h k K hk z=> a h _ _ (fun s h' z=> by
  cases s with
  | val w=> exact z.elim
  | own c=> exact fun p n=> hk _ _ (z p n)) z
theorem A3X {x:SV} {k:Int→MC} {h:AH} (z:S8 x k h Q E):∃i,M5 h x= .wv (.int i)∧k i h Q E:=by
  unfold S8 at z
  split at z
  · rename_i i e;exact ⟨i,e,z⟩
  · exact z.elim
theorem B0h {x:SV} {k:Bool→MC} {h:AH} (z:V2 x k h Q E):∃i,M5 h x= .wv (.bl i)∧k i h Q E:=by
  unfold V2 at z
  split at z
  · rename_i i e;exact ⟨i,e,z⟩
  · exact z.elim
theorem A3m:SA Q E env A1a oNo:=fun h k K hk z=> hk _ _ z
theorem A3P (a:SE Q E env t m):SA Q E env (A1u t) (A1o m):=fun h k K hk z=> a h _ _ (fun r s h1 rl z=> by
  obtain ⟨i,e,z⟩:=A3X z
  rw [W7 rl,e]
  exact hk _ _ z) z
theorem A3q (a:SE Q E env t m) (b:SA Q E env tl ml) (c:SA Q E env th mh):SN Q E env (aSl t tl th) (eSl m ml mh):=fun h k K hk z=>
  a h _ _ (fun r s h1 rl z=> b h1 _ _ (fun l h2 z=> c h2 _ _ (fun u h3 z=> by rw [W7 rl];exact oSl.mono (fun r z=> A6G hk r z) z) z) z) z
theorem H9:SR Q E env G9 E7:=fun h k K hk z=> hk _ _ _ .nil z
theorem F5 (a:SE Q E env t m) (b:SR Q E env tr mr):SR Q E env (F0 t tr) (D7 m mr):=fun h k K hk z=> a h _ _ (fun r s h1 rl z=> b h1 _ _ (fun rs ss h2 rls z=> hk _ _ _ (.cons rl rls) z) z) z
theorem J8 {o:M3} (om:A1w o) (a:SR Q E env tr mr):SN Q E env (aCB o tr) (F6 o mr):=fun h k K hk z=> a h _ _ (fun rs ss h1 rl z=> by
  rw [B4O rl]
  exact om _ _ _ (fun r z=> A6G hk r z) z) z
theorem A0M:SA Q E env m8 tYes:=fun h k K hk z=> hk _ _ z
theorem I0 (a:SE Q E env t m):SA Q E env (aTst t) (F8 m):=fun h k K hk z=> a h _ _ (fun r s h1 rl z=> by
  obtain ⟨i,e,z⟩:=B0h z
  rw [W7 rl,e]
  exact hk _ _ z) z
theorem A3b {b:Bool} {A B:MC} {P R:Prop} {h:AH} (x:A h Q E→P) (y:B h Q E→R) (z:(if b=true then A else B) h Q E):if b=true then P else R:=by
  cases b with
  | true=> rw [if_pos rfl] at z ⊢;exact x z
  | false=> rw [if_neg Bool.false_ne_true] at z ⊢;exact y z
theorem A8Y (a:SA Q E env tb mb) (b:SA Q E env tb2 mb2):SA Q E env (aAndT tb tb2) (tAnd mb mb2):=fun h k K hk z=> a h _ _ (fun x h1 z=> A3b (fun z=> b h1 _ _ hk z) (fun z=> hk _ _ z) z) z
theorem A1t (a:SA Q E env tb mb) (b:SA Q E env tb2 mb2):SA Q E env (aOrT tb tb2) (tOr mb mb2):=fun h k K hk z=> a h _ _ (fun x h1 z=> A3b (fun z=> hk _ _ z) (fun z=> b h1 _ _ hk z) z) z
theorem A1D (a:SA Q E env tb mb):SA Q E env (aNotT tb) (z8 mb):=fun h k K hk z=> a h _ _ (fun x h1 z=> hk _ _ z) z
theorem A6M (c:SA Q E env tb mb) (a:SN Q E env t1 m1) (b:SN Q E env t2 m2):SN Q E env (aIfE tb t1 t2) (eIf mb m1 m2):=fun h k K hk z=> c h _ _ (fun x h1 z=> A3b (fun z=> a h1 _ _ hk z) (fun z=> b h1 _ _ hk z) z) z
theorem A0L (a:SE Q E env t1 m1) (b:SN Q E env t2 m2):SN Q E env (t9 t1 t2) (v4 m1 m2):=fun h k K hk z=> a h _ _ (fun r s h1 rl z=> by
  obtain ⟨i,e,z⟩:=B0h z
  rw [W7 rl,e]
  exact A3b (fun z=> b h1 _ _ hk z) (fun z=> hk (.val _) _ z) z) z
theorem B6C (a:SE Q E env t1 m1):SN Q E env (A87 t1) (A9G m1):=fun h k K hk z=> a h _ _ (fun r s h1 rl z=> by
  obtain ⟨i,e,z⟩:=B0h z
  rw [W7 rl,e]
  exact hk (.val _) _ z) z
theorem B1B (a:SE Q E env t1 m1):SN Q E env (A6h t1) (A6V m1):=fun h k K hk z=> a h _ _ (fun r s h1 rl z=> by
  obtain ⟨i,e,z⟩:=A3X z
  rw [W7 rl,e]
  exact hk (.val _) _ z) z
theorem A3h {P P':Int→Int→Bool} (a:SE Q E env t1 m1) (b:SE Q E env t2 m2) (c:SE Q E env t3 m3):SN Q E env (aChn P P' t1 t2 t3) (A10 P P' m1 m2 m3):=fun h k K hk z=>
  a h _ _ (fun r s h1 rl z=> b h1 _ _ (fun r2 s2 h2 rl2 z=> by
    obtain ⟨i,e,z⟩:=A3X z
    obtain ⟨j,e2,z⟩:=A3X z
    rw [W7 rl,W7 rl2,e,e2]
    refine A3b (fun z=> c h2 _ _ (fun r3 s3 h3 rl3 z=> ?_) z) (fun z=> hk (.val _) _ z) z
    obtain ⟨l,e3,z⟩:=A3X z
    rw [W7 rl3,e3]
    exact hk (.val _) _ z) z) z
theorem C3O {E':AExc→A1→AH→Prop} {f:List W→MC} {ws:List W} {h:AH} {k:SV→MC} {K:RV→A1→AH→Prop} (hk:∀s h',k s h' Q E→K s.rv env h') (hE:∀x h,E x h→E' x env h) (z:call (f ws) k h Q E):
    upc f ws h (fun r h2=> match r with
  | .val w=> K (.val w) env h2
  | .own c=> K (.own c) env h2) fun x h2=> E' x env h2:=
  ⟨_,_,fun r h' z=> by cases r <;> exact hk _ _ z,hE,z⟩
theorem L4 {E':AExc→A1→AH→Prop} {f:List W→MC} (hE:∀x h,E x h→E' x env h) (a:SA Q E env ta ma):SN Q E env (aCall E' (upc f) ta) (G6 f ma):=fun h k K hk z=> a h _ _ (fun ws h1 z=> C3O hk hE z) z
theorem A3J {f:List W→MC} (a:SA Q E env ta ma):SN Q E env (aCall E0 (upc f) ta) (A1B f ma):=fun h k K hk z=> a h _ _ (fun ws h1 z=> ⟨_,_,fun r h' z=> by cases r <;> exact hk _ _ z,fun _ _ z=> z,z⟩) z
theorem B0C {w:W} {k:List W→MC} {h:AH} (z:items w k h Q E):∃ws,(w= .tup ws∨w= .lst ws)∧k ws h Q E:=by
  unfold items at z
  split at z
  · exact ⟨_,.inl rfl,z⟩
  · exact ⟨_,.inr rfl,z⟩
  · exact z.elim
theorem A05 (a:SA Q E env tv mv):SA Q E env (iSq tv) (w8 mv):=fun h k K hk z=> a h _ _ (fun w h1 z=> by
  obtain ⟨ws,e,z⟩:=B0C z
  rcases e with rfl | rfl <;> exact hk _ _ z) z
theorem B41 (a:SA Q E env tv mv):SA Q E env (iEn tv) (A8q mv):=fun h k K hk z=> a h _ _ (fun w h1 z=> by
  unfold A4P at z
  split at z
  · exact hk _ _ z
  · obtain ⟨ws,e,z⟩:=B0C z
    rcases e with rfl | rfl <;> exact hk _ _ z) z
theorem A4A (a:SR Q E env tr mr):SA Q E env (A2n tr) (A2f mr):=fun h k K hk z=> a h _ _ (fun rs ss h1 rl z=> by
  rw [B4O rl]
  unfold A9M at z
  split at z
  · obtain ⟨j,e,z⟩:=A3X z
    rw [List.map_cons,List.map_nil,e]
    exact ⟨z.1.1,z.1.2,hk _ _ z.2⟩
  · exact z.elim) z
def Gd (g:K5) (w:W) (env e1:A1):Prop:=∀h (K:A1→AH→Prop),K e1 h→g w env h K
theorem P7 {i:Nat} {w:W}:Gd (K4 i) w env (env.set i (some (.val w))):=fun h K k=> k
theorem A9L {g1 g2:K5} {a b:W} {e1 e2:A1} (d1:Gd g1 a env e1) (d2:Gd g2 b e1 e2):Gd (gTp 2 (A0E g1 (A0E g2 A4V))) (.tup [a,b]) env e2:=fun h K k=>
  ⟨rfl,a,[b],rfl,d1 h _ ⟨b,[],rfl,d2 h _ ⟨rfl,k⟩⟩⟩
theorem A8P {w:W} {f:W→W→MC} {h:AH} (z:un2 w f h Q E):∃a b,w= .tup [a,b]∧f a b h Q E:=by
  unfold un2 at z
  split at z
  · exact ⟨_,_,rfl,z⟩
  · exact z.elim
theorem C2X {w:W} {f:W→SV→MC} {h:AH} (z:A6X w f h Q E):∃x r,(w= .tup (x::r)∨w= .lst (x::r))∧f x (.own (.seq r)) h Q E:=by
  obtain ⟨ws,e,z⟩:=B0C z
  split at z
  · exact ⟨_,_,e,z⟩
  · exact z.elim
def o5 (mt:CB) (me:CW) (kk:Option W→MC):MC:=mt fun b=> if b=true then me fun y=> kk (some y) else kk none
theorem w4 {vs:List Nat} {g:K5} {w:W} {e1:A1} (gd:Gd g w (P8 env vs) e1) (tst:SA Q E e1 tb mb) (elt:SA Q E e1 tv mv) (hm:mend env e1 vs=env) {h:AH} {kk:Option W→MC} {K1:W→A1→AH→Prop} {K0:A1→AH→Prop}
    (h1:∀y h',kk (some y) h' Q E→K1 y env h') (h0:∀h',kk none h' Q E→K0 env h') (z:o5 mb mv kk h Q E):
    g w (P8 env vs) h fun e1 h1=> tb e1 h1 fun b e2 h2=> if b=true then tv e2 h2 fun y e3 h3=> K1 y (mend env e3 vs) h3 else K0 (mend env e2 vs) h2:=
  gd h _ (tst h _ _ (fun b h2 z=> A3b (fun z=> elt h2 _ _ (fun y h3 z=> by rw [hm];exact h1 y h3 z) z) (fun z=> by rw [hm];exact h0 h2 z) z) z)
def LcB (Q:RR→AH→Prop) (E:AExc→AH→Prop) (env:A1) (vs:List Nat) (g:K5) (tt:L8) (te:D5) (mb:W→(Option W→MC)→MC):Prop:=
  ∀w h (kk:Option W→MC) (K1:W→A1→AH→Prop) (K0:A1→AH→Prop),(∀y h',kk (some y) h' Q E→K1 y env h')→(∀h',kk none h' Q E→K0 env h')→mb w kk h Q E→
    g w (P8 env vs) h fun e1 h1=> tt e1 h1 fun b e2 h2=> if b=true then te e2 h2 fun y e3 h3=> K1 y (mend env e3 vs) h3 else K0 (mend env e2 vs) h2
theorem A8y {vs:List Nat} {g:K5} {body:W→(Option W→MC)→MC} {k:List W→MC} {K:List W→A1→AH→Prop} (hk:∀acc h',k acc h' Q E→K acc env h') (b:LcB Q E env vs g tb tv body):
    ∀(ws acc:List W) (h:AH),V1 body k ws acc h Q E→lcLoop vs g tb tv K ws acc env h
  | [],acc,h,z=> hk acc h z
  | w::ws,acc,h,z=> b w h _ (fun y e3 h3=> acc.length < sizeLine∧lcLoop vs g tb tv K ws (acc++[y]) e3 h3) (fun e2 h2=> lcLoop vs g tb tv K ws acc e2 h2)
      (fun y h' z=> ⟨z.1,A8y hk b ws (acc++[y]) h' z.2⟩) (fun h' z=> A8y hk b ws acc h' z) z
theorem A1J {vs:List Nat} {g:K5} {body:W→(Option W→MC)→MC} (it:SA Q E env ti mi) (b:LcB Q E env vs g tb tv body):SN Q E env (W1 vs ti g tb tv) (o6 mi body):=fun h k K hk z=>
  it h _ _ (fun ws h1 z=> A8y (k:=fun acc=> k (.own (.seq acc))) (fun acc h' z=> hk (.own (.seq acc)) h' z) b ws [] h1 z) z
theorem C22 (a:SE Q E env t m):SN Q E env (B1J t) (B1Z m):=fun h k K hk z=> a h _ _ (fun r s h1 rl z=> by
  obtain ⟨i,e,z⟩:=A3X z
  rw [W7 rl,e]
  exact ⟨z.1,hk (.own _) _ z.2⟩) z
variable {D:AEnds} {s u:D1} {i j:Nat}
theorem D8 {mc:MC} (a:∀h,mc h Q E→s { D with nx:=u D } env h):∀h,mc h Q E→aSeq s u D env h:=a
theorem D9 {mc:MC} (a:∀h,mc h Q E→u D env h):∀h,mc h Q E→({ D with nx:=u D }:AEnds).nx env h:=a
theorem J0 (hr:∀r s env h,Rl env r s→Q s.rr h→D.rt r env h) (a:SE Q E env t m):∀h,(m ret) h Q E→I5 t D env h:=fun h z=> a h _ _ (fun r s h' rl z=> hr _ _ _ _ rl z) z
theorem C3j {mc:MC} (a:∀h,mc h Q E→t env h D.rt):∀h,mc h Q E→I5 t D env h:=a
theorem A1Y {k:SV→MC} (a:SE Q E env t m) (n:∀s h,k s h Q E→D.nx env h):∀h,(m k) h Q E→T1 t D env h:=fun h z=> a h _ _ (fun r s h' rl z=> n s h' z) z
theorem A4N {k:SV→MC} (e':SV→A1) (he:∀x,env.set i (some x)=e' x) (a:SN Q E env t m) (n:∀x h,k x h Q E→D.nx (e' x) h):∀h,(m k) h Q E→A2r i t D env h:=fun h z=> a h _ _ (fun s h' z=> by
  have q:=n s h' z
  rw [←he] at q
  cases s <;> exact q) z
theorem T8 {k:W→MC} (e':W→A1) (he:∀x,env.set i (some (.val x))=e' x) (a:SA Q E env tv mv) (n:∀x h,k x h Q E→D.nx (e' x) h):∀h,(mv k) h Q E→N4 tv (K4 i) D env h:=fun h z=> a h _ _ (fun s h' z=> by
  have q:=n s h' z
  rw [←he] at q
  exact q) z
theorem C3x {P R:A1→AH→Prop} {h:AH} (q:P env h):m8 env h fun b e2 h2=> if b=true then P e2 h2 else R e2 h2:=by
  show (if true=true then P env h else R env h)
  rw [if_pos rfl]
  exact q
theorem A1p {P R:AH→Prop} (h:AH) (z:P h) (f:∀h,P h→R h):R h:=f h z
theorem A1e {g:K5} {w:W} {e1:A1} (e2:A1) (gd:Gd g w env e1) (he:e1=e2):Gd g w env e2:=he▸gd
theorem C2H {vs:List Nat} {g:K5} {body:W→(Option W→MC)→MC} {k:SV→MC} (e':SV→A1) (he:∀x,env.set i (some x)=e' x) (it:SA Q E env ti mi) (b:LcB Q E env vs g tb tv body) (n:∀x h,k x h Q E→D.nx (e' x) h):∀h,(o6 mi body k) h Q E→B1E i (W1 vs ti g tb tv) D env h:=fun h z=>
  it h _ _ (fun ws h1 z=> A8y (k:=fun acc=> k (.own (.seq acc))) (fun acc h' z=> by
    have q:=n (.own (.seq acc)) h' z
    rw [←he] at q
    exact q) b ws [] h1 z) z
theorem B5U {k:W→SV→MC} (e':W→SV→A1) (he:∀v w,(env.set i (some (.val v))).set j (some w)=e' v w) (a:SA Q E env tv mv) (n:∀v w h,k v w h Q E→D.nx (e' v w) h):∀h,A8j mv k h Q E→aStar i j tv D env h:=fun h z=> a h _ _ (fun w h' z=> by
  obtain ⟨x,r,e,z⟩:=C2X z
  have q:=n _ _ _ z
  rw [←he] at q
  rcases e with rfl | rfl <;> exact q) z
theorem N3 {c:L8} {mc:CB} {m1 m2:MC} (a:SA Q E env c mc) (x:∀h,m1 h Q E→s D env h) (y:∀h,m2 h Q E→u D env h):∀h,L7 mc m1 m2 h Q E→M4 c s u D env h:=fun h z=>
  a h _ _ (fun b h' z=> A3b (x h') (y h') z) z
theorem N7 {mc:MC} (n:∀h,mc h Q E→D.nx env h):∀h,mc h Q E→N5 D env h:=n
theorem A54 {x:SV} {mc:MC} (e':A1) (he:env.set i (some (.val x.fz))=e') (e:env[i]? =some (some x)) (a:∀h,mc h Q E→s D e' h):∀h,mc h Q E→aFrz i s D env h:=fun h z=> by
  have q:=a h z
  rw [←he] at q
  unfold aFrz
  rw [e]
  cases x with
  | own c=> exact q
  | val w=>
    obtain ⟨hi,e'⟩:=List.getElem?_eq_some_iff.mp e
    have:env.set i (some (SV.val (SV.val w).fz))=env:=by
      conv=> rhs;rw [←List.set_getElem_self (as:=env) hi]
      rw [e']
      rfl
    rw [this] at q
    exact q
theorem C2y {x:SV} {k:W→MC} (e':W→A1) (he:∀p,env.set i (some (.val p))=e' p) (e:env[i]? =some (some x)) (a:∀p h,k p h Q E→s D (e' p) h):∀h,A4a x k h Q E→A4U i s D env h:=fun h z=> by
  unfold A4U
  rw [e]
  cases x with
  | val w=> exact z.elim
  | own c=>
    intro p n
    have q:=a _ _ (z p n)
    rw [←he] at q
    exact q
theorem B5B {β J:Type} {kk:β→MC} {f:(β→MC)→MC} (envOf:β→J→A1) (r:∀b j h,kk b h Q E→u D (envOf b j) h)
    (b:(∀b j h,kk b h Q E→({ D with nx:=u D }:AEnds).nx (envOf b j) h)→∀h,f kk h Q E→s { D with nx:=u D } env h):∀h,join kk f h Q E→aSeq s u D env h:=b r
theorem B5D {σ J:Type} {g:K5} {tb:D1} {body:W→σ→(σ→MC)→(σ→MC)→MC} {k:σ→MC} (envOf:σ→J→A1) (r:∀s j h,k s h Q E→D.nx (envOf s j) h)
    (b:∀w s j (kn:σ→MC) (N:A1→AH→Prop),(∀s j h,kn s h Q E→N (envOf s j) h)→∀h,body w s kn k h Q E→g w (envOf s j) h fun e1 h1=> tb { D with nx:=N,ct:=N,bk:=D.nx } e1 h1):
    ∀ws s j h,m7 body k ws s h Q E→aLoop g tb D ws (envOf s j) h
  | [],s,j,h,z=> r s j h z
  | w::ws,s,j,h,z=> b w s j (m7 body k ws) (aLoop g tb D ws) (fun s j h z=> B5D envOf r b ws s j h z) h z
theorem A3g {σ J:Type} {g:K5} {tb:D1} {body:W→σ→(σ→MC)→(σ→MC)→MC} {k:σ→MC} (envOf:σ→J→A1) (s0:σ) (j0:J) (he:envOf s0 j0=env) (it:SA Q E env ti mi) (r:∀s j h,k s h Q E→D.nx (envOf s j) h)
    (b:(∀s j h,k s h Q E→D.nx (envOf s j) h)→∀w s j (kn:σ→MC) (N:A1→AH→Prop),(∀s j h,kn s h Q E→N (envOf s j) h)→∀h,body w s kn k h Q E→g w (envOf s j) h fun e1 h1=> tb { D with nx:=N,ct:=N,bk:=D.nx } e1 h1):
    ∀h,A11 mi s0 body k h Q E→A1y ti g tb D env h:=fun h z=> it h _ _ (fun ws h' z=> he▸B5D envOf r (b r) ws s0 j0 h' z) z
theorem B07 {x:SV} (e:env[i]? =some (some x)):env.set i (some x)=env:=by
  obtain ⟨hi,e'⟩:=List.getElem?_eq_some_iff.mp e
  conv=> rhs;rw [←List.set_getElem_self (as:=env) hi]
  rw [e']
theorem B0Q {x:SV} {h:AH} {K:RV→A1→AH→Prop} (e:env[i]? =some (some x)) (q:∀r,(∃c,x= .own c∧r= .slot i)∨(∃w,x= .val w∧r= .val w)→K r env h):aVar i env h K:=by
  unfold aVar
  rw [e]
  cases x with
  | val w=> exact q _ (.inr ⟨w,rfl,rfl⟩)
  | own c=> exact q _ (.inl ⟨c,rfl,rfl⟩)
theorem A7t {h:AH} {c:Cont} (e:env[i]? =some (some (.own c))):P0 env h (.slot i)=some c:=by
  show (match env[i]? with
    | some (some (.own c))=> some c
    | _=> none)=_
  rw [e]
theorem A1b {h:AH} {p:Addr} {c:Cont} (e:h p=some (.cont c)):P0 env h (.val (.ref p))=some c:=by
  show (match h p with
    | some (.cont c)=> some c
    | _=> none)=_
  rw [e]
def LmM (f:T3):Prop:=∀xs ws Q Q',(∀a b,Q a b→Q' a b)→f xs ws Q→f xs ws Q'
theorem B6h {f:T3} {x:SV} {k:SV→W→MC} {K:RV→A1→AH→Prop} (fm:LmM f) (e:env[i]? =some (some x)) (a:SA Q E env ta ma) (n:∀x' w h,k x' w h Q E→K (.val w) (env.set i (some x')) h):
    ∀h,lmC f x ma k h Q E→aLm f (aVar i) ta env h K:=fun h z=> by
  refine B0Q e fun r hr=> ?_
  obtain ⟨zi,z⟩:=z
  rcases hr with ⟨c,rfl,rfl⟩ | ⟨w,rfl,rfl⟩
  · have pl:P0 env h (.slot i)=some c:=A7t e
    cases c with
    | map kvs=> exact zi.elim
    | seq xs=>
      refine ⟨by rw [pl];trivial,a h _ _ (fun ws h2 z=> ?_) z⟩
      have pl:P0 env h2 (.slot i)=some (.seq xs):=A7t e
      rw [pl]
      exact fm _ _ _ _ (fun xs' w z=> n _ _ _ z) z
  · cases w with
    | ref p=>
      obtain ⟨xs,ep⟩:=zi
      have pl:P0 env h (.val (.ref p))=some (.seq xs):=A1b ep
      refine ⟨by rw [pl];trivial,a h _ _ (fun ws h2 z=> ?_) z⟩
      have z:(match h2 p with
        | some (.cont (.seq xs))=> f xs ws fun xs' w=> k (.val (.ref p)) w (C6 h2 p (.cont (.seq xs'))) Q E
        | _=> False):=z
      split at z
      · rename_i xs2 e2
        have pl:P0 env h2 (.val (.ref p))=some (.seq xs2):=A1b e2
        rw [pl]
        refine fm _ _ _ _ (fun xs' w z=> ?_) z
        have q:=n _ _ _ z
        rw [B07 e] at q
        exact q
      · exact z.elim
    | _=> exact zi.elim
theorem B1V {f:T3} {x:SV} {k:SV→W→MC} (e':SV→A1) (he:∀x,env.set i (some x)=e' x) (fm:LmM f) (e:env[i]? =some (some x)) (a:SA Q E env ta ma) (n:∀x' w h,k x' w h Q E→D.nx (e' x') h):∀h,lmC f x ma k h Q E→T1 (aLm f (aVar i) ta) D env h:=
  B6h (K:=fun _ env1 h1=> D.nx env1 h1) fm e a (fun x' w h z=> by rw [he];exact n x' w h z)
theorem B0p {f:T3} {m:CE} {k:MC} {to:AT} (fm:LmM f) (o:SN Q E env to m) (a:SA Q E env ta ma) (n:∀h,k h Q E→D.nx env h):∀h,lmE f m ma k h Q E→T1 (aLm f to ta) D env h:=fun h z=>
  o h _ _ (fun x h1 z=> by
    cases x with
    | own c=> exact z.elim
    | val w=>
      cases w with
      | ref p=>
        obtain ⟨⟨xs,ep⟩,z⟩:=z
        show A85 (P0 env h1 (.val (.ref p)))∧_
        rw [A1b ep]
        refine ⟨trivial,a h1 _ _ (fun ws h2 z=> ?_) z⟩
        show (match P0 env h2 (.val (.ref p)) with
          | some (.seq xs)=> f xs ws fun xs' w=> D.nx (A0S env (.val (.ref p)) (.seq xs')) (A0U h2 (.val (.ref p)) (.seq xs'))
          | _=> False)
        have z:(match h2 p with
          | some (.cont (.seq xs))=> f xs ws fun xs' _=> k (C6 h2 p (.cont (.seq xs'))) Q E
          | _=> False):=z
        split at z
        · rename_i xs2 e2
          rw [A1b e2]
          exact fm _ _ _ _ (fun xs' w z=> n _ z) z
        · exact z.elim
      | _=> exact z.elim) z
theorem B5t {x:SV} {k:SV→MC} (e':SV→A1) (he:∀x,env.set i (some x)=e' x) (e:env[i]? =some (some x)) (a:SE Q E env t m) (n0:∀x' h,k x' h Q E→D.nx (e' x') h):∀h,A9B x m k h Q E→T1 (aExt (aVar i) t) D env h:=fun h z=> by
  have n:∀x' h,k x' h Q E→D.nx (env.set i (some x')) h:=fun x' h z=> by rw [he];exact n0 x' h z
  refine B0Q (K:=fun ro env1 h1=> A85 (P0 env1 h1 ro)∧t env1 h1 fun re env2 h2=> match view env2 h2 re with
    | .cv (.seq ys)=> (match P0 env2 h2 ro with
      | some (.seq xs)=> xs.length+ys.length≤sizeLine∧D.nx (A0S env2 ro (.seq (xs++ys))) (A0U h2 ro (.seq (xs++ys)))
      | _=> False)
    | _=> False) e fun r hr=> ?_
  obtain ⟨zi,z⟩:=z
  rcases hr with ⟨c,rfl,rfl⟩ | ⟨w,rfl,rfl⟩
  · cases c with
    | map kvs=> exact zi.elim
    | seq xs=>
      have pl:∀h,P0 env h (.slot i)=some (.seq xs):=fun h=> A7t e
      refine ⟨by rw [pl];trivial,a h _ _ (fun re y h2 rl z=> ?_) z⟩
      rw [W7 rl]
      unfold ext at z
      split at z
      · rename_i ys e1
        first | rw [pl,e1] | rw [pl]
        exact ⟨z.1,n _ _ z.2⟩
      · exact z.elim
  · cases w with
    | ref p=>
      obtain ⟨xs,ep⟩:=zi
      have pl:P0 env h (.val (.ref p))=some (.seq xs):=A1b ep
      refine ⟨by rw [pl];trivial,a h _ _ (fun re y h2 rl z=> ?_) z⟩
      rw [W7 rl]
      unfold ext at z
      split at z
      · rename_i ys e1
        try rw [e1]
        have z:(match h2 p with
          | some (.cont (.seq xs))=> xs.length+ys.length≤sizeLine∧k (.val (.ref p)) (C6 h2 p (.cont (.seq (xs++ys)))) Q E
          | _=> False):=z
        split at z
        · rename_i xs2 e2
          have pl:P0 env h2 (.val (.ref p))=some (.seq xs2):=A1b e2
          rw [pl]
          have q:=n _ _ z.2
          rw [B07 e] at q
          exact ⟨z.1,q⟩
        · exact z.elim
      · exact z.elim
    | _=> exact zi.elim
theorem A3H {x:SV} {k:SV→MC} (e':SV→A1) (he:∀x,env.set i (some x)=e' x) (a:SA Q E env tv mv) (e:env[i]? =some (some x)) (b:SE Q E env t m) (n0:∀x' h,k x' h Q E→D.nx (e' x') h):∀h,y8 mv x m k h Q E→N4 tv (A1v (aVar i) t) D env h:=fun h z=> have n:∀x' h,k x' h Q E→D.nx (env.set i (some x')) h:=fun x' h z=> by rw [he];exact n0 x' h z
  a h _ _ (fun w h1 z=> by
  refine B0Q (K:=fun ro env1 h1=> t env1 h1 fun ri env2 h2=> match view env2 h2 ri with
    | .wv (.int k)=> match P0 env2 h2 ro with
      | some (.seq xs)=> ∃j,ixN xs.length k=some j∧D.nx (A0S env2 ro (.seq (xs.set j w))) (A0U h2 ro (.seq (xs.set j w)))
      | _=> False
    | _=> False) e fun r hr=> b h1 _ _ (fun ri y h2 rl z=> ?_) z
  rw [W7 rl]
  unfold A2e at z
  split at z
  · rename_i q e1
    try rw [e1]
    rcases hr with ⟨c,rfl,rfl⟩ | ⟨v,rfl,rfl⟩
    · cases c with
      | map kvs=> exact z.elim
      | seq xs=>
        have pl:P0 env h2 (.slot i)=some (.seq xs):=A7t e
        rw [pl]
        obtain ⟨j,ej,z⟩:=z
        exact ⟨j,ej,n _ _ z⟩
    · cases v with
      | ref p=>
        have z:(match h2 p with
          | some (.cont (.seq xs))=> ∃j,ixN xs.length q=some j∧k (.val (.ref p)) (C6 h2 p (.cont (.seq (xs.set j w)))) Q E
          | _=> False):=z
        split at z
        · rename_i xs2 e2
          have pl:P0 env h2 (.val (.ref p))=some (.seq xs2):=A1b e2
          rw [pl]
          obtain ⟨j,ej,z⟩:=z
          have q:=n _ _ z
          rw [B07 e] at q
          exact ⟨j,ej,q⟩
        · exact z.elim
      | _=> exact z.elim
  · exact z.elim) z
theorem A8K:Z7 u9:=fun _ _ _ _ k q=> oII.mono _ _ _ _ k q
theorem A2R:Z7 S0:=fun _ _ _ _ k q=> oII.mono _ _ _ _ k q
theorem B0R:Z7 s8:=fun _ _ _ _ k q=> oII.mono _ _ _ _ k q
theorem B0s:Z7 A2k:=fun _ _ _ _ k q=> oII.mono _ _ _ _ k q
theorem B1d:Z7 oLt:=fun _ _ _ _ k q=> oII.mono _ _ _ _ k q
theorem B63:Z7 oGt:=fun _ _ _ _ k q=> oII.mono _ _ _ _ k q
theorem B1c:Z7 oGe:=fun _ _ _ _ k q=> oII.mono _ _ _ _ k q
theorem T0:Z7 oAdd:=oAdd.mono
theorem K2:Z7 oIx:=oIx.mono
theorem A2Q:Z7 oMulT:=oMulT.mono
theorem O7 {neg:Bool}:Z7 (D4 neg):=fun a b Q Q' k q=> ⟨q.1,q.2.1,k _ q.2.2⟩
theorem A8M {neg:Bool}:Z7 (O3 neg):=fun a b Q Q' k q=> ⟨q.1,q.2.1,k _ q.2.2⟩
theorem B0m {neg:Bool}:Z7 (Z6 neg):=fun a b Q Q' k ⟨xs,x,y,z,q⟩=> ⟨xs,x,y,z,k _ q⟩
theorem R6:A1w E5:=fun as Q Q' k q=> by
  unfold E5 at q ⊢
  split at q
  · exact ⟨q.1,k _ q.2⟩
  · exact k _ q
  · obtain ⟨xs,e,q⟩:=q
    exact ⟨xs,e,k _ q⟩
  · exact q
theorem C2U:A1w y7:=fun as Q Q' k q=> by
  unfold y7 at q ⊢
  split at q
  · obtain ⟨ns,e,q⟩:=q
    exact ⟨ns,e,k _ q⟩
  · exact q
theorem A55 {g:List Bool→Bool}:A1w (oBls g):=oBls.mono
theorem A0I:A1w G8:=fun as Q Q' k q=> by
  unfold G8 at q ⊢
  split at q
  · obtain ⟨n,b,e,f,q⟩:=q
    exact ⟨n,b,e,f,k _ q⟩
  · exact q
theorem B5O:A1w Z5:=fun as Q Q' k q=> by
  unfold Z5 at q ⊢
  split at q
  · obtain ⟨xs,e,q⟩:=q
    exact ⟨xs,e,k _ q⟩
  · exact q
theorem A3N:A1w O2:=fun as Q Q' k q=> by
  unfold O2 at q ⊢
  split at q
  · obtain ⟨xs,e,q⟩:=q
    exact ⟨xs,e,k _ q⟩
  · exact q
theorem A3z:LmM Q5:=fun xs ws Q Q' k q=> by
  unfold Q5 at q ⊢
  split at q
  · exact ⟨q.1,k _ _ q.2⟩
  · exact q
theorem C0w:LmM A2T:=fun xs ws Q Q' k q=> by
  unfold A2T at q ⊢
  split at q
  · obtain ⟨a,b,j,y,e,f,q⟩:=q
    exact ⟨a,b,j,y,e,f,k _ _ q⟩
  · exact q
variable {Q':RR→AH→Prop} {E':AExc→AH→Prop}
theorem M9 (hQ:∀r h,Q r h→Q' r h):∀r s env h,Rl env r s→Q s.rr h→(C4 Q').rt r env h:=fun r s env h rl q=> by
  refine ⟨h,fun _ _ e=> e,?_⟩
  cases r with
  | val w=> cases rl;exact hQ _ _ q
  | own w=> cases rl;exact hQ _ _ q
  | slot i=>
    obtain ⟨c,rfl,e⟩:=rl
    show (match env[i]? with
      | some (some (.val w))=> Q' (.val w) h
      | some (some (.own c))=> Q' (.own c) h
      | _=> False)
    rw [e]
    exact hQ _ _ q
theorem N1 (hE:∀x h,E x h→E' x h) (env:A1):∀x h,E x h→E2 E' x env h:=fun x h q=> ⟨h,fun _ _ e=> e,hE _ _ q⟩
theorem A3c (hQ:∀r h,Q r h→Q' r h) (env:A1):∀h,(ret (.val .non)) h Q E→(C4 Q').nx env h:=fun h z=> ⟨h,fun _ _ e=> e,hQ _ _ z⟩
end
end Ab
namespace Ab
open PySem PySem.Spec PyProof.Rows L2 RZ
section
variable {Q:RR→AH→Prop} {E:AExc→AH→Prop} {h:AH}
@[simp] theorem C7 {x:SV} {k:SV→MC}:eV x k=k x:=rfl
@[simp] theorem E8 {x:W} {k:SV→MC}:eC x k=k (.val x):=rfl
@[simp] theorem G5 {o:M7} {a b:CE} {k:SV→MC}:A9 o a b k=a fun x=> b fun y=> E4 o x y k:=rfl
@[simp] theorem F3 {a:CE} {k:W→MC}:A0 a k=a fun x=> k x.fz:=rfl
@[simp] theorem G4 {k:List W→MC}:C0 k=k []:=rfl
@[simp] theorem H8 {a:CW} {b:E6} {k:List W→MC}:A4 a b k=a fun w=> b fun ws=> k (w::ws):=rfl
@[simp] theorem A4Q {a:E6} {k:SV→MC}:R1 a k=a fun ws=> K6 (ws.length≤sizeLine) (k (.val (.tup ws))):=rfl
@[simp] theorem o0 {a:E6} {k:SV→MC}:O1 a k=a fun ws=> K6 (ws.length≤sizeLine) (k (.own (.seq ws))):=rfl
@[simp] theorem A8r {k:Option Int→MC}:oNo k=k none:=rfl
@[simp] theorem A74 {a:CE} {k:Option Int→MC}:A1o a k=a fun x=> S8 x fun i=> k (some i):=rfl
@[simp] theorem A9F {a:CE} {l u:CO} {k:SV→MC}:eSl a l u k=a fun x=> l fun l=> u fun u=> slc x l u k:=rfl
@[simp] theorem L6 {k:List SV→MC}:E7 k=k []:=rfl
@[simp] theorem L5 {a:CE} {b:CS} {k:List SV→MC}:D7 a b k=a fun w=> b fun ws=> k (w::ws):=rfl
@[simp] theorem L9 {o:M3} {a:CS} {k:SV→MC}:F6 o a k=a fun xs=> cb o xs k:=rfl
@[simp] theorem U6 {k:Bool→MC}:tYes k=k true:=rfl
@[simp] theorem K7 {a:CE} {k:Bool→MC}:F8 a k=a fun x=> V2 x k:=rfl
@[simp] theorem A8a {a b:CB} {k:Bool→MC}:tAnd a b k=a fun x=> if x=true then b k else k false:=rfl
@[simp] theorem V8 {a b:CB} {k:Bool→MC}:tOr a b k=a fun x=> if x=true then k true else b k:=rfl
@[simp] theorem n5 {a:CB} {k:Bool→MC}:z8 a k=a fun x=> k (!x):=rfl
@[simp] theorem A2o {c:CB} {a b:CE} {k:SV→MC}:eIf c a b k=c fun x=> if x=true then a k else b k:=rfl
@[simp] theorem V7 {a b:CE} {k:SV→MC}:v4 a b k=a fun x=> V2 x fun c=> if c=true then b k else k (.val (.bl false)):=rfl
@[simp] theorem C9O {a b:CE} {k:SV→MC}:eOr a b k=a fun x=> V2 x fun c=> if c=true then k (.val (.bl true)) else b k:=rfl
@[simp] theorem A0N {a:CE} {k:SV→MC}:A9G a k=a fun x=> V2 x fun c=> k (.val (.bl (!c))):=rfl
@[simp] theorem C5L {a:CE} {k:SV→MC}:A6V a k=a fun x=> S8 x fun i=> k (.val (.int (-i))):=rfl
@[simp] theorem A1I {P P':Int→Int→Bool} {a b c:CE} {k:SV→MC}:A10 P P' a b c k=a fun x=> b fun y=> S8 x fun i=> S8 y fun j=>
  if P i j=true then c fun z=> S8 z fun l=> k (.val (.bl (P' j l))) else k (.val (.bl false)):=rfl
@[simp] theorem Q9 {f:List W→MC} {a:E6} {k:SV→MC}:G6 f a k=a fun ws=> call (f ws) k:=rfl
@[simp] theorem c6 {f:List W→MC} {a:E6} {k:SV→MC}:A1B f a k=a fun ws=> call0 (f ws) k:=rfl
@[simp] theorem C7g {p:List Nat} {a:E6} {k:List W→MC}:C5M p a k=a fun ws=> perm p ws k:=rfl
@[simp] theorem A2K {a:CW} {k:List W→MC}:w8 a k=a fun w=> items w k:=rfl
@[simp] theorem k9 {a:CS} {k:List W→MC}:A2f a k=a fun w=> A9M w k:=rfl
@[simp] theorem C7m {a:CS} {k:List W→MC}:C5P a k=a fun w=> B1i w k:=rfl
@[simp] theorem C8u {a:E6} {k:List W→MC}:C6A a k=a fun w=> A9H w k:=rfl
@[simp] theorem B4n {a:CW} {k:List W→MC}:A8q a k=a fun w=> A4P w fun ws=> k (V3 ws):=rfl
@[simp] theorem C8W {a:E6} {k:List W→MC}:C6M a k=a fun ws=> enz ws k:=rfl
@[simp] theorem M1 {mc:CB} {m1 m2:MC}:L7 mc m1 m2=mc fun b=> if b=true then m1 else m2:=rfl
@[simp] theorem C4B {a:CE} {k:SV→MC}:B1Z a k=a fun x=> B1v x k:=rfl
@[simp] theorem C80 {a:E6} {k:W→W→MC}:C6L a k=a fun ws=> pr2 ws k:=rfl
@[simp] theorem A51 {a:CW} {k:W→SV→MC}:A8j a k=a fun w=> A6X w k:=rfl
@[simp] theorem A58 {mv:CW} {x:SV} {m:CE} {k:SV→MC}:y8 mv x m k=mv fun w=> m fun y=> A2e x y w k:=rfl
@[simp] theorem C8J {mv:CW} {x:SV} {m:CE} {m2:SV→CE} {k:SV→MC}:C5R mv x m m2 k=mv fun w=> un2 w fun a b=> m fun y=> A2e x y a fun x1=> m2 x1 fun y2=> A2e x1 y2 b k:=rfl
@[simp] theorem C8i {f:Int→Int→Int} {x:SV} {m m2:CE} {k:SV→MC}:C6C f x m m2 k=m fun y=> B6T f x y m2 k:=rfl
@[simp] theorem U0 {mt:CB} {me:CW} {kk:Option W→MC}:o5 mt me kk=mt fun b=> if b=true then me fun y=> kk (some y) else kk none:=rfl
@[simp] theorem V0 {it:E6} {body:W→(Option W→MC)→MC} {k:SV→MC}:o6 it body k=it fun ws=> V1 body (fun acc=> k (.own (.seq acc))) ws []:=rfl
@[simp] theorem A56 {σ:Type} {mi:E6} {s0:σ} {body:W→σ→(σ→MC)→(σ→MC)→MC} {k:σ→MC}:A11 mi s0 body k=mi fun ws=> m7 body k ws s0:=rfl
@[simp] theorem C8U {σ:Type} {k:σ→MC} {f:(σ→MC)→MC}:join k f=f k:=rfl
theorem B37:∀{as bs:List Char},as.map Char.toNat=bs.map Char.toNat→as=bs
  | [],[],_=> rfl
  | [],_::_,h=> by cases h
  | _::_,[],h=> by cases h
  | a::as,b::bs,h=> by
    rw [List.map_cons,List.map_cons] at h
    injection h with h1 h2
    rw [Char.toNat_inj.mp h1,B37 h2]
@[simp] theorem A1d {a b:String}:(Str.ofString a=Str.ofString b)=(a=b):=by
  refine propext ⟨fun e=> ?_,fun e=> by rw [e]⟩
  rw [Str.ofString_eq_toList,Str.ofString_eq_toList] at e
  injection e with e
  have z:=B37 (congrArg Array.toList e)
  exact String.toList_inj.mp z
@[simp] theorem C5 {w:W}:SV.fz (.val w)=w:=rfl
@[simp] theorem Q2 {ws:List W}:SV.fz (.own (.seq ws))= .lst ws:=rfl
@[simp] theorem C3o {w:W}:SV.rr (.val w)= .val w:=rfl
@[simp] theorem B6H {c:Cont}:SV.rr (.own c)= .own c:=rfl
@[simp] theorem U5 {w:W}:RR.sv (.val w)= .val w:=rfl
@[simp] theorem B0l {c:Cont}:RR.sv (.own c)= .own c:=rfl
theorem L1:sizeLine=16777216:=rfl
@[simp] theorem p9 {i:Int} {k:Int→MC}:S8 (.val (.int i)) k=k i:=rfl
@[simp] theorem E9 {i:Bool} {k:Bool→MC}:V2 (.val (.bl i)) k=k i:=rfl
@[simp] theorem C0s {ws:List W} {k:List W→MC}:items (.tup ws) k=k ws:=rfl
@[simp] theorem C0Z {ws:List W} {k:List W→MC}:A4P (.tup ws) k=k ws:=rfl
@[simp] theorem C0R {ws:List W} {k:List W→MC}:A4P (.lst ws) k=k ws:=rfl
@[simp] theorem C60 {k:List W→MC}:A4P .emp k=k []:=rfl
@[simp] theorem A3D {ws:List W} {k:List W→MC}:items (.lst ws) k=k ws:=rfl
@[simp] theorem B0c {a b:W} {k:W→W→MC}:un2 (.tup [a,b]) k=k a b:=rfl
@[simp] theorem C7s {a b c:W} {k:W→W→W→MC}:un3 (.tup [a,b,c]) k=k a b c:=rfl
@[simp] theorem C8I {a b c d e:W} {k:W→W→W→W→W→MC}:un5 (.tup [a,b,c,d,e]) k=k a b c d e:=rfl
@[simp] theorem C7u {a b:W} {k:W→W→MC}:uq2 (.tup [a,b]) k=k a b:=rfl
@[simp] theorem C8B {a b c:W} {k:W→W→W→MC}:uq3 (.tup [a,b,c]) k=k a b c:=rfl
@[simp] theorem C77 {a b:W} {k:W→W→MC}:uq2 (.lst [a,b]) k=k a b:=rfl
@[simp] theorem C7n {a b c:W} {k:W→W→W→MC}:uq3 (.lst [a,b,c]) k=k a b c:=rfl
@[simp] theorem C8P {a b c d:W} {k:W→W→W→W→MC}:uq4 (.tup [a,b,c,d]) k=k a b c d:=rfl
@[simp] theorem C7Y {a b c d e:W} {k:W→W→W→W→W→MC}:uq5 (.tup [a,b,c,d,e]) k=k a b c d e:=rfl
@[simp] theorem A5u {x:W} {r:List W} {k:W→SV→MC}:A6X (.tup (x::r)) k=k x (.own (.seq r)):=rfl
@[simp] theorem A7x {x:W} {r:List W} {k:W→SV→MC}:A6X (.lst (x::r)) k=k x (.own (.seq r)):=rfl
@[simp] theorem C9K {x y:W} {k:W→W→MC}:pr2 [x,y] k=k x y:=rfl
@[simp] theorem C7T {xs ys:List W} {k:List W→MC}:A9H [.tup xs,.tup ys] k=k (List.zipWith (fun a b=> W.tup [a,b]) xs ys):=rfl
@[simp] theorem C7I {xs ys:List W} {k:List W→MC}:A9H [.lst xs,.lst ys] k=k (List.zipWith (fun a b=> W.tup [a,b]) xs ys):=rfl
@[simp] theorem C9N {a b:W} {k:List W→MC}:enz [a,b] k=items a fun xs=> items b fun ys=> k (ezW xs ys):=rfl
@[simp] theorem A1S {j:Int} {k:List W→MC}:A9M [.val (.int j)] k=K6 (-(2 ^ 62)≤j∧j < 2 ^ 62) (k (R9 0 j.toNat)):=rfl
@[simp] theorem C7G {i j:Int} {k:List W→MC}:B1i [.val (.int i),.val (.int j)] k=K6 (-(2 ^ 62)≤i∧i < 2 ^ 62∧ -(2 ^ 62)≤j∧j < 2 ^ 62) (k (R9 i (j - i).toNat)):=rfl
@[simp] theorem C1j {n:Int} {k:SV→MC}:B1v (.val (.int n)) k=K6 (0≤n∧n≤16777216) (k (.own (.seq (R9 0 n.toNat)))):=rfl
theorem F9 {p:Prop} {m:MC} (hp:p):K6 p m=m:=by funext h Q E;exact propext ⟨fun z=> z.2,fun z=> ⟨hp,z⟩⟩
@[simp] theorem A1r {m:MC}:K6 True m=m:=F9 trivial
theorem w7 {p:Prop} {m:MC}:K6 p m h Q E=(p∧m h Q E):=rfl
@[simp] theorem B0t {x:SV}:ret x h Q E=Q x.rr h:=rfl
@[simp] theorem A5r {x:AExc}:A4T x h Q E=E x h:=rfl
@[simp] theorem U4 {x:SV} {k:SV→MC}:call (ret x) k=k x:=by cases x <;> rfl
@[simp] theorem A5n {x:SV} {k:SV→MC}:call0 (ret x) k=k x:=by cases x <;> rfl
@[simp] theorem C62 {x:AExc} {k:SV→MC}:call (A4T x) k=A4T x:=rfl
theorem A6T {p:Prop}:(True∧p)=p:=by simp
@[simp] theorem C9R {a:W} {k:List W→MC}:perm [0] [a] k=k [a]:=F9 rfl
@[simp] theorem C9F {a b:W} {k:List W→MC}:perm [0,1] [a,b] k=k [a,b]:=F9 rfl
@[simp] theorem C9A {a b:W} {k:List W→MC}:perm [1,0] [a,b] k=k [b,a]:=F9 rfl
@[simp] theorem C81 {a b c:W} {k:List W→MC}:perm [0,1,2] [a,b,c] k=k [a,b,c]:=F9 rfl
@[simp] theorem C8g {a b c:W} {k:List W→MC}:perm [0,2,1] [a,b,c] k=k [a,c,b]:=F9 rfl
@[simp] theorem C8c {a b c:W} {k:List W→MC}:perm [1,0,2] [a,b,c] k=k [b,a,c]:=F9 rfl
@[simp] theorem C83 {a b c:W} {k:List W→MC}:perm [1,2,0] [a,b,c] k=k [b,c,a]:=F9 rfl
@[simp] theorem C8j {a b c:W} {k:List W→MC}:perm [2,0,1] [a,b,c] k=k [c,a,b]:=F9 rfl
@[simp] theorem C85 {a b c:W} {k:List W→MC}:perm [2,1,0] [a,b,c] k=k [c,b,a]:=F9 rfl
@[simp] theorem C71 {a b c d:W} {k:List W→MC}:perm [0,1,2,3] [a,b,c,d] k=k [a,b,c,d]:=F9 rfl
@[simp] theorem C8H {a b c d:W} {k:List W→MC}:perm [0,1,3,2] [a,b,c,d] k=k [a,b,d,c]:=F9 rfl
@[simp] theorem C7Z {a b c d:W} {k:List W→MC}:perm [0,2,1,3] [a,b,c,d] k=k [a,c,b,d]:=F9 rfl
@[simp] theorem C73 {a b c d:W} {k:List W→MC}:perm [0,2,3,1] [a,b,c,d] k=k [a,c,d,b]:=F9 rfl
@[simp] theorem C7h {a b c d:W} {k:List W→MC}:perm [0,3,1,2] [a,b,c,d] k=k [a,d,b,c]:=F9 rfl
@[simp] theorem C74 {a b c d:W} {k:List W→MC}:perm [0,3,2,1] [a,b,c,d] k=k [a,d,c,b]:=F9 rfl
@[simp] theorem C7U {a b c d:W} {k:List W→MC}:perm [1,0,2,3] [a,b,c,d] k=k [b,a,c,d]:=F9 rfl
@[simp] theorem C7r {a b c d:W} {k:List W→MC}:perm [1,0,3,2] [a,b,c,d] k=k [b,a,d,c]:=F9 rfl
@[simp] theorem C70 {a b c d:W} {k:List W→MC}:perm [1,2,0,3] [a,b,c,d] k=k [b,c,a,d]:=F9 rfl
@[simp] theorem C7z {a b c d:W} {k:List W→MC}:perm [1,2,3,0] [a,b,c,d] k=k [b,c,d,a]:=F9 rfl
@[simp] theorem C7W {a b c d:W} {k:List W→MC}:perm [1,3,0,2] [a,b,c,d] k=k [b,d,a,c]:=F9 rfl
@[simp] theorem C7d {a b c d:W} {k:List W→MC}:perm [1,3,2,0] [a,b,c,d] k=k [b,d,c,a]:=F9 rfl
@[simp] theorem C7a {a b c d:W} {k:List W→MC}:perm [2,0,1,3] [a,b,c,d] k=k [c,a,b,d]:=F9 rfl
@[simp] theorem C8L {a b c d:W} {k:List W→MC}:perm [2,0,3,1] [a,b,c,d] k=k [c,a,d,b]:=F9 rfl
@[simp] theorem C79 {a b c d:W} {k:List W→MC}:perm [2,1,0,3] [a,b,c,d] k=k [c,b,a,d]:=F9 rfl
@[simp] theorem C8A {a b c d:W} {k:List W→MC}:perm [2,1,3,0] [a,b,c,d] k=k [c,b,d,a]:=F9 rfl
@[simp] theorem C7e {a b c d:W} {k:List W→MC}:perm [2,3,0,1] [a,b,c,d] k=k [c,d,a,b]:=F9 rfl
@[simp] theorem C8F {a b c d:W} {k:List W→MC}:perm [2,3,1,0] [a,b,c,d] k=k [c,d,b,a]:=F9 rfl
@[simp] theorem C7x {a b c d:W} {k:List W→MC}:perm [3,0,1,2] [a,b,c,d] k=k [d,a,b,c]:=F9 rfl
@[simp] theorem C7p {a b c d:W} {k:List W→MC}:perm [3,0,2,1] [a,b,c,d] k=k [d,a,c,b]:=F9 rfl
@[simp] theorem C7i {a b c d:W} {k:List W→MC}:perm [3,1,0,2] [a,b,c,d] k=k [d,b,a,c]:=F9 rfl
@[simp] theorem C8D {a b c d:W} {k:List W→MC}:perm [3,1,2,0] [a,b,c,d] k=k [d,b,c,a]:=F9 rfl
@[simp] theorem C7w {a b c d:W} {k:List W→MC}:perm [3,2,0,1] [a,b,c,d] k=k [d,c,a,b]:=F9 rfl
@[simp] theorem C8N {a b c d:W} {k:List W→MC}:perm [3,2,1,0] [a,b,c,d] k=k [d,c,b,a]:=F9 rfl
section
variable {i j:Int} {k:SV→MC} {xs ys:List W}
@[simp] theorem B1M:E4 u9 (.val (.int i)) (.val (.int j)) k=k (.val (.int (i - j))):=by funext h Q E;exact A6T
@[simp] theorem B1m:E4 oLt (.val (.int i)) (.val (.int j)) k=k (.val (.bl (decide (i < j)))):=by funext h Q E;exact A6T
@[simp] theorem C9Q:E4 oLe (.val (.int i)) (.val (.int j)) k=k (.val (.bl (decide (i≤j)))):=by funext h Q E;exact A6T
@[simp] theorem B7V:E4 oGt (.val (.int i)) (.val (.int j)) k=k (.val (.bl (decide (j < i)))):=by funext h Q E;exact A6T
@[simp] theorem B1l:E4 oGe (.val (.int i)) (.val (.int j)) k=k (.val (.bl (decide (j≤i)))):=by funext h Q E;exact A6T
@[simp] theorem A6L:E4 S0 (.val (.int i)) (.val (.int j)) k=K6 (0 < j) (k (.val (.int (i % j)))):=rfl
@[simp] theorem B0v:E4 s8 (.val (.int i)) (.val (.int j)) k=K6 (CDivW i j) (k (.val (.int (i / j)))):=rfl
@[simp] theorem B6Y:E4 A2k (.val (.int i)) (.val (.int j)) k=K6 (CPow i j) (k (.val (.int (i ^ j.toNat)))):=rfl
@[simp] theorem A8s:E4 oMulT (.val (.int i)) (.val (.int j)) k=K6 (CMulW i j) (k (.val (.int (i*j)))):=rfl
@[simp] theorem C9D:E4 oMulT (.own (.seq xs)) (.val (.int j)) k=K6 (-(2 ^ 63)≤j∧j < 2 ^ 63∧xs.length*j.toNat≤sizeLine) (k (.own (.seq (List.replicate j.toNat xs).flatten))):=rfl
@[simp] theorem C8w:E4 oMulT (.val (.tup xs)) (.val (.int j)) k=K6 (-(2 ^ 63)≤j∧j≤1000∧1≤xs.length∧xs.length≤1000) (k (.val (.tup (List.replicate j.toNat xs).flatten))):=rfl
@[simp] theorem t5:E4 oAdd (.val (.int i)) (.val (.int j)) k=k (.val (.int (i+j))):=rfl
@[simp] theorem C8x {x y:Str}:E4 oAdd (.val (.str x)) (.val (.str y)) k=K6 (x.length+y.length≤sizeLine) (k (.val (.str (x++y)))):=rfl
@[simp] theorem A8G:E4 oAdd (.val (.tup xs)) (.val (.tup ys)) k=K6 (xs.length+ys.length≤sizeLine) (k (.val (.tup (xs++ys)))):=rfl
@[simp] theorem C8M:E4 oAdd (.val (.lst xs)) (.val (.lst ys)) k=K6 (xs.length+ys.length≤sizeLine) (k (.own (.seq (xs++ys)))):=rfl
@[simp] theorem C7l:E4 oAdd (.val (.lst xs)) (.own (.seq ys)) k=K6 (xs.length+ys.length≤sizeLine) (k (.own (.seq (xs++ys)))):=rfl
@[simp] theorem C7X:E4 oAdd (.own (.seq xs)) (.val (.lst ys)) k=K6 (xs.length+ys.length≤sizeLine) (k (.own (.seq (xs++ys)))):=rfl
@[simp] theorem B5a:E4 oAdd (.own (.seq xs)) (.own (.seq ys)) k=K6 (xs.length+ys.length≤sizeLine) (k (.own (.seq (xs++ys)))):=rfl
def W3 (xs:List W) (i:Int) (k:W→MC):MC:=match L2.atI xs i with
  | some w=> k w
  | none=> bad
theorem B4Q {v:Vw} {i:Int} {Q:RV→Prop} (hv:v.items=some xs) (hs:∀x,v≠ .wv (.str x)):oIx v (.wv (.int i)) Q=match L2.atI xs i with
  | some w=> Q (.val w)
  | none=> False:=by
  rw [C55]
  have z:ixK v i Q=match L2.atI xs i with
    | some w=> Q (.val w)
    | none=> False:=by
    unfold ixK
    rw [hv]
    rfl
  cases v with
  | wv w=> cases w with
    | str x=> exact absurd rfl (hs x)
    | _=> exact z
  | _=> exact z
theorem B0z {x:SV} {v:Vw} (e:∀h,M5 h x=v) (hv:v.items=some xs) (hs:∀x,v≠ .wv (.str x)):E4 oIx x (.val (.int i)) k=W3 xs i fun w=> k (.val w):=by
  funext h Q E
  show oIx (M5 h x) (.wv (.int i)) _=_
  rw [e,B4Q hv hs]
  unfold W3
  cases L2.atI xs i <;> rfl
@[simp] theorem Z4:E4 oIx (.val (.tup xs)) (.val (.int i)) k=W3 xs i fun w=> k (.val w):=B0z (v:= .wv (.tup xs)) (fun _=> rfl) rfl (fun _ z=> by cases z)
@[simp] theorem y0:E4 oIx (.val (.lst xs)) (.val (.int i)) k=W3 xs i fun w=> k (.val w):=B0z (v:= .wv (.lst xs)) (fun _=> rfl) rfl (fun _ z=> by cases z)
@[simp] theorem B6X:E4 oIx (.own (.seq xs)) (.val (.int i)) k=W3 xs i fun w=> k (.val w):=B0z (v:= .cv (.seq xs)) (fun _=> rfl) rfl (fun _ z=> by cases z)
theorem A3K {k:W→MC} {w:W} (e:L2.atI xs i=some w):W3 xs i k=k w:=by unfold W3;rw [e]
@[simp] theorem n9 {k:W→MC} {w:W}:W3 (w::xs) 0 k=k w:=A3K C56
@[simp] theorem A1K {k:W→MC} {w v:W}:W3 (w::v::xs) 1 k=k v:=A3K C57
@[simp] theorem A2a {k:W→MC} {w v u:W}:W3 (w::v::u::xs) 2 k=k u:=A3K C6c
@[simp] theorem A83 {k:W→MC} {w v u t:W}:W3 (w::v::u::t::xs) 3 k=k t:=A3K (atI_nat (j:=3) rfl)
@[simp] theorem B6i {k:W→MC} {w v u t s:W}:W3 (w::v::u::t::s::xs) 4 k=k s:=A3K (atI_nat (j:=4) rfl)
theorem A39 {k:W→MC} {n:Nat} (hn:n < xs.length):W3 xs (n:Int) k=k xs[n]:=A3K (atI_nat (List.getElem?_eq_getElem hn))
theorem A5v {α:Type} {e:α→W} {l:List α} {k:W→MC} {n:Nat} (hn:n < l.length):W3 (l.map e) (n:Int) k=k (e l[n]):=by
  rw [A39 (by rw [List.length_map];exact hn),List.getElem_map]
@[simp] theorem C5Z {l u:Option Int}:slc (.val (.tup xs)) l u k=k (.val (.tup (V9 xs l u))):=rfl
@[simp] theorem A8z {l u:Option Int}:slc (.val (.lst xs)) l u k=k (.own (.seq (V9 xs l u))):=rfl
@[simp] theorem C5m {l u:Option Int}:slc (.own (.seq xs)) l u k=k (.own (.seq (V9 xs l u))):=rfl
theorem B4S {n:Nat}:V9 xs (some (n:Int)) none=xs.drop n:=by
  unfold V9
  rw [HT.sIx_none,HT.sIx_nat]
  rcases Nat.le_total n xs.length with h | h
  · rw [Nat.min_eq_left h,List.take_of_length_le (by rw [List.length_drop];omega)]
  · rw [Nat.min_eq_right h,Nat.sub_self,List.take_zero,List.drop_eq_nil_of_le h]
section
variable {w:W} {k1:SV→W→MC}
theorem B5M {m:MC}:isq (.own (.seq xs)) m=m:=F9 trivial
@[simp] theorem B0Z {m:CE}:A9B (.own (.seq xs)) m k=m fun y=> ext (.own (.seq xs)) y k:=B5M
@[simp] theorem B54:ext (.own (.seq xs)) (.own (.seq ys)) k=K6 (xs.length+ys.length≤sizeLine) (k (.own (.seq (xs++ys)))):=rfl
@[simp] theorem A8g {f:T3} {ma:E6}:lmC f (.own (.seq xs)) ma k1=ma fun ws=> lm f (.own (.seq xs)) ws k1:=B5M
@[simp] theorem A7c:lm Q5 (.own (.seq xs)) [w] k1=K6 (xs.length < sizeLine) (k1 (.own (.seq (xs++[w]))) .non):=rfl
end
@[simp] theorem Z2:cb E5 [.val (.tup xs)] k=k (.val (.int xs.length)):=by
  funext h Q E;show E5 [.wv (.tup xs)] _=_;rw [A8x];rfl
@[simp] theorem C7j:cb E5 [.val .emp] k=k (.val (.int 0)):=rfl
@[simp] theorem A8F:cb E5 [.val (.lst xs)] k=k (.val (.int xs.length)):=by
  funext h Q E;show E5 [.wv (.lst xs)] _=_;rw [A8x];rfl
@[simp] theorem C3k:cb E5 [.own (.seq xs)] k=k (.val (.int xs.length)):=by
  funext h Q E;show E5 [.cv (.seq xs)] _=_;rw [A8x];rfl
@[simp] theorem B00 {x:Str}:cb E5 [.val (.str x)] k=K6 (x.length≤sizeLine) (k (.val (.int x.length))):=by
  funext h Q E;show E5 [.wv (.str x)] _=_;rw [A8x];rfl
@[simp] theorem C8a {a:E6} {k:SV→MC}:C5b a k=a fun ws=> B67 ws k:=rfl
@[simp] theorem C8y {kvs:List (W×W)} {a b:CW} {k:SV→MC}:C5p (.own (.map kvs)) a b k=a fun w=> b fun d=> B7H (.own (.map kvs)) w d k:=by
  funext h Q E
  exact propext ⟨fun z=> z.2,fun z=> ⟨⟨kvs,rfl⟩,z⟩⟩
@[simp] theorem C9E {m:CE} {k:W→MC}:u7 m k=m fun x=> A4a x k:=rfl
@[simp] theorem C46 {f:T3} {m:CE} {ma:E6} {k:MC}:lmE f m ma k=m fun x=> lmR f x ma k:=rfl
@[simp] theorem C8l:cb oBack [.val (.tup xs),.val (.int i)] k=K6 (i= -1) (k (.val (.tup xs.reverse))):=rfl
@[simp] theorem C8p:cb Z5 [.val (.tup xs)] k=k (.val (.tup xs)):=by
  funext h Q E;show Z5 [.wv (.tup xs)] _=_;rw [B02];rfl
@[simp] theorem C8v:cb Z5 [.val (.lst xs)] k=k (.val (.tup xs)):=by
  funext h Q E;show Z5 [.wv (.lst xs)] _=_;rw [B02];rfl
@[simp] theorem B6B:cb Z5 [.own (.seq xs)] k=k (.val (.tup xs)):=by
  funext h Q E;show Z5 [.cv (.seq xs)] _=_;rw [B02];rfl
@[simp] theorem C35:cb O2 [.val (.tup xs)] k=k (.own (.seq xs)):=by
  funext h Q E;show O2 [.wv (.tup xs)] _=_;rw [A8E];rfl
@[simp] theorem A4I:cb O2 [.val (.lst xs)] k=k (.own (.seq xs)):=by
  funext h Q E;show O2 [.wv (.lst xs)] _=_;rw [A8E];rfl
@[simp] theorem C3l:cb O2 [.own (.seq xs)] k=k (.own (.seq xs)):=by
  funext h Q E;show O2 [.cv (.seq xs)] _=_;rw [A8E];rfl
theorem C4l {a b:Int}:(if b < a then b else a)=min a b:=by rw [Int.min_def];split <;> split <;> omega
theorem C4b {a b:Int}:(if b > a then b else a)=max a b:=by rw [Int.max_def];split <;> split <;> omega
theorem C4e {a:Int}:(if a < 0 then -a else a)=(a.natAbs:Int):=by split <;> omega
@[simp] theorem C8d:cb C5G [.val (.int i),.val (.int j)] k=k (.val (.int (min i j))):=by
  rw [←C4l];rfl
@[simp] theorem C8S:cb C5C [.val (.int i),.val (.int j)] k=k (.val (.int (max i j))):=by
  rw [←C4b];rfl
@[simp] theorem C88:cb C6X [.val (.int i)] k=k (.val (.int (i.natAbs:Int))):=by
  rw [←C4e];rfl
theorem B0X {as bs:List Int} (e:as.map W.int=bs.map W.int):as=bs:=by
  induction as generalizing bs with
  | nil=> cases bs with
    | nil=> rfl
    | cons _ _=> cases e
  | cons a as ih=> cases bs with
    | nil=> cases e
    | cons b bs=>
      rw [List.map_cons,List.map_cons] at e
      injection e with e1 e2
      injection e1 with e1
      rw [e1,ih e2]
theorem C3r {as bs:List Bool} (e:as.map W.bl=bs.map W.bl):as=bs:=by
  induction as generalizing bs with
  | nil=> cases bs with
    | nil=> rfl
    | cons _ _=> cases e
  | cons a as ih=> cases bs with
    | nil=> cases e
    | cons b bs=>
      rw [List.map_cons,List.map_cons] at e
      injection e with e1 e2
      injection e1 with e1
      rw [e1,ih e2]
theorem C1c {g:List Int→(RV→Prop)→Prop} {ns:List Int} {v:Vw} {Q:RV→Prop} (e:v.seq=some (ns.map W.int)):oInts g [v] Q=g ns Q:=by
  refine propext ⟨fun ⟨ms,e2,q⟩=> ?_,fun q=> ⟨ns,e,q⟩⟩
  rw [e] at e2
  rw [B0X (Option.some.inj e2)]
  exact q
theorem C23 {g:List Bool→Bool} {ns:List Bool} {v:Vw} {Q:RV→Prop} (e:v.seq=some (ns.map W.bl)):oBls g [v] Q=Q (.val (.bl (g ns))):=by
  refine propext ⟨fun ⟨ms,e2,q⟩=> ?_,fun q=> ⟨ns,e,q⟩⟩
  rw [e] at e2
  rw [C3r (Option.some.inj e2)]
  exact q
theorem B6N {g:List Bool→Bool} {ns:List Bool} {x:SV} {v:Vw} (e:∀h,M5 h x=v) (es:v.seq=some (ns.map W.bl)):cb (oBls g) [x] k=k (.val (.bl (g ns))):=by
  funext h Q E
  unfold cb
  rw [List.map_cons,List.map_nil,e,C23 es]
  rfl
theorem B5c {g:List Int→(RV→Prop)→Prop} {ns:List Int} {x:SV} {v:Vw} (e:∀h,M5 h x=v) (es:v.seq=some (ns.map W.int)):cb (oInts g) [x] k=fun h Q E=> g ns fun r=> v5 k r h Q E:=by
  funext h Q E
  unfold cb
  rw [List.map_cons,List.map_nil,e,C1c es]
theorem B0x {ns:List Int} {x:SV} {v:Vw} (e:∀h,M5 h x=v) (es:v.items=some (ns.map W.int)):cb y7 [x] k=k (.val (.int ns.sum)):=by
  funext h Q E
  unfold cb
  rw [List.map_cons,List.map_nil,e]
  refine propext ⟨fun ⟨ms,e2,q⟩=> ?_,fun q=> ⟨ns,es,q⟩⟩
  rw [es] at e2
  rw [B0X (Option.some.inj e2)]
  exact q
@[simp] theorem C7D {ns:List Int}:cb B40 [.own (.seq (ns.map W.int))] k=k (.own (.seq ((srt ns).map W.int))):=B5c (v:= .cv (.seq _)) (fun _=> rfl) rfl
@[simp] theorem C67 {ns:List Int}:cb B40 [.val (.lst (ns.map W.int))] k=k (.own (.seq ((srt ns).map W.int))):=B5c (v:= .wv (.lst _)) (fun _=> rfl) rfl
@[simp] theorem C4G {ns:List Int}:cb y7 [.own (.seq (ns.map W.int))] k=k (.val (.int ns.sum)):=B0x (v:= .cv (.seq _)) (fun _=> rfl) rfl
@[simp] theorem C8z {ns:List Int}:cb y7 [.val (.lst (ns.map W.int))] k=k (.val (.int ns.sum)):=B0x (v:= .wv (.lst _)) (fun _=> rfl) rfl
@[simp] theorem C8Y {ns:List Int}:cb y7 [.val (.tup (ns.map W.int))] k=k (.val (.int ns.sum)):=B0x (v:= .wv (.tup _)) (fun _=> rfl) rfl
@[simp] theorem B6G {ns:List Bool}:cb A4Z [.own (.seq (ns.map W.bl))] k=k (.val (.bl (ns.any id))):=B6N (v:= .cv (.seq _)) (fun _=> rfl) rfl
@[simp] theorem A8X {ns:List Bool}:cb A1M [.own (.seq (ns.map W.bl))] k=k (.val (.bl (ns.all id))):=B6N (v:= .cv (.seq _)) (fun _=> rfl) rfl
end
end
end Ab
namespace Ab
open PySem PySem.Spec PyProof.Rows L2 RZ
section
variable {Q:RR→AH→Prop} {E:AExc→AH→Prop} {h:AH} {α β σ:Type}
theorem C2w {n:Nat}:R9 0 n=(List.range n).map fun (i:Nat)=> W.int i:=by
  unfold R9
  simp
theorem B0n {e:α→W} {l:List α}:V3 (l.map e)=l.zipIdx.map fun p=> W.tup [.int (p.2:Int),e p.1]:=by
  refine List.ext_getElem (by simp [V3]) fun i h1 h2=> ?_
  have hi:i < l.length:=by simpa [V3] using h1
  simp [V3,List.getD_eq_getElem?_getD,hi]
section
variable {body:W→(Option W→MC)→MC} {k:List W→MC}
theorem A8Q (e:α→W) (f:α→Option W):∀(l:List α) (acc:List W),(∀a∈l,∀kk,body (e a) kk=kk (f a))→acc.length+l.length≤sizeLine→V1 body k (l.map e) acc=k (acc++l.filterMap f)
  | [],acc,_,_=> by simp [V1]
  | a::l,acc,hb,hl=> by
    rw [List.length_cons] at hl
    show body (e a) _=_
    rw [hb a (by simp)]
    cases q:f a with
    | none=>
      show V1 body k (l.map e) acc=_
      rw [A8Q e f l acc (fun b hb'=> hb b (by simp [hb'])) (by omega),List.filterMap_cons_none q]
    | some y=>
      show K6 _ _=_
      rw [F9 (by omega),A8Q e f l (acc++[y]) (fun b hb'=> hb b (by simp [hb'])) (by rw [List.length_append,List.length_singleton];omega),List.filterMap_cons_some q]
      simp
theorem A8N (e:α→W) (g:α→W) (l:List α) (hb:∀a∈l,∀kk,body (e a) kk=kk (some (g a))) (hl:l.length≤sizeLine):V1 body k (l.map e) []=k (l.map g):=by
  rw [A8Q e (fun a=> some (g a)) l [] hb (by simpa using hl)]
  congr 1
  rw [List.nil_append,List.filterMap_eq_map']
theorem C5W (e:α→W) (p:α→Bool) (g:α→W) (l:List α) (hb:∀a∈l,∀kk,body (e a) kk=if p a=true then kk (some (g a)) else kk none) (hl:l.length≤sizeLine):V1 body k (l.map e) []=k ((l.filter p).map g):=by
  rw [A8Q e (fun a=> if p a=true then some (g a) else none) l [] (fun a ha kk=> by rw [hb a ha kk];split <;> rfl) (by simpa using hl)]
  congr 1
  rw [List.nil_append]
  induction l with
  | nil=> rfl
  | cons a l ih=>
    have ih:=ih (fun b hb'=> hb b (by simp [hb'])) (by rw [List.length_cons] at hl;omega)
    by_cases q:p a=true
    · rw [List.filterMap_cons_some (by rw [if_pos q]),List.filter_cons_of_pos q,List.map_cons,ih]
    · rw [List.filterMap_cons_none (by rw [if_neg q]),List.filter_cons_of_neg q,ih]
theorem B6b (I:Nat→AH→Prop) (P:W→W→Prop):∀(ws acc:List W) (i:Nat) (h:AH),acc.length+ws.length≤sizeLine→I i h→
    (∀w∈ws,∀j h kk,j < i+ws.length→I j h→(∀y h',P w y→I (j+1) h'→kk (some y) h' Q E)→body w kk h Q E)→
    (∀ys h',All2 P ws ys→I (i+ws.length) h'→k (acc++ys) h' Q E)→V1 body k ws acc h Q E
  | [],acc,i,h,_,j,_,q=> by
    have z:=q [] h .nil (by simpa using j)
    simpa [V1] using z
  | w::ws,acc,i,h,hl,j,hb,q=> by
    rw [List.length_cons] at hl
    refine hb w (by simp) i h _ (by rw [List.length_cons];omega) j fun y h' py j'=> ⟨by omega,?_⟩
    refine B6b I P ws (acc++[y]) (i+1) h' (by rw [List.length_append,List.length_singleton];omega) j' (fun v hv j h kk hj=> hb v (by simp [hv]) j h kk (by rw [List.length_cons];omega)) fun ys h2 ay j2=> ?_
    have z:=q (y::ys) h2 (.cons py ay) (by rw [List.length_cons];rwa [show i+(ws.length+1)=i+1+ws.length by omega])
    simpa using z
end
section
variable {body:W→σ→(σ→MC)→(σ→MC)→MC} {k:σ→MC}
theorem B47 {τ:Type} (e:α→W) (eS:τ→σ) (f:τ→α→τ) (I:Nat→τ→Prop):∀(l:List α) (t:τ) (i:Nat),I i t→(∀(j:Nat) a,l[j]? =some a→∀t,I (i+j) t→I (i+j+1) (f t a)∧∀kn,body (e a) (eS t) kn k=kn (eS (f t a)))→m7 body k (l.map e) (eS t)=k (eS (l.foldl f t))
  | [],t,i,_,_=> rfl
  | a::l,t,i,h0,hb=> by
    obtain ⟨i',hb'⟩:=hb 0 a rfl t h0
    show body (e a) (eS t) _ k=_
    rw [hb',B47 e eS f I l (f t a) (i+1) i' fun j b hj t hi=> ?_]
    · rfl
    · have z:=hb (j+1) b (by simpa using hj) t (by rwa [show i+(j+1)=i+1+j by omega])
      rwa [show i+(j+1)+1=i+1+j+1 by omega] at z
inductive Stp (σ:Type) where
  | go (s:σ) | out (m:MC)
theorem B4c {body:W→Unit→(Unit→MC)→(Unit→MC)→MC} {k:Unit→MC} (e:α→W) (r:α→Option MC):∀(l:List α),(∀a∈l,∀kn,body (e a) () kn k=(r a).getD (kn ()))→m7 body k (l.map e) ()=(l.findSome? r).getD (k ())
  | [],_=> rfl
  | a::l,hb=> by
    show body (e a) () _ k=_
    rw [hb a (by simp)]
    cases q:r a with
    | some m=> simp [q]
    | none=>
      rw [List.findSome?_cons_of_isNone (by rw [q];rfl)]
      exact B4c e r l fun b hb2=> hb b (by simp [hb2])
theorem C1z {body:W→Unit→(Unit→MC)→(Unit→MC)→MC} {k:Unit→MC} (ws:List W) (hb:∀w∈ws,∀kn,body w () kn k=kn ()):m7 body k ws ()=k ():=by
  induction ws with
  | nil=> rfl
  | cons w ws ih=>
    show body w () _ k=_
    rw [hb w (by simp)]
    exact ih fun v hv=> hb v (by simp [hv])
theorem A8S (I:List W→σ→AH→Prop) (h0:∀s h,I [] s h→k s h Q E) (hs:∀w ws s h kn,I (w::ws) s h→(∀s' h',I ws s' h'→kn s' h' Q E)→body w s kn k h Q E):∀ws s h,I ws s h→m7 body k ws s h Q E
  | [],s,h,i=> h0 s h i
  | w::ws,s,h,i=> hs w ws s h _ i fun s' h' i'=> A8S I h0 hs ws s' h' i'
end
end
mutual
def W.nb:Nat→W→Bool
  | _,.non=> true
  | _,.int _=> true
  | _,.str _=> true
  | n+1,.tup xs=> W.nbs n xs
  | n+1,.lst xs=> W.nbs n xs
  | _,_=> false
def W.nbs:Nat→List W→Bool
  | _,[]=> true
  | n,x::xs=> W.nb n x && W.nbs n xs
end
theorem W.nbs_of {n:Nat}:∀{xs:List W},(∀x∈xs,x.nb n=true)→W.nbs n xs=true
  | [],_=> rfl
  | x::xs,h=> by
    simp only [W.nbs,Bool.and_eq_true]
    exact ⟨h x (by simp),W.nbs_of fun y hy=> h y (by simp [hy])⟩
theorem W.nbs_mem {n:Nat}:∀{xs:List W},W.nbs n xs=true→∀x∈xs,x.nb n=true
  | [],_,x,h=> by cases h
  | y::ys,e,x,h=> by
    simp only [W.nbs,Bool.and_eq_true] at e
    rcases List.mem_cons.mp h with rfl | h
    · exact e.1
    · exact W.nbs_mem e.2 x h
theorem B5l {n:Nat} {i:Int}:(W.int i).nb n=true:=by cases n <;> rfl
theorem B5v {n:Nat} {i:Str}:(W.str i).nb n=true:=by cases n <;> rfl
theorem B03 {n:Nat} {xs:List W} (h:∀x∈xs,x.nb n=true):(W.tup xs).nb (n+1)=true:=W.nbs_of h
theorem A4L {n:Nat} {xs:List W} (h:∀x∈xs,x.nb n=true):(W.lst xs).nb (n+1)=true:=W.nbs_of h
theorem B4m {n:Nat} {xs:List Int}:∀x∈xs.map W.int,x.nb n=true:=fun x hx=> by
  obtain ⟨i,_,rfl⟩:=List.mem_map.mp hx
  exact B5l
theorem C3p {α:Type} {n:Nat} {e:α→W} {l:List α} (h:∀a∈l,(e a).nb n=true):∀x∈l.map e,x.nb n=true:=fun x hx=> by
  obtain ⟨i,hi,rfl⟩:=List.mem_map.mp hx
  exact h i hi
theorem A6B:∀{n:Nat} {w:W},w.nb n=true→w.dat n=true
  | 0,.non,_=> rfl
  | 0,.int _,_=> rfl
  | 0,.str _,_=> rfl
  | _+1,.non,_=> rfl
  | _+1,.int _,_=> rfl
  | _+1,.str _,_=> rfl
  | n+1,.tup xs,h=> by
    show xs.all (W.dat n)=true
    rw [List.all_eq_true]
    exact fun x hx=> A6B (W.nbs_mem h x hx)
  | n+1,.lst xs,h=> by
    show xs.all (W.dat n)=true
    rw [List.all_eq_true]
    exact fun x hx=> A6B (W.nbs_mem h x hx)
  | 0,.tup _,h=> by simp [W.nb] at h
  | 0,.lst _,h=> by simp [W.nb] at h
  | _,.bl _,h=> by simp [W.nb] at h
  | _,.dct _ _,h=> by simp [W.nb] at h
  | _,.ref _,h=> by simp [W.nb] at h
  | _,.ty _,h=> by simp [W.nb] at h
  | _,.emp,h=> by simp [W.nb] at h
theorem A52:∀{n m:Nat} {w:W},n≤m→w.dat n=true→w.dat m=true
  | _,0,.non,_,_=> rfl
  | _,0,.int _,_,_=> rfl
  | _,0,.str _,_,_=> rfl
  | _,0,.bl _,_,_=> rfl
  | _,_+1,.non,_,_=> rfl
  | _,_+1,.int _,_,_=> rfl
  | _,_+1,.str _,_,_=> rfl
  | _,_+1,.bl _,_,_=> rfl
  | 0,_,.emp,_,h=> by simp [W.dat] at h
  | _+1,_+1,.emp,_,_=> rfl
  | _+1,0,.emp,l,_=> by omega
  | 0,_,.tup _,_,h=> by simp [W.dat] at h
  | 0,_,.lst _,_,h=> by simp [W.dat] at h
  | n+1,m+1,.tup xs,l,h=> by
    have h:xs.all (W.dat n)=true:=h
    show xs.all (W.dat m)=true
    rw [List.all_eq_true] at h ⊢
    exact fun x hx=> A52 (by omega) (h x hx)
  | n+1,m+1,.lst xs,l,h=> by
    have h:xs.all (W.dat n)=true:=h
    show xs.all (W.dat m)=true
    rw [List.all_eq_true] at h ⊢
    exact fun x hx=> A52 (by omega) (h x hx)
  | _+1,0,.tup _,l,_=> by omega
  | _+1,0,.lst _,l,_=> by omega
  | _,_,.dct _ _,_,h=> by simp [W.dat] at h
  | _,_,.ref _,_,h=> by simp [W.dat] at h
  | _,_,.ty _,_,h=> by simp [W.dat] at h
def W.plain (w:W):Prop:=∃n,n≤60∧w.nb n=true
@[simp] theorem T9 {i:Int}:(W.int i).plain:=⟨0,by omega,rfl⟩
@[simp] theorem c8 {i:Str}:(W.str i).plain:=⟨0,by omega,rfl⟩
@[simp] theorem C4y:W.non.plain:=⟨0,by omega,rfl⟩
theorem C4t (n:Nat) (hn:n < 60) {xs:List W} (h:∀x∈xs,x.nb n=true):(W.tup xs).plain:=⟨n+1,hn,B03 h⟩
theorem A2Y (n:Nat) (hn:n < 60) {xs:List W} (h:∀x∈xs,x.nb n=true):(W.lst xs).plain:=⟨n+1,hn,A4L h⟩
@[simp] theorem A5y {xs:List Int}:(W.tup (xs.map W.int)).plain:=C4t 0 (by omega) B4m
@[simp] theorem C7J {xs:List Int}:(W.lst (xs.map W.int)).plain:=A2Y 0 (by omega) B4m
mutual
theorem eqw_nb:∀(n:Nat) (a b:W) (m:Nat),a.nb n=true→b.nb m=true→(M8 a b=true↔a=b)
  | _,.non,.non,_,_,_=> by simp [M8,W.pd,PyData.eqv]
  | _,.non,.int _,_,_,_=> by simp [M8,W.pd,PyData.eqv]
  | _,.non,.str _,_,_,_=> by simp [M8,W.pd,PyData.eqv]
  | _,.non,.tup _,_,_,_=> by simp [M8,W.pd,PyData.eqv]
  | _,.non,.lst _,_,_,_=> by simp [M8,W.pd,PyData.eqv]
  | _,.int _,.non,_,_,_=> by simp [M8,W.pd,PyData.eqv]
  | _,.int _,.int _,_,_,_=> by simp [M8,W.pd,PyData.eqv]
  | _,.int _,.str _,_,_,_=> by simp [M8,W.pd,PyData.eqv]
  | _,.int _,.tup _,_,_,_=> by simp [M8,W.pd,PyData.eqv]
  | _,.int _,.lst _,_,_,_=> by simp [M8,W.pd,PyData.eqv]
  | _,.str _,.non,_,_,_=> by simp [M8,W.pd,PyData.eqv]
  | _,.str _,.int _,_,_,_=> by simp [M8,W.pd,PyData.eqv]
  | _,.str _,.str _,_,_,_=> by simp [M8,W.pd,PyData.eqv]
  | _,.str _,.tup _,_,_,_=> by simp [M8,W.pd,PyData.eqv]
  | _,.str _,.lst _,_,_,_=> by simp [M8,W.pd,PyData.eqv]
  | _,.tup _,.non,_,_,_=> by simp [M8,W.pd,PyData.eqv]
  | _,.tup _,.int _,_,_,_=> by simp [M8,W.pd,PyData.eqv]
  | _,.tup _,.str _,_,_,_=> by simp [M8,W.pd,PyData.eqv]
  | n+1,.tup xs,.tup ys,m+1,h,g=> by
    have z:=eqws_nb n xs ys m h g
    show PyData.eqvAll (W.pds xs) (W.pds ys)=true↔_
    rw [z]
    simp
  | _,.tup _,.lst _,_,_,_=> by simp [M8,W.pd,PyData.eqv]
  | _,.lst _,.non,_,_,_=> by simp [M8,W.pd,PyData.eqv]
  | _,.lst _,.int _,_,_,_=> by simp [M8,W.pd,PyData.eqv]
  | _,.lst _,.str _,_,_,_=> by simp [M8,W.pd,PyData.eqv]
  | _,.lst _,.tup _,_,_,_=> by simp [M8,W.pd,PyData.eqv]
  | n+1,.lst xs,.lst ys,m+1,h,g=> by
    have z:=eqws_nb n xs ys m h g
    show PyData.eqvAll (W.pds xs) (W.pds ys)=true↔_
    rw [z]
    simp
  | 0,.tup _,.tup _,_,h,_=> by simp [W.nb] at h
  | _,.tup _,.tup _,0,_,h=> by simp [W.nb] at h
  | 0,.lst _,.lst _,_,h,_=> by simp [W.nb] at h
  | _,.lst _,.lst _,0,_,h=> by simp [W.nb] at h
  | _,.bl _,_,_,h,_=> by simp [W.nb] at h
  | _,.dct _ _,_,_,h,_=> by simp [W.nb] at h
  | _,.ref _,_,_,h,_=> by simp [W.nb] at h
  | _,.ty _,_,_,h,_=> by simp [W.nb] at h
  | _,.emp,_,_,h,_=> by simp [W.nb] at h
  | _,_,.bl _,_,_,h=> by simp [W.nb] at h
  | _,_,.dct _ _,_,_,h=> by simp [W.nb] at h
  | _,_,.ref _,_,_,h=> by simp [W.nb] at h
  | _,_,.ty _,_,_,h=> by simp [W.nb] at h
  | _,_,.emp,_,_,h=> by simp [W.nb] at h
theorem eqws_nb:∀(n:Nat) (xs ys:List W) (m:Nat),W.nbs n xs=true→W.nbs m ys=true→(PyData.eqvAll (W.pds xs) (W.pds ys)=true↔xs=ys)
  | _,[],[],_,_,_=> by simp [W.pds,PyData.eqvAll]
  | _,[],_::_,_,_,_=> by simp [W.pds,PyData.eqvAll]
  | _,_::_,[],_,_,_=> by simp [W.pds,PyData.eqvAll]
  | n,x::xs,y::ys,m,h,g=> by
    simp only [W.nbs,Bool.and_eq_true] at h g
    have z1:=eqw_nb n x y m h.1 g.1
    have z2:=eqws_nb n xs ys m h.2 g.2
    simp only [W.pds,PyData.eqvAll,Bool.and_eq_true]
    rw [z2,show PyData.eqv x.pd y.pd=M8 x y from rfl,z1]
    simp
end
def SV.pl (x:SV):Prop:=match x with
  | .val w=> w.plain
  | .own c=> c.fz.plain
theorem A92 {w:W} (h:w.plain) (k:AH):viewW k w= .wv w:=by
  obtain ⟨n,_,h⟩:=h
  cases w with
  | ref a=> simp [W.nb] at h
  | _=> rfl
theorem A0C {x:SV} (h:x.pl) (k:AH):(M5 k x).toW=x.fz∧M5 k x≠ .bad∧x.fz.plain:=by
  cases x with
  | val w=>
    have h:w.plain:=h
    refine ⟨by show (viewW k w).toW=w;rw [A92 h];rfl,by show viewW k w≠ .bad;rw [A92 h];exact (fun z=> nomatch z),h⟩
  | own c=> exact ⟨rfl,(fun z=> nomatch z),h⟩
theorem C05 {w:W} (h:w.plain):w.dat 60=true:=by
  obtain ⟨n,hn,h⟩:=h
  exact A52 hn (A6B h)
theorem A71 {x:SV} (h:x.pl) (k:AH):(M5 k x).ok=true:=by
  obtain ⟨a,b,c⟩:=A0C h k
  have d:=C05 c
  cases e:M5 k x with
  | bad=> exact absurd e b
  | wv w=> rw [e] at a;show w.dat 60=true;rw [show w=x.fz from a];exact d
  | cv w=> rw [e] at a;show w.fz.dat 60=true;rw [show w.fz=x.fz from a];exact d
theorem A6b {x y:SV} {neg:Bool} {k:SV→MC} (hx:x.pl) (hy:y.pl):E4 (D4 neg) x y k=k (.val (.bl (if neg=true then !M8 x.fz y.fz else M8 x.fz y.fz))):=by
  funext h Q E
  unfold E4 D4
  rw [(A0C hx h).1,(A0C hy h).1]
  refine propext ⟨fun z=> z.2.2,fun z=> ⟨A71 hx h,A71 hy h,z⟩⟩
noncomputable instance:DecidableEq W:=fun _ _=> Classical.propDecidable _
theorem sp {w:W} (h:w.plain):SV.pl (.val w):=h
theorem so {c:Cont} (h:c.fz.plain):SV.pl (.own c):=h
theorem o4 {x y:SV} {k:Bool→MC} (hx:x.pl) (hy:y.pl):(E4 (D4 false) x y fun r=> V2 r k)=k (decide (x.fz=y.fz)):=by
  rw [A6b hx hy]
  obtain ⟨_,_,n,_,hn⟩:=A0C hx (fun _=> none)
  obtain ⟨_,_,m,_,hm⟩:=A0C hy (fun _=> none)
  have z:=eqw_nb n x.fz y.fz m hn hm
  have:M8 x.fz y.fz=decide (x.fz=y.fz):=by
    by_cases q:x.fz=y.fz
    · rw [z.mpr q,decide_eq_true q]
    · have q':=mt z.mp q
      rw [decide_eq_false q]
      simpa using q'
  rw [this]
  rfl
theorem A6a {x y:SV} {k:Bool→MC} (hx:x.pl) (hy:y.pl):(E4 (D4 true) x y fun r=> V2 r k)=k (!decide (x.fz=y.fz)):=by
  have z:=o4 (k:=fun b=> k (!b)) hx hy
  rw [A6b hx hy] at z ⊢
  simp only [Bool.false_eq_true,if_false,if_true] at z ⊢
  exact z
theorem B0B {x:W} (hx:∃n,x.nb n=true):∀{xs:List W},(∀y∈xs,∃n,y.nb n=true)→y9 x xs=decide (x∈xs)
  | [],_=> by simp [y9]
  | y::ys,h=> by
    obtain ⟨n,hn⟩:=hx
    obtain ⟨m,hm⟩:=h y (by simp)
    have z:=eqw_nb m y x n hm hn
    rw [C06,B0B ⟨n,hn⟩ fun z hz=> h z (by simp [hz])]
    by_cases q:y=x
    · rw [z.mpr q];simp [q]
    · have q':M8 y x=false:=by simpa using mt z.mp q
      have q2:¬x=y:=fun e=> q e.symm
      rw [q'];simp [q2]
theorem B4K {w:W} (h:w.plain):∃n,w.nb n=true:=let ⟨n,_,q⟩:=h;⟨n,q⟩
theorem B7M {x:SV} {y:SV} {xs:List W} {k:Bool→MC} (hx:x.pl) (hy:∀h,(M5 h y).items=some xs) (hp:∀z∈xs,z.nb 59=true):(E4 (Z6 false) x y fun r=> V2 r k)=k (decide (x.fz∈xs)):=by
  funext h Q E
  unfold E4
  rw [B6o,hy h]
  have hd:xs.all (W.dat 60)=true:=by
    rw [List.all_eq_true]
    exact fun z hz=> A52 (by omega) (A6B (hp z hz))
  have e:y9 (M5 h x).toW xs=decide (x.fz∈xs):=by
    rw [(A0C hx h).1]
    exact B0B (B4K (A0C hx h).2.2) fun z hz=> ⟨59,hp z hz⟩
  show (_∧_∧_)=_
  rw [e]
  refine propext ⟨fun z=> z.2.2,fun z=> ⟨A71 hx h,hd,z⟩⟩
theorem C48 {x:SV} {y:SV} {xs:List W} {k:Bool→MC} (hx:x.pl) (hy:∀h,(M5 h y).items=some xs) (hp:∀z∈xs,z.nb 59=true):(E4 (Z6 true) x y fun r=> V2 r k)=k (!decide (x.fz∈xs)):=by
  funext h Q E
  unfold E4
  rw [B6o,hy h]
  have hd:xs.all (W.dat 60)=true:=by
    rw [List.all_eq_true]
    exact fun z hz=> A52 (by omega) (A6B (hp z hz))
  have e:y9 (M5 h x).toW xs=decide (x.fz∈xs):=by
    rw [(A0C hx h).1]
    exact B0B (B4K (A0C hx h).2.2) fun z hz=> ⟨59,hp z hz⟩
  show (_∧_∧_)=_
  rw [e]
  refine propext ⟨fun z=> z.2.2,fun z=> ⟨A71 hx h,hd,z⟩⟩
theorem C3u {x:W} {k:Bool→MC} (hx:x.plain):(E4 (O3 true) (.val x) (.val .non) fun r=> V2 r k)=k (!decide (x= .non)):=by
  funext h Q E
  show O3 true (viewW h x) (.wv .non) _=_
  rw [A92 hx,B6w]
  have:(Vw.wv x).isNon=decide (x= .non):=by
    cases x <;> simp [Vw.isNon]
  rw [this]
  refine propext ⟨fun z=> z.2,fun z=> ⟨(fun e=> nomatch e),z⟩⟩
theorem A4R {x y:SV} {k:SV→MC} (hx:x.pl) (hy:y.pl):E4 (D4 false) x y k=k (.val (.bl (decide (x.fz=y.fz)))):=by
  rw [A6b hx hy]
  obtain ⟨_,_,n,_,hn⟩:=A0C hx (fun _=> none)
  obtain ⟨_,_,m,_,hm⟩:=A0C hy (fun _=> none)
  have z:=eqw_nb n x.fz y.fz m hn hm
  have:M8 x.fz y.fz=decide (x.fz=y.fz):=by
    by_cases q:x.fz=y.fz
    · rw [z.mpr q,decide_eq_true q]
    · have q':=mt z.mp q
      rw [decide_eq_false q]
      simpa using q'
  rw [this]
  rfl
theorem B1b {x y:SV} {k:SV→MC} (hx:x.pl) (hy:y.pl):E4 (D4 true) x y k=k (.val (.bl (!decide (x.fz=y.fz)))):=by
  have z:=A4R (k:=fun r=> match r with
    | .val (.bl b)=> k (.val (.bl (!b)))
    | _=> bad) hx hy
  rw [A6b hx hy] at z ⊢
  exact z
theorem A33 {p q:Prop} [Decidable p] [Decidable q] (h:p↔q):decide p=decide q:=decide_eq_decide.mpr h
section
variable {k:SV→MC} {i j:Int} {a b:Str} {as bs:List Int} {xs:List W}
@[simp] theorem A6Q:E4 (D4 false) (.val (.int i)) (.val (.int j)) k=k (.val (.bl (decide (i=j)))):=by
  rw [A4R (sp T9) (sp T9),A33 (q:=i=j) (by simp)]
@[simp] theorem A3k:E4 (D4 true) (.val (.int i)) (.val (.int j)) k=k (.val (.bl (!decide (i=j)))):=by
  rw [B1b (sp T9) (sp T9),A33 (q:=i=j) (by simp)]
@[simp] theorem A8c:E4 (D4 false) (.val (.str a)) (.val (.str b)) k=k (.val (.bl (decide (a=b)))):=by
  rw [A4R (sp c8) (sp c8),A33 (q:=a=b) (by simp)]
@[simp] theorem C82:E4 (D4 true) (.val (.str a)) (.val (.str b)) k=k (.val (.bl (!decide (a=b)))):=by
  rw [B1b (sp c8) (sp c8),A33 (q:=a=b) (by simp)]
theorem B4L:W.tup (as.map W.int)=W.tup (bs.map W.int)↔as=bs:=⟨fun e=> by injection e with e;exact B0X e,fun e=> by rw [e]⟩
@[simp] theorem C87:E4 (D4 false) (.val (.tup (as.map W.int))) (.val (.tup (bs.map W.int))) k=k (.val (.bl (decide (as=bs)))):=by
  rw [A4R (sp A5y) (sp A5y),C5,C5,A33 (q:=as=bs) B4L]
@[simp] theorem B6q:E4 (D4 true) (.val (.tup (as.map W.int))) (.val (.tup (bs.map W.int))) k=k (.val (.bl (!decide (as=bs)))):=by
  rw [B1b (sp A5y) (sp A5y),C5,C5,A33 (q:=as=bs) B4L]
theorem A0J {w:W} {neg:Bool} (hv:∀h,viewW h w= .wv w):E4 (O3 neg) (.val w) (.val .non) k=k (.val (.bl (if neg then !(Vw.wv w).isNon else (Vw.wv w).isNon))):=by
  funext h Q E
  show O3 neg (viewW h w) (.wv .non) _=_
  rw [hv,B6w]
  refine propext ⟨fun z=> z.2,fun z=> ⟨(fun e=> nomatch e),z⟩⟩
@[simp] theorem B4w:E4 (O3 false) (.val .non) (.val .non) k=k (.val (.bl true)):=A0J (fun _=> rfl)
@[simp] theorem B4o:E4 (O3 false) (.val (.int i)) (.val .non) k=k (.val (.bl false)):=A0J (fun _=> rfl)
@[simp] theorem B5S:E4 (O3 false) (.val (.str a)) (.val .non) k=k (.val (.bl false)):=A0J (fun _=> rfl)
@[simp] theorem C2j:E4 (O3 false) (.val (.tup xs)) (.val .non) k=k (.val (.bl false)):=A0J (fun _=> rfl)
@[simp] theorem C24:E4 (O3 false) (.val (.lst xs)) (.val .non) k=k (.val (.bl false)):=A0J (fun _=> rfl)
@[simp] theorem B4f:E4 (O3 true) (.val .non) (.val .non) k=k (.val (.bl false)):=A0J (fun _=> rfl)
@[simp] theorem B4d:E4 (O3 true) (.val (.int i)) (.val .non) k=k (.val (.bl true)):=A0J (fun _=> rfl)
@[simp] theorem C7Q:E4 (O3 true) (.val (.str a)) (.val .non) k=k (.val (.bl true)):=A0J (fun _=> rfl)
@[simp] theorem C7H:E4 (O3 true) (.val (.tup xs)) (.val .non) k=k (.val (.bl true)):=A0J (fun _=> rfl)
@[simp] theorem C7K:E4 (O3 true) (.val (.lst xs)) (.val .non) k=k (.val (.bl true)):=A0J (fun _=> rfl)
end
end Ab
namespace Ab
open PySem PySem.Spec PyProof.Rows L2 RZ
abbrev CL:=(Addr→List W→MC)→MC
def C5r (a:CW) (u:CL):CL:=fun k=> a fun w=> u fun f ws=> k f (w::ws)
def C6J (b:CE):List W→MC
  | []=> b ret
  | _=> bad
def C58 (b:W→CE):List W→MC
  | [w]=> b w ret
  | _=> bad
def C15 (m:Addr→List W→MC) (l:CL):CE:=fun k=> l fun f ws=> call (m f ws) k
section
variable {Q:RR→AH→Prop} {E:AExc→AH→Prop} {env:A1} {h:AH} {k:SV→MC}
@[simp] theorem C66 {m:Addr→List W→MC} {l:CL}:C15 m l k=l fun f ws=> call (m f ws) k:=rfl
@[simp] theorem C7v {a:CW} {u:CL} {k:Addr→List W→MC}:C5r a u k=a fun w=> u fun f ws=> k f (w::ws):=rfl
@[simp] theorem C7L {b:CE}:C6J b []=b ret:=rfl
@[simp] theorem C69 {b:W→CE} {w:W}:C58 b [w]=b w ret:=rfl
def A0H (x word:Str) (fs:List Str) (ma:E6):MC:=ma fun ws=> A4T ⟨x,initF (W.str word) fs ws⟩
@[simp] theorem A2L {x word:Str} {fs:List Str} {ma:E6}:A0H x word fs ma=ma fun ws=> A4T ⟨x,initF (W.str word) fs ws⟩:=rfl
theorem A1V {E':AExc→A1→AH→Prop} {D:AEnds} {x word:Str} {fs:List Str} {ta:I6} {ma:E6} (hE:∀x h,E x h→E' x env h) (a:SA Q E env ta ma):∀h,A0H x word fs ma h Q E→w9 E' x word fs ta D env h:=fun h z=>
  a h (fun ws=> A4T ⟨x,initF (W.str word) fs ws⟩) (fun ws env1 h1=> E' ⟨x,initF (W.str word) fs ws⟩ env1 h1) (fun ws h1 y=> hE _ _ y) z
inductive MonoL2:List (Str×XT)→Prop where
  | nil:MonoL2 []
  | cons {c:Str} {sv:XT} {l:List (Str×XT)} (m:B6n sv) (t:MonoL2 l):MonoL2 ((c,sv)::l)
end
end Ab
namespace Ab
open PySem PySem.Spec PyProof.Rows L2 RZ
section
variable {Q:RR→AH→Prop} {E:AExc→AH→Prop} {env:A1} {D:AEnds}
end
def getT (x:SV) (w:W) (k:SV→MC):MC:=fun h Q E=> ∃(l:List (List Int×W)) (ns:List Int) (v:W),x= .own (.map (A4e l))∧w= .tup (ns.map .int)∧A6R l ns=some v∧k (.val v) h Q E
section
variable {Q:RR→AH→Prop} {E:AExc→AH→Prop} {env:A1} {D:AEnds} {k:SV→MC} {h:AH}
end
end Ab
namespace Ab
open PySem PySem.Spec PyProof.Rows L2 RZ
def C5o:M7:=oII B6c fun i j=> .int (i ^ j.toNat)
section
variable {i j:Int} {k:SV→MC}
@[simp] theorem C8n:E4 C5o (.val (.int i)) (.val (.int j)) k=K6 (B6c i j) (k (.val (.int (i ^ j.toNat)))):=rfl
end
def idx (x:SV) (ws:List W) (k:SV→MC):MC:=fun h Q E=> oIndexW (M5 h x) ws fun r=> v5 k r h Q E
def A9A (x:SV) (m:MC):MC:=fun h Q E=> (∃ns:List Int,(M5 h x).seq=some (ns.map W.int))∧m h Q E
def C6e (a:CE) (ma:E6):CE:=fun k=> a fun x=> A9A x (ma fun ws=> idx x ws k)
section
variable {Q:RR→AH→Prop} {E:AExc→AH→Prop} {env:A1} {t:AT} {m:CE} {ta:I6} {ma:E6} {k:SV→MC} {ns:List Int} {x:Int}
@[simp] theorem C9M {a:CE}:C6e a ma k=a fun x=> A9A x (ma fun ws=> idx x ws k):=rfl
@[simp] theorem C7S {m:MC}:A9A (.own (.seq (ns.map W.int))) m=m:=by
  funext h Q E
  exact propext ⟨fun z=> z.2,fun z=> ⟨⟨ns,rfl⟩,z⟩⟩
@[simp] theorem C68 {m:MC}:A9A (.val (.lst (ns.map W.int))) m=m:=by
  funext h Q E
  exact propext ⟨fun z=> z.2,fun z=> ⟨⟨ns,rfl⟩,z⟩⟩
end
def mix (n0 m0:Nat) (perm:List Nat) (ds us ws:List W) (k:List W→MC):MC:=K6 (us.length=n0∧ws.length=m0) (k (perm.map fun i=> (us++(ws++ds)).getD i .non))
def wMx (n0 m0:Nat) (perm:List Nat) (ds:List W) (a b:E6):E6:=fun k=> a fun us=> b fun ws=> mix n0 m0 perm ds us ws k
@[simp] theorem C9C {n0 m0:Nat} {perm:List Nat} {ds:List W} {a b:E6} {k:List W→MC}:wMx n0 m0 perm ds a b k=a fun us=> b fun ws=> mix n0 m0 perm ds us ws k:=rfl
theorem A4O {n0 m0:Nat} {perm:List Nat} {ds us ws:List W} {k:List W→MC} (h:us.length=n0∧ws.length=m0):mix n0 m0 perm ds us ws k=k (perm.map fun i=> (us++(ws++ds)).getD i .non):=F9 h
section
variable {Q:RR→AH→Prop} {E:AExc→AH→Prop} {env:A1} {ta tb:I6} {ma mb:E6}
end
theorem B5N {neg x y:Bool} {k:SV→MC}:E4 (B1w neg) (.val (.bl x)) (.val (.bl y)) k=k (.val (.bl (if neg then !decide (x=y) else decide (x=y)))):=by
  funext h Q E
  refine propext ⟨fun ⟨u,v,e1,e2,q⟩=> ?_,fun q=> ⟨x,y,rfl,rfl,q⟩⟩
  cases e1
  cases e2
  exact q
@[simp] theorem C9H {x y:Bool} {k:SV→MC}:E4 (B1w false) (.val (.bl x)) (.val (.bl y)) k=k (.val (.bl (decide (x=y)))):=B5N
@[simp] theorem C84 {x y:Bool} {k:SV→MC}:E4 (B1w true) (.val (.bl x)) (.val (.bl y)) k=k (.val (.bl (!decide (x=y)))):=B5N
section
variable {a b c d e f x:W} {k:List W→MC}
@[simp] theorem C8h:mix 3 2 [0,1,2,3,4] [] [a,b,c] [d,e] k=k [a,b,c,d,e]:=by rw [A4O (by exact ⟨rfl,rfl⟩)];rfl
@[simp] theorem C78:mix 3 2 [0,1,2,4,3] [] [a,b,c] [d,e] k=k [a,b,c,e,d]:=by rw [A4O (by exact ⟨rfl,rfl⟩)];rfl
@[simp] theorem C8f:mix 0 5 [4,3,2,1,0] [] [] [a,b,c,d,e] k=k [e,d,c,b,a]:=by rw [A4O (by exact ⟨rfl,rfl⟩)];rfl
@[simp] theorem C8V:mix 3 1 [0,1,2,3,4] [x] [a,b,c] [d] k=k [a,b,c,d,x]:=by rw [A4O (by exact ⟨rfl,rfl⟩)];rfl
@[simp] theorem C8r:mix 4 2 [0,1,2,3,4,5] [] [a,b,c,d] [e,f] k=k [a,b,c,d,e,f]:=by rw [A4O (by exact ⟨rfl,rfl⟩)];rfl
@[simp] theorem C7c:mix 0 5 [4,3,2,1,0,5] [x] [] [a,b,c,d,e] k=k [e,d,c,b,a,x]:=by rw [A4O (by exact ⟨rfl,rfl⟩)];rfl
end
def A9J (x:SV) (k:SV→MC):MC:=fun h Q E=> ∃xs,(M5 h x).seq=some xs∧k (.own (.seq xs.reverse)) h Q E
def C4z (a:CE):CE:=fun k=> a fun x=> A9J x k
section
variable {Q:RR→AH→Prop} {E:AExc→AH→Prop} {env:A1} {t:AT} {m:CE} {k:SV→MC} {xs:List W}
@[simp] theorem C8t {a:CE}:C4z a k=a fun x=> A9J x k:=rfl
@[simp] theorem C7F:A9J (.own (.seq xs)) k=k (.own (.seq xs.reverse)):=by
  funext h Q E
  exact propext ⟨fun ⟨ys,e,z⟩=> by cases e;exact z,fun z=> ⟨xs,rfl,z⟩⟩
@[simp] theorem C7N:A9J (.val (.lst xs)) k=k (.own (.seq xs.reverse)):=by
  funext h Q E
  exact propext ⟨fun ⟨ys,e,z⟩=> by cases e;exact z,fun z=> ⟨xs,rfl,z⟩⟩
end
end Ab
namespace Ab
open PySem PySem.Spec PyProof.Rows L2 RZ
def B5w (w:W) (k:SV→MC):MC:=fun h Q E=> oLenSet [.wv w] fun r=> v5 k r h Q E
def C3V (mk:CW):CE:=fun k=> mk fun w=> B5w w k
section
variable {Q:RR→AH→Prop} {E:AExc→AH→Prop} {env:A1} {t:D5} {mk:CW} {k:SV→MC} {ns:List Int} {h:AH}
@[simp] theorem C63:C3V mk k=mk fun w=> B5w w k:=rfl
end
def pr3 (ws:List W) (k:W→W→W→MC):MC:=match ws with
  | [a,b,c]=> k a b c
  | _=> bad
def C5c (ma:E6) (k:W→W→W→MC):MC:=ma fun ws=> pr3 ws k
@[simp] theorem C7o {a:E6} {k:W→W→W→MC}:C5c a k=a fun ws=> pr3 ws k:=rfl
@[simp] theorem C9J {x y z:W} {k:W→W→W→MC}:pr3 [x,y,z] k=k x y z:=rfl
end Ab
namespace Ab
open PySem PySem.Spec PyProof.Rows L2 RZ
def A12 (n f:Str) (x:SV) (k:SV→MC):MC:=fun h Q E=> match x with
  | .val (.ref a)=> ∃fs w,h a=some (.ins n fs)∧fs.lookup f=some w∧k (.val w) h Q E
  | _=> False
def U8 (n f:Str) (m:CE):CE:=fun k=> m fun x=> A12 n f x k
def A0R (n f:Str) (x:SV) (w:W) (k:MC):MC:=fun h Q E=> match x with
  | .val (.ref a)=> ∃fs,h a=some (.ins n fs)∧fs.length < 1000∧k (C6 h a (.ins n (u6 f w fs))) Q E
  | _=> False
def A3p (n f:Str) (mv:CW) (m:CE) (k:MC):MC:=mv fun w=> m fun x=> A0R n f x w k
def C6F (n f:Str) (mv:CW) (m:W→CE) (k:W→MC):MC:=mv fun w=> un2 w fun a b=> m a fun x=> A0R n f x b (k a)
def ffC (n f n2 g:Str) (mv:CW) (m m2:CE) (k:MC):MC:=mv fun w=> un2 w fun a b=> m fun x=> A0R n f x a (m2 fun y=> A0R n2 g y b k)
def W2 (C nm:Str) (x:SV) (k:Addr→MC):MC:=fun h Q E=> match x with
  | .val (.ref a)=> (∃fs,h a=some (.ins C fs)∧fs.lookup nm=none)∧k a h Q E
  | _=> False
def R8 (C nm:Str) (f:List W→MC) (mo:CE) (ma:E6):CE:=fun k=> mo fun x=> W2 C nm x fun a=> ma fun ws=> call (f (.ref a::ws)) k
def A2Z (C nm:Str) (f:List W→MC) (mo:CE) (ma:E6):CE:=fun k=> mo fun x=> W2 C nm x fun a=> ma fun ws=> call0 (f (.ref a::ws)) k
def mxW (n0 m0:Nat) (P:List Nat) (ds us zs:List W) (k:List W→MC):MC:=K6 (us.length=n0∧zs.length=m0) (k (P.map fun i=> (us++(zs++ds)).getD i .non))
def C4v (C nm:Str) (f:List W→MC) (n0 m0:Nat) (P:List Nat) (ds:List W) (mo:CE) (ma mk:E6):CE:=fun k=> mo fun x=> W2 C nm x fun a=> ma fun ws=> mk fun zs=> mxW (n0+1) m0 P ds (.ref a::ws) zs fun vs=> call (f vs) k
def C3g (C nm:Str) (f:List W→MC) (n0 m0:Nat) (P:List Nat) (ds:List W) (mo:CE) (ma mk:E6):CE:=fun k=> mo fun x=> W2 C nm x fun a=> ma fun ws=> mk fun zs=> mxW (n0+1) m0 P ds (.ref a::ws) zs fun vs=> call0 (f vs) k
def mkX (C:Str) (f:Addr→MC) (k:SV→MC):MC:=fun h Q E=> ∀a,h a=none→f a (C6 h a (.ins C [])) (fun r h2=> r= .val .non∧k (.val (.ref a)) h2 Q E) E
def A9D (C:Str) (f:Addr→MC) (k:SV→MC):MC:=fun h Q E=> ∀a,h a=none→f a (C6 h a (.ins C [])) (fun r h2=> r= .val .non∧k (.val (.ref a)) h2 Q E) fun _ _=> False
def A1l (C:Str) (f:List W→MC) (ma:E6):CE:=fun k=> ma fun ws=> mkX C (fun a=> f (.ref a::ws)) k
def C4k (C:Str) (f:List W→MC) (ma:E6):CE:=fun k=> ma fun ws=> A9D C (fun a=> f (.ref a::ws)) k
def B01 (C:Str) (f:List W→MC) (n0 m0:Nat) (P:List Nat) (ds:List W) (ma mk:E6):CE:=fun k=> ma fun ws=> mk fun zs=> K6 (ws.length=n0∧zs.length=m0) (mkX C (fun a=> f (P.map fun i=> ((.ref a::ws)++(zs++ds)).getD i .non)) k)
def C2T (C:Str) (f:List W→MC) (n0 m0:Nat) (P:List Nat) (ds:List W) (ma mk:E6):CE:=fun k=> ma fun ws=> mk fun zs=> K6 (ws.length=n0∧zs.length=m0) (A9D C (fun a=> f (P.map fun i=> ((.ref a::ws)++(zs++ds)).getD i .non)) k)
def B7L (C:Str) (f:List W→MC) (po:RR→(RV→Prop)→Prop) (x:SV) (k:SV→MC):MC:=fun h Q E=> match x with
  | .val (.ref a)=> ∃fs,h a=some (.ins C fs)∧f [.ref a] h (fun r h2=> po r fun y=> v5 k y h2 Q E) fun _ _=> False
  | _=> False
def C6T (C:Str) (f:List W→MC) (po:RR→(RV→Prop)→Prop) (m:CE):CE:=fun k=> m fun x=> B7L C f po x k
def eqX (C:Str) (neg:Bool) (f:List W→MC) (x y:SV) (k:SV→MC):MC:=fun h Q E=> match x,y with
  | .val (.ref a),.val (.ref b)=> (∃fs gs,h a=some (.ins C fs)∧h b=some (.ins C gs))∧f [.ref a,.ref b] h (fun r h2=> ∃c:Bool,r= .val (.bl c)∧k (.val (.bl (if neg=true then !c else c))) h2 Q E) fun _ _=> False
  | _,_=> False
def A2s (C:Str) (neg:Bool) (f:List W→MC) (m m2:CE):CE:=fun k=> m fun x=> m2 fun y=> eqX C neg f x y k
def A3s (n:Str) (b:Bool) (x:SV) (k:SV→MC):MC:=fun h Q E=> match x with
  | .val (.ref a)=> (∃fs,h a=some (.ins n fs))∧k (.val (.bl b)) h Q E
  | .val (.lst _)=> k (.val (.bl false)) h Q E
  | .val (.tup _)=> k (.val (.bl false)) h Q E
  | .val (.str _)=> k (.val (.bl false)) h Q E
  | _=> False
def B1r (n:Str) (b:Bool) (m:CE):CE:=fun k=> m fun x=> A3s n b x k
def inX (neg:Bool) (w:W) (x:SV) (k:SV→MC):MC:=fun h Q E=> inM neg (M5 h x) w fun r=> v5 k r h Q E
def A88 (neg:Bool) (mk:CW) (m:CE):CE:=fun k=> mk fun w=> m fun x=> inX neg w x k
def A82 (x:SV) (w:W) (k:SV→MC):MC:=fun h Q E=> A6c (M5 h x) w fun r=> v5 k r h Q E
def A4X (m:CE) (mk:CW):CE:=fun k=> m fun x=> mk fun w=> A82 x w k
def A4c (x:SV) (w v:W) (k:SV→MC):MC:=fun h Q E=> match x with
  | .own (.map kvs)=> ∃l s,kvs=smap l∧w= .str s∧l.length < sizeLine∧k (.own (.map (smap (m6 l s v)))) h Q E
  | .val (.ref a)=> ∃l s,h a=some (.cont (.map (smap l)))∧w= .str s∧l.length < sizeLine∧k (.val (.ref a)) (C6 h a (.cont (.map (smap (m6 l s v))))) Q E
  | _=> False
def C5z (mv:CW) (x:SV) (mk:CW) (k:SV→MC):MC:=mv fun v=> mk fun w=> A4c x w v k
def u5 (x:SV) (w v:W) (k:MC):MC:=fun h Q E=> match x with
  | .val (.ref a)=> ∃l s,h a=some (.cont (.map (smap l)))∧w= .str s∧l.length < sizeLine∧k (C6 h a (.cont (.map (smap (m6 l s v))))) Q E
  | _=> False
def A8k (mv:CW) (m:CE) (mk:CW) (k:MC):MC:=mv fun v=> m fun x=> mk fun w=> u5 x w v k
def A6W (x:SV) (w:W) (k:MC):MC:=fun h Q E=> match x with
  | .val (.ref a)=> ∃l s,h a=some (.cont (.map (smap l)))∧w= .str s∧(l.lookup s).isSome=true∧k (C6 h a (.cont (.map (smap (x7 l s))))) Q E
  | _=> False
def A8i (m:CE) (mk:CW) (k:MC):MC:=m fun x=> mk fun w=> A6W x w k
def A8f:CE:=fun k=> k (.own (.map (smap [])))
def A0T (x:SV) (k:(AH→Prop)→List W→MC):MC:=fun h Q E=> match x with
  | .val (.ref a)=> ∃ws,h a=some (.cont (.seq ws))∧k (fun g=> g a=some (.cont (.seq ws))) ws h Q E
  | .val (.lst ws)=> k (fun _=> True) ws h Q E
  | .val (.tup ws)=> k (fun _=> True) ws h Q E
  | _=> False
abbrev v7:=((AH→Prop)→List W→MC)→MC
def A8v (m:CE):v7:=fun k=> m fun x=> A0T x k
def B1z (m:CE):v7:=fun k=> m fun x=> A0T x fun ok ws=> k ok (V3 ws)
def C6d (m:E6):v7:=fun k=> m fun ws=> k (fun _=> True) ws
def A4W (ok:AH→Prop) (m:MC):MC:=fun h Q E=> ok h∧m h Q E
def y6 {σ:Type} (ok:AH→Prop) (body:W→σ→(σ→MC)→(σ→MC)→MC) (k:σ→MC):List W→σ→MC
  | [],s=> A4W ok (k s)
  | w::ws,s=> A4W ok (body w s (y6 ok body k ws) k)
def A8p {σ:Type} (mi:v7) (s0:σ) (body:W→σ→(σ→MC)→(σ→MC)→MC) (k:σ→MC):MC:=mi fun ok ws=> y6 ok body k ws s0
def A2p (ok:AH→Prop) (body:W→(Option W→MC)→MC) (k:List W→MC):List W→List W→MC
  | [],acc=> A4W ok (k acc)
  | w::ws,acc=> A4W ok (body w fun o=> match o with
    | some y=> K6 (acc.length < sizeLine) (A2p ok body k ws (acc++[y]))
    | none=> A2p ok body k ws acc)
def B1y (mi:v7) (body:W→(Option W→MC)→MC):CE:=fun k=> mi fun ok ws=> A2p ok body (fun acc=> k (.own (.seq acc))) ws []
def B1u (ok:AH→Prop) (body:W→List W→(List W→MC)→MC) (k:List W→MC):List W→List W→MC
  | [],acc=> A4W ok (k acc)
  | w::ws,acc=> A4W ok (body w acc (B1u ok body k ws))
def C6W (mi:v7) (body:W→List W→(List W→MC)→MC):CE:=fun k=> mi fun ok ws=> B1u ok body (fun acc=> k (.own (.seq acc))) ws []
def C6b (mt:CB) (mi:v7) (body:W→(Option W→MC)→MC) (acc:List W) (kk:List W→MC):MC:=mt fun b=> if b=true then mi fun ok ws=> A2p ok body kk ws acc else kk acc
def A4M {σ:Type} (body:W→W→σ→(σ→MC)→MC) (fin:σ→Prop):List (Str×W)→σ→MC
  | [],s=> fun _ _ _=> fin s
  | p::r,s=> body (.str p.1) p.2 s (fun s=> fun _ Q E=> A4M body fin r s (fun _=> none) Q E)
def B09 {σ:Type} (n f:Str) (x:SV) (s0:σ) (body:W→W→σ→(σ→MC)→MC) (nd:σ→Prop) (k:σ→MC):MC:=fun h Q E=> match x with
  | .val (.ref s)=> ∃fs q l,h s=some (.ins n fs)∧fs.lookup f=some (.ref q)∧h q=some (.cont (.map (smap l)))∧(∀p∈l,p.2.nodct=true)∧A4M body (fun t=> nd t∧k t h Q E) l s0 (fun _=> none) Q E
  | _=> False
def dcM (mv:W→W→CW) (K:List (Str×W)→Prop) (Q:RR→AH→Prop) (E:AExc→AH→Prop):List (Str×W)→List (Str×W)→Prop
  | [],acc=> W.nodcts (acc.map (·.2))=true∧K acc
  | p::r,acc=> mv (.str p.1) p.2 (fun u=> fun _ _ _=> acc.length < sizeLine∧dcM mv K Q E r (m6 acc p.1 u)) (fun _=> none) Q E
def dcX (n f:Str) (x:SV) (mv:W→W→CW) (k:SV→MC):MC:=fun h Q E=> match x with
  | .val (.ref s)=> ∃fs q l,h s=some (.ins n fs)∧fs.lookup f=some (.ref q)∧h q=some (.cont (.map (smap l)))∧dcM mv (fun acc=> k (.own (.map (smap acc))) h Q E) Q E l []
  | _=> False
def A6d (n f:Str) (x:SV) (mv:W→W→CW):CE:=fun k=> dcX n f x mv k
def B7P (x:SV) (k:Str→MC):MC:=fun h Q E=> fmtV (M5 h x) fun y=> k y h Q E
def C6U (m:CE):CE:=fun k=> m fun x=> B7P x fun y=> k (.val (.str y))
def asS (x:SV) (k:Str→MC):MC:=fun h Q E=> match x with
  | .val (.str y)=> k y h Q E
  | _=> False
def jsM:List CE→Str→(Str→MC)→MC
  | [],acc,k=> k acc
  | m::ms,acc,k=> m fun x=> asS x fun y=> K6 ((acc++y).length≤sizeLine) (jsM ms (acc++y) k)
def C2m (ms:List CE):CE:=fun k=> jsM ms Str.empty fun s=> k (.val (.str s))
section
variable {Q:RR→AH→Prop} {E:AExc→AH→Prop} {env:A1} {t t1 t2:AT} {m m1 m2:CE} {tv tv2:D5} {mv mv2:CW} {ta tk:I6} {ma mk:E6} {tb:L8} {mb:CB} {D:AEnds} {i j:Nat}
theorem A2V {h:AH} {r:RV} {a:Addr} (rl:Rl env r (.val (.ref a))):r= .val (.ref a):=by
  cases r with
  | val w=> have e:SV.val (.ref a)= .val w:=rl;injection e with e;rw [e]
  | own c=> have e:SV.val (.ref a)= .own c:=rl;cases e
  | slot i=> obtain ⟨c,e,_⟩:=rl;cases e
theorem B08 {r:RV} {w:W} (rl:Rl env r (.val w)):r= .val w:=by
  cases r with
  | val w'=> have e:SV.val w= .val w':=rl;injection e with e;rw [e]
  | own c=> have e:SV.val w= .own c:=rl;cases e
  | slot i=> obtain ⟨c,e,_⟩:=rl;cases e
theorem W8 {n f:Str} (a:SE Q E env t m):SN Q E env (aFld n f t) (U8 n f m):=fun h k K hk z=> a h _ _ (fun r s h1 rl z=> by
  unfold A12 at z
  split at z
  · obtain ⟨fs,w,z1,z2,z3⟩:=z
    exact ⟨_,fs,w,A2V (h:=h1) rl,z1,z2,hk (.val w) h1 z3⟩
  · exact z.elim) z
theorem C3K {n f:Str} {x:SV} {w:W} {k:MC} {h:AH} {r:RV} (rl:Rl env r x) {P:A1→AH→Prop} (hk:∀h,k h Q E→P env h) (z:A0R n f x w k h Q E):∃a fs,r= .val (.ref a)∧h a=some (.ins n fs)∧fs.length < 1000∧P env (C6 h a (.ins n (u6 f w fs))):=by
  unfold A0R at z
  split at z
  · obtain ⟨fs,z1,z2,z3⟩:=z
    exact ⟨_,fs,A2V (h:=h) rl,z1,z2,hk _ z3⟩
  · exact z.elim
theorem A5x {n f:Str} {k:MC} (a:SA Q E env tv mv) (o:SE Q E env t m) (nx:∀h,k h Q E→D.nx env h):∀h,A3p n f mv m k h Q E→N4 tv (A3r n f t) D env h:=fun h z=>
  a h _ _ (fun w h1 z=> o h1 _ _ (fun r x h2 rl z=> C3K rl nx z) z) z
theorem B53 {C nm:Str} {x:SV} {k:Addr→MC} {h:AH} {r:RV} (rl:Rl env r x) (z:W2 C nm x k h Q E):∃a fs,r= .val (.ref a)∧h a=some (.ins C fs)∧fs.lookup nm=none∧k a h Q E:=by
  unfold W2 at z
  split at z
  · obtain ⟨⟨fs,z1,z2⟩,z3⟩:=z
    exact ⟨_,fs,A2V (h:=h) rl,z1,z2,z3⟩
  · exact z.elim
theorem C2Q {E':AExc→A1→AH→Prop} {f:List W→MC} {ws:List W} {h:AH} {k:SV→MC} {K:RV→A1→AH→Prop} (hk:∀s h',k s h' Q E→K s.rv env h') (hE:∀x h,E x h→E' x env h) (z:call (f ws) k h Q E):
    upc f ws h (kRes K env) fun x h2=> E' x env h2:=⟨_,_,fun r h' z=> by cases r <;> exact hk _ _ z,hE,z⟩
theorem C1K {f:List W→MC} {ws:List W} {h:AH} {k:SV→MC} {K:RV→A1→AH→Prop} (hk:∀s h',k s h' Q E→K s.rv env h') (z:call0 (f ws) k h Q E):
    upc f ws h (kRes K env) fun x h2=> E0 x env h2:=⟨_,_,fun r h' z=> by cases r <;> exact hk _ _ z,fun _ _ z=> z,z⟩
theorem T7 {C nm:Str} {E':AExc→A1→AH→Prop} {f:List W→MC} (hE:∀x h,E x h→E' x env h) (o:SE Q E env t m) (a:SA Q E env ta ma):SN Q E env (aMeth C nm E' (upc f) t ta) (R8 C nm f m ma):=fun h k K hk z=>
  o h _ _ (fun r x h1 rl z=> by
    obtain ⟨p,fs,e1,e2,e3,z⟩:=B53 rl z
    exact ⟨p,fs,e1,e2,e3,a h1 _ _ (fun ws h2 z=> C2Q hk hE z) z⟩) z
theorem A32 {C nm:Str} {f:List W→MC} (o:SE Q E env t m) (a:SA Q E env ta ma):SN Q E env (aMeth C nm E0 (upc f) t ta) (A2Z C nm f m ma):=fun h k K hk z=>
  o h _ _ (fun r x h1 rl z=> by
    obtain ⟨p,fs,e1,e2,e3,z⟩:=B53 rl z
    exact ⟨p,fs,e1,e2,e3,a h1 _ _ (fun ws h2 z=> C1K hk z) z⟩) z
theorem C5a {n0 m0:Nat} {P:List Nat} {ds us zs:List W} (h:us.length=n0∧zs.length=m0):gMx n0 m0 P ds us zs=P.map fun i=> (us++(zs++ds)).getD i .non:=by
  unfold gMx A89
  rw [if_pos (by simp [h.1,h.2])]
theorem B6V {C:Str} {E':AExc→A1→AH→Prop} {f:List W→MC} {g:Addr→List W} {k:SV→MC} {K:RV→A1→AH→Prop} {h:AH} (hk:∀s h',k s h' Q E→K s.rv env h') (hE:∀x h,E x h→E' x env h) (z:mkX C (fun a=> f (g a)) k h Q E):
    ∀a,h a=none→upc f (g a) (C6 h a (.ins C [])) (kMk K env a) fun x h3=> E' x env h3:=fun a n=> ⟨_,_,fun r h' y=> ⟨y.1,hk (.val (.ref a)) _ y.2⟩,hE,z a n⟩
theorem A3U {C:Str} {E':AExc→A1→AH→Prop} {f:List W→MC} (hE:∀x h,E x h→E' x env h) (a:SA Q E env ta ma):SN Q E env (aMake C E' (upc f) ta) (A1l C f ma):=fun h k K hk z=> a h _ _ (fun ws h1 z=> B6V (g:=fun a=> .ref a::ws) hk hE z) z
theorem C1t {C:Str} {E':AExc→A1→AH→Prop} {f:List W→MC} {n0 m0:Nat} {P:List Nat} {ds:List W} (hE:∀x h,E x h→E' x env h) (a:SA Q E env ta ma) (b:SA Q E env tk mk):SN Q E env (aMakeM C E' (upc f) P.length (gMx (n0+1) m0 P ds) ta tk) (B01 C f n0 m0 P ds ma mk):=fun h k K hk z=>
  a h _ _ (fun ws h1 z=> b h1 _ _ (fun zs h2 ⟨z1,z2⟩=> by
    have e:∀a:Addr,gMx (n0+1) m0 P ds (.ref a::ws) zs=P.map fun i=> ((.ref a::ws)++(zs++ds)).getD i .non:=fun a=> C5a ⟨by rw [List.length_cons,z1.1],z1.2⟩
    refine ⟨fun a=> by rw [e,List.length_map],fun a n=> ?_⟩
    rw [e]
    exact B6V (g:=fun a=> P.map fun i=> ((.ref a::ws)++(zs++ds)).getD i .non) hk hE z2 a n) z) z
theorem A4G {C:Str} {neg:Bool} {f:List W→MC} (a:SE Q E env t1 m1) (b:SE Q E env t2 m2):SN Q E env (aEqO C neg (upc f) t1 t2) (A2s C neg f m1 m2):=fun h k K hk z=> a h _ _ (fun r x h1 rl z=> b h1 _ _ (fun r2 y h2 rl2 z=> by
  unfold eqX at z
  split at z
  · obtain ⟨⟨fs,gs,z1,z2⟩,z3⟩:=z
    exact ⟨_,_,fs,gs,A2V (h:=h1) rl,A2V (h:=h2) rl2,z1,z2,_,_,fun r h' ⟨c,y1,y2⟩=> ⟨c,y1,hk (.val _) _ y2⟩,fun _ _ z=> z,z3⟩
  · exact z.elim) z) z
theorem C3t {n:Str} {b:Bool} (a:SE Q E env t m):SN Q E env (B1o n b t) (B1r n b m):=fun h k K hk z=> a h _ _ (fun r x h1 rl z=> by
  unfold A3s at z
  split at z
  · obtain ⟨⟨fs,z1⟩,z2⟩:=z
    exact .inl ⟨_,fs,A2V (h:=h1) rl,z1,hk (.val _) _ z2⟩
  · exact .inr ⟨_,B08 rl,trivial,hk (.val _) _ z⟩
  · exact .inr ⟨_,B08 rl,trivial,hk (.val _) _ z⟩
  · exact .inr ⟨_,B08 rl,trivial,hk (.val _) _ z⟩
  · exact z.elim) z
theorem C2e {neg:Bool} {v:Vw} {w:W} {P P':RV→Prop} (k:∀r,P r→P' r) (z:inM neg v w P):inM neg v w P':=let ⟨l,s,a,b,c⟩:=z;⟨l,s,a,b,k _ c⟩
theorem C1v {v:Vw} {w:W} {P P':RV→Prop} (k:∀r,P r→P' r) (z:A6c v w P):A6c v w P':=let ⟨l,s,u,a,b,c,d⟩:=z;⟨l,s,u,a,b,c,k _ d⟩
theorem B5s {neg:Bool} (a:SA Q E env tv mv) (b:SE Q E env t m):SN Q E env (aInM neg tv t) (A88 neg mv m):=fun h k K hk z=> a h _ _ (fun w h1 z=> b h1 _ _ (fun r x h2 rl z=> by
  rw [W7 rl]
  exact C2e (fun r z=> A6G hk r z) z) z) z
theorem A77 (b:SE Q E env t m) (a:SA Q E env tv mv):SN Q E env (aGetM t tv) (A4X m mv):=fun h k K hk z=> b h _ _ (fun r x h1 rl z=> a h1 _ _ (fun w h2 z=> by
  rw [W7 rl]
  exact C1v (fun r z=> A6G hk r z) z) z) z
theorem B5C {k:MC} (a:SA Q E env tv mv) (o:SN Q E env t m) (b:SA Q E env tv2 mv2) (n:∀h,k h Q E→D.nx env h):∀h,A8k mv m mv2 k h Q E→A8h tv t tv2 D env h:=fun h z=>
  a h _ _ (fun v h1 z=> o h1 _ _ (fun x h2 z=> b h2 _ _ (fun w h3 zz=> by
    cases x with
    | own c=> exact zz.elim
    | val w0=>
      cases w0 with
      | ref p=>
        obtain ⟨l,s,z1,z2,z3,z4⟩:=zz
        exact ⟨l,s,A1b z1,z2,z3,n _ z4⟩
      | _=> exact zz.elim) z) z) z
end
end Ab
namespace Ab
open PySem PySem.Spec PyProof.Rows L2 RZ
def SI (Q:RR→AH→Prop) (E:AExc→AH→Prop) (env:A1) (t:d4) (m:v7):Prop:=∀h (k:(AH→Prop)→List W→MC) (K:(AH→Prop)→List W→A1→AH→Prop),(∀ok ws h',k ok ws h' Q E→K ok ws env h')→m k h Q E→t env h K
def B7Q (f:T3) (x:SV) (ma:E6) (k:SV→MC):MC:=fun h Q E=> match x with
  | .val (.ref p)=> (∃xs,h p=some (.cont (.seq xs)))∧(ma fun ws=> fun h2 Q E=> match h2 p with
    | some (.cont (.seq xs))=> f xs ws fun xs' w=> k (.val w) (C6 h2 p (.cont (.seq xs'))) Q E
    | _=> False) h Q E
  | _=> False
def C6Y (f:T3) (m:CE) (ma:E6):CE:=fun k=> m fun x=> B7Q f x ma k
section
variable {Q:RR→AH→Prop} {E:AExc→AH→Prop} {env:A1} {t t1 t2:AT} {m m1 m2:CE} {tv tv2:D5} {mv mv2:CW} {ta tk:I6} {ma mk:E6} {tb:L8} {mb:CB} {D:AEnds} {i j:Nat} {ti:d4} {mi:v7}
theorem B4y {k:MC} (o:SN Q E env t m) (b:SA Q E env tv mv) (n:∀h,k h Q E→D.nx env h):∀h,A8i m mv k h Q E→A81 t tv D env h:=fun h z=>
  o h _ _ (fun x h2 z=> b h2 _ _ (fun w h3 zz=> by
    cases x with
    | own c=> exact zz.elim
    | val w0=>
      cases w0 with
      | ref p=>
        obtain ⟨l,s,z1,z2,z3,z4⟩:=zz
        exact ⟨l,s,A1b z1,z2,z3,n _ z4⟩
      | _=> exact zz.elim) z) z
theorem B4F:SN Q E env A8J A8f:=fun h k K hk z=> hk (.own _) h z
theorem B6E {x:SV} {r:RV} (rl:Rl env r x) {k:(AH→Prop)→List W→MC} {h:AH} {K:(AH→Prop)→List W→Prop} (hk:∀ok ws,k ok ws h Q E→K ok ws) (z:A0T x k h Q E):srcW h r K:=by
  unfold A0T at z
  split at z
  · obtain ⟨ws,e,z⟩:=z
    rw [A2V (h:=h) rl]
    exact ⟨ws,e,hk _ _ z⟩
  · cases r with
    | val w=> cases rl;exact hk _ _ z
    | own c=> cases rl
    | slot i=> obtain ⟨c,e,_⟩:=rl;cases e
  · cases r with
    | val w=> cases rl;exact hk _ _ z
    | own c=> cases rl
    | slot i=> obtain ⟨c,e,_⟩:=rl;cases e
  · exact z.elim
theorem B5F (a:SE Q E env t m):SI Q E env (iLive t) (A8v m):=fun h k K hk z=> a h _ _ (fun r x h' rl z=> B6E rl (fun ok ws z=> hk _ _ _ z) z) z
theorem C4M (a:SE Q E env t m):SI Q E env (iLvE t) (B1z m):=fun h k K hk z=> a h _ _ (fun r x h' rl z=> B6E (k:=fun ok ws=> k ok (V3 ws)) rl (fun ok ws z=> hk _ _ _ z) z) z
theorem B4R {σ J:Type} {ok:AH→Prop} {g:K5} {tb:D1} {body:W→σ→(σ→MC)→(σ→MC)→MC} {k:σ→MC} (envOf:σ→J→A1) (r:∀s j h,k s h Q E→D.nx (envOf s j) h)
    (b:∀w s j (kn:σ→MC) (N:A1→AH→Prop),(∀s j h,kn s h Q E→N (envOf s j) h)→∀h,body w s kn k h Q E→g w (envOf s j) h fun e1 h1=> tb { D with nx:=N,ct:=N,bk:=D.nx } e1 h1):
    ∀ws s j h,y6 ok body k ws s h Q E→aLoopL ok g tb D ws (envOf s j) h
  | [],s,j,h,z=> ⟨z.1,r s j h z.2⟩
  | w::ws,s,j,h,z=> ⟨z.1,b w s j (y6 ok body k ws) (aLoopL ok g tb D ws) (fun s j h z=> B4R envOf r b ws s j h z) h z.2⟩
theorem B5d {σ J:Type} {g:K5} {tb:D1} {body:W→σ→(σ→MC)→(σ→MC)→MC} {k:σ→MC} (envOf:σ→J→A1) (s0:σ) (j0:J) (he:envOf s0 j0=env) (it:SI Q E env ti mi) (r:∀s j h,k s h Q E→D.nx (envOf s j) h)
    (b:(∀s j h,k s h Q E→D.nx (envOf s j) h)→∀w s j (kn:σ→MC) (N:A1→AH→Prop),(∀s j h,kn s h Q E→N (envOf s j) h)→∀h,body w s kn k h Q E→g w (envOf s j) h fun e1 h1=> tb { D with nx:=N,ct:=N,bk:=D.nx } e1 h1):
    ∀h,A8p mi s0 body k h Q E→A8l ti g tb D env h:=fun h z=> it h _ _ (fun ok ws h' z=> he▸B4R envOf r (b r) ws s0 j0 h' z) z
theorem B0q {ok:AH→Prop} {vs:List Nat} {g:K5} {body:W→(Option W→MC)→MC} {k:List W→MC} {K:List W→A1→AH→Prop} (hk:∀acc h',k acc h' Q E→K acc env h') (b:LcB Q E env vs g tb tv body):
    ∀(ws acc:List W) (h:AH),A2p ok body k ws acc h Q E→lcLoopL ok vs g tb tv K ws acc env h
  | [],acc,h,z=> ⟨z.1,hk acc h z.2⟩
  | w::ws,acc,h,z=> ⟨z.1,b w h _ (fun y e3 h3=> acc.length < sizeLine∧lcLoopL ok vs g tb tv K ws (acc++[y]) e3 h3) (fun e2 h2=> lcLoopL ok vs g tb tv K ws acc e2 h2)
      (fun y h' z=> ⟨z.1,B0q hk b ws (acc++[y]) h' z.2⟩) (fun h' z=> B0q hk b ws acc h' z) z.2⟩
theorem C4a {vs:List Nat} {g:K5} {body:W→(Option W→MC)→MC} (it:SI Q E env ti mi) (b:LcB Q E env vs g tb tv body):SN Q E env (A6Y vs ti g tb tv) (B1y mi body):=fun h k K hk z=>
  it h _ _ (fun ok ws h1 z=> B0q (k:=fun acc=> k (.own (.seq acc))) (fun acc h' z=> hk (.own (.seq acc)) h' z) b ws [] h1 z) z
theorem B61 {σ J:Type} {a b:Nat} {tb:D1} {body:W→W→σ→(σ→MC)→MC} {fin:σ→Prop} {F:A1→Prop} (envOf:σ→J→A1) (jn:J→Prop) (r:∀s j,jn j→fin s→c7 (envOf s j)=true∧F (envOf s j))
    (bd:∀t w s j (kn:σ→MC) (N:A1→AH→Prop),W.nodct w=true→(∀s j h,jn j→kn s h Q E→N (envOf s j) h)→∀h,body (.str t) w s kn h Q E→tb ⟨N,fun _ _ _=> False,fun _ _=> False,N⟩ (((envOf s j).set a (some (.val (.str t)))).set b (some (.val w))) h):
    ∀(l:List (Str×W)) (s:σ) (j:J),(∀p∈l,p.2.nodct=true)→jn j→A4M body fin l s (fun _=> none) Q E→itL a b tb F l (envOf s j)
  | [],s,j,_,y,z=> r s j y z
  | p::l,s,j,n,y,z=> bd p.1 p.2 s j (fun s=> fun _ Q E=> A4M body fin l s (fun _=> none) Q E) (fun e _=> itL a b tb F l e) (n p (List.mem_cons_self ..)) (fun s j _ y z=> B61 envOf jn r bd l s j (fun q hq=> n q (List.mem_cons_of_mem _ hq)) y z) _ z
theorem C2B {σ J:Type} {n f:Str} {a b:Nat} {x:SV} {tb:D1} {s0:σ} {j0:J} {body:W→W→σ→(σ→MC)→MC} {nd:σ→Prop} {k:σ→MC} (envOf:σ→J→A1) (jn:J→Prop) (hj:jn j0) (he:envOf s0 j0=env) (ei:env[i]? =some (some x)) (hn:∀s j,jn j→nd s→c7 (envOf s j)=true) (r:∀s j h,k s h Q E→D.nx (envOf s j) h)
    (bd:∀t w s j (kn:σ→MC) (N:A1→AH→Prop),W.nodct w=true→(∀s j h,jn j→kn s h Q E→N (envOf s j) h)→∀h,body (.str t) w s kn h Q E→tb ⟨N,fun _ _ _=> False,fun _ _=> False,N⟩ (((envOf s j).set a (some (.val (.str t)))).set b (some (.val w))) h):
    ∀h,B09 n f x s0 body nd k h Q E→B1F i n f a b tb D env h:=fun h z=> by
  unfold B09 at z
  split at z
  · obtain ⟨fs,q,l,z1,z2,z3,z4,z5⟩:=z
    refine ⟨_,q,l,⟨fs,ei,z1,z2,z3⟩,?_⟩
    rw [←he]
    exact B61 envOf jn (fun s j y z=> ⟨hn s j y z.1,r s j h z.2⟩) bd l s0 j0 z4 hj z5
  · exact z.elim
theorem B7B {a b:Nat} {e0:A1} {mv:W→W→CW} {K P:List (Str×W)→Prop} (hab:a≠b) (ha:a < e0.length) (hk:∀acc,K acc→P acc) (v:∀t w,SA Q E (A1E a b e0 (t,w)) tv (mv (.str t) w)):
    ∀l acc:List (Str×W),dcM mv K Q E l acc→dcL a b (aFz (aVar a)) tv P e0 l acc
  | [],acc,z=> ⟨z.1,hk _ z.2⟩
  | p::l,acc,z=> by
    have e:(A1E a b e0 p)[a]? =some (some (.val (.str p.1))):=by
      unfold A1E
      rw [List.getElem?_set_ne (Ne.symm hab),List.getElem?_set_self ha]
    refine A6 (Q:=Q) (E:=E) (A3 e) (fun _=> none) (fun x=> fun h Q E=> x= .str p.1) _ (fun x h' y=> ⟨rfl,?_⟩) rfl
    have y:x= .str p.1:=y
    subst y
    exact v p.1 p.2 _ _ _ (fun u h' z=> ⟨p.1,rfl,z.1,B7B hab ha hk v l _ z.2⟩) z
theorem B56 {n f:Str} {x:SV} {a b:Nat} {vs:List Nat} {mv:W→W→CW} (e:env[i]? =some (some x)) (hab:a≠b) (ha:a < (noE (P8 env vs)).length) (v:∀t w,SA Q E (A1E a b (noE (P8 env vs)) (t,w)) tv (mv (.str t) w)):
    SN Q E env (A6j vs i n f a b (aFz (aVar a)) tv) (A6d n f x mv):=fun h k K hk z=> by
  unfold A6d dcX at z
  split at z
  · obtain ⟨fs,q,l,z1,z2,z3,z4⟩:=z
    exact ⟨_,q,l,⟨fs,e,z1,z2,z3⟩,B7B hab ha (fun acc z=> hk (.own _) h z) v l [] z4⟩
  · exact z.elim
theorem C38 {s:Str} {r:RV} (rl:Rl env r (.val (.str s))):r= .val (.str s):=by
  cases r with
  | val w=> cases rl;rfl
  | own c=> cases rl
  | slot i=> obtain ⟨c,e,_⟩:=rl;cases e
inductive SJ (Q:RR→AH→Prop) (E:AExc→AH→Prop) (env:A1):List AT→List CE→Prop where
  | nil:SJ Q E env [] []
  | cons {t:AT} {m:CE} {ts:List AT} {ms:List CE} (a:SE Q E env t m) (r:SJ Q E env ts ms):SJ Q E env (t::ts) (m::ms)
end
theorem C4C:Z7 oEqM:=oEqM.mono
theorem C2d:Z7 oMulX:=oMulX.mono
theorem C25:A1w A1n:=fun as Q Q' k q=> by
  unfold A1n at q ⊢
  split at q
  · obtain ⟨l,e,q⟩:=q
    exact ⟨l,e,k _ q⟩
  · exact q
theorem C1g:A1w A1i:=fun as Q Q' k q=> by
  unfold A1i at q ⊢
  split at q
  · obtain ⟨l,e,q⟩:=q
    exact ⟨l,e,k _ q⟩
  · exact q
end Ab
namespace Ab
open PySem PySem.Spec PyProof.Rows L2 RZ
def B1C (m:CE):E6:=fun k=> m fun x=> asS x fun s=> k (A2l s)
def C5s (mv:CW) (m1:CE) (mk1:CW) (m2:CE) (mk2:CW) (k:MC):MC:=mv fun w=> un2 w fun a b=> m1 fun x=> mk1 fun w1=> u5 x w1 a (m2 fun y=> mk2 fun w2=> u5 y w2 b k)
def un4 (w:W) (k:W→W→W→W→MC):MC:=match w with
  | .tup [a,b,c,d]=> k a b c d
  | _=> bad
section
variable {Q:RR→AH→Prop} {E:AExc→AH→Prop} {env:A1} {t t1 t2:AT} {m m1 m2:CE} {tv tv2 tk1 tk2:D5} {mv mv2 mk1 mk2:CW} {D:AEnds} {i j:Nat}
theorem C1q (a:SE Q E env t m):SA Q E env (B1s t) (B1C m):=fun h k K hk z=> a h _ _ (fun r x h' rl z=> by
  unfold asS at z
  split at z
  · exact ⟨_,C38 rl,hk _ _ z⟩
  · exact z.elim) z
end
def jnd (j:Option W×Option W):Prop:=(∀w,j.1=some w→w.nodct=true)∧∀w,j.2=some w→w.nodct=true
theorem C4T:jnd (none,none):=⟨fun _ e=> (nomatch e),fun _ e=> (nomatch e)⟩
theorem C4N {t:Str} {w:W} (h:w.nodct=true):jnd (some (.str t),some w):=⟨fun _ e=> (by cases e;rfl),fun _ e=> (by cases e;exact h)⟩
theorem C2u:c7 []=true:=rfl
theorem B1e {w:W} {e:A1} (h:w.nodct=true) (t:c7 e=true):c7 (some (.val w)::e)=true:=by
  unfold c7 at t ⊢
  rw [List.all_cons,t]
  show (w.nodct && true)=true
  rw [h];rfl
theorem C5V {x:SV} {e:A1} (h:x.nodct=true) (t:c7 e=true):c7 (some x::e)=true:=by
  unfold c7 at t ⊢
  rw [List.all_cons,t]
  show (x.nodct && true)=true
  rw [h];rfl
theorem B6j {e:A1} (t:c7 e=true):c7 (none::e)=true:=by
  unfold c7 at t ⊢
  rw [List.all_cons,t]
  rfl
theorem B6x {o:Option W} {e:A1} (h:∀w,o=some w→w.nodct=true) (t:c7 e=true):c7 (Option.map SV.val o::e)=true:=by
  cases o with
  | none=> exact B6j t
  | some w=> exact B1e (h w rfl) t
theorem C4W {e1:A1} {P:MC} {Q:RR→AH→Prop} {E:AExc→AH→Prop} {R:A1→AH→Prop} (e2:A1) (he:e1=e2) (f:∀h,P h Q E→R e2 h):∀h,P h Q E→R e1 h:=he▸f
theorem C3w {neg:Bool}:Z7 (oInS neg):=oInS.mono
section
variable {Q:RR→AH→Prop} {E:AExc→AH→Prop} {h:AH}
@[simp] theorem C7V {a b c d:W} {k:W→W→W→W→MC}:un4 (.tup [a,b,c,d]) k=k a b c d:=rfl
@[simp] theorem C3B {s:Str} {k:Str→MC}:asS (.val (.str s)) k=k s:=rfl
@[simp] theorem C12 {m:CE} {k:List W→MC}:B1C m k=m fun x=> asS x fun s=> k (A2l s):=rfl
@[simp] theorem C8O {mv:CW} {m1 m2:CE} {mk1 mk2:CW} {k:MC}:C5s mv m1 mk1 m2 mk2 k=mv fun w=> un2 w fun a b=> m1 fun x=> mk1 fun w1=> u5 x w1 a (m2 fun y=> mk2 fun w2=> u5 y w2 b k):=rfl
@[simp] theorem X5 {n f:Str} {m:CE} {k:SV→MC}:U8 n f m k=m fun x=> A12 n f x k:=rfl
@[simp] theorem B4k {n f:Str} {mv:CW} {m:CE} {k:MC}:A3p n f mv m k=mv fun w=> m fun x=> A0R n f x w k:=rfl
@[simp] theorem C8k {n f:Str} {mv:CW} {m:W→CE} {k:W→MC}:C6F n f mv m k=mv fun w=> un2 w fun a b=> m a fun x=> A0R n f x b (k a):=rfl
@[simp] theorem C86 {n f n2 g:Str} {mv:CW} {m m2:CE} {k:MC}:ffC n f n2 g mv m m2 k=mv fun w=> un2 w fun a b=> m fun x=> A0R n f x a (m2 fun y=> A0R n2 g y b k):=rfl
@[simp] theorem X0 {C nm:Str} {f:List W→MC} {mo:CE} {ma:E6} {k:SV→MC}:R8 C nm f mo ma k=mo fun x=> W2 C nm x fun a=> ma fun ws=> call (f (.ref a::ws)) k:=rfl
@[simp] theorem B5Y {C nm:Str} {f:List W→MC} {mo:CE} {ma:E6} {k:SV→MC}:A2Z C nm f mo ma k=mo fun x=> W2 C nm x fun a=> ma fun ws=> call0 (f (.ref a::ws)) k:=rfl
@[simp] theorem C8C {C nm:Str} {f:List W→MC} {n0 m0:Nat} {P:List Nat} {ds:List W} {mo:CE} {ma mk:E6} {k:SV→MC}:C4v C nm f n0 m0 P ds mo ma mk k=mo fun x=> W2 C nm x fun a=> ma fun ws=> mk fun zs=> mxW (n0+1) m0 P ds (.ref a::ws) zs fun vs=> call (f vs) k:=rfl
@[simp] theorem C7E {C nm:Str} {f:List W→MC} {n0 m0:Nat} {P:List Nat} {ds:List W} {mo:CE} {ma mk:E6} {k:SV→MC}:C3g C nm f n0 m0 P ds mo ma mk k=mo fun x=> W2 C nm x fun a=> ma fun ws=> mk fun zs=> mxW (n0+1) m0 P ds (.ref a::ws) zs fun vs=> call0 (f vs) k:=rfl
@[simp] theorem B0r {C:Str} {f:List W→MC} {ma:E6} {k:SV→MC}:A1l C f ma k=ma fun ws=> mkX C (fun a=> f (.ref a::ws)) k:=rfl
@[simp] theorem C7b {C:Str} {f:List W→MC} {ma:E6} {k:SV→MC}:C4k C f ma k=ma fun ws=> A9D C (fun a=> f (.ref a::ws)) k:=rfl
@[simp] theorem C2Z {C:Str} {f:List W→MC} {n0 m0:Nat} {P:List Nat} {ds:List W} {ma mk:E6} {k:SV→MC}:B01 C f n0 m0 P ds ma mk k=ma fun ws=> mk fun zs=> K6 (ws.length=n0∧zs.length=m0) (mkX C (fun a=> f (P.map fun i=> ((.ref a::ws)++(zs++ds)).getD i .non)) k):=rfl
@[simp] theorem C7M {C:Str} {f:List W→MC} {n0 m0:Nat} {P:List Nat} {ds:List W} {ma mk:E6} {k:SV→MC}:C2T C f n0 m0 P ds ma mk k=ma fun ws=> mk fun zs=> K6 (ws.length=n0∧zs.length=m0) (A9D C (fun a=> f (P.map fun i=> ((.ref a::ws)++(zs++ds)).getD i .non)) k):=rfl
@[simp] theorem C9L {C:Str} {f:List W→MC} {po:RR→(RV→Prop)→Prop} {m:CE} {k:SV→MC}:C6T C f po m k=m fun x=> B7L C f po x k:=rfl
@[simp] theorem C5q {C:Str} {neg:Bool} {f:List W→MC} {m m2:CE} {k:SV→MC}:A2s C neg f m m2 k=m fun x=> m2 fun y=> eqX C neg f x y k:=rfl
@[simp] theorem A8n {n:Str} {b:Bool} {m:CE} {k:SV→MC}:B1r n b m k=m fun x=> A3s n b x k:=rfl
@[simp] theorem B6l {neg:Bool} {mk:CW} {m:CE} {k:SV→MC}:A88 neg mk m k=mk fun w=> m fun x=> inX neg w x k:=rfl
@[simp] theorem A6D {m:CE} {mk:CW} {k:SV→MC}:A4X m mk k=m fun x=> mk fun w=> A82 x w k:=rfl
@[simp] theorem C76 {mv:CW} {x:SV} {mk:CW} {k:SV→MC}:C5z mv x mk k=mv fun v=> mk fun w=> A4c x w v k:=rfl
@[simp] theorem C2S {mv:CW} {m:CE} {mk:CW} {k:MC}:A8k mv m mk k=mv fun v=> m fun x=> mk fun w=> u5 x w v k:=rfl
@[simp] theorem C3G {m:CE} {mk:CW} {k:MC}:A8i m mk k=m fun x=> mk fun w=> A6W x w k:=rfl
@[simp] theorem C2k {k:SV→MC}:A8f k=k (.own (.map (smap []))):=rfl
@[simp] theorem B5W {m:CE} {k:(AH→Prop)→List W→MC}:A8v m k=m fun x=> A0T x k:=rfl
@[simp] theorem C3s {m:CE} {k:(AH→Prop)→List W→MC}:B1z m k=m fun x=> A0T x fun ok ws=> k ok (V3 ws):=rfl
@[simp] theorem C8s {m:E6} {k:(AH→Prop)→List W→MC}:C6d m k=m fun ws=> k (fun _=> True) ws:=rfl
@[simp] theorem B5R {σ:Type} {mi:v7} {s0:σ} {body:W→σ→(σ→MC)→(σ→MC)→MC} {k:σ→MC}:A8p mi s0 body k=mi fun ok ws=> y6 ok body k ws s0:=rfl
@[simp] theorem C5j {mi:v7} {body:W→(Option W→MC)→MC} {k:SV→MC}:B1y mi body k=mi fun ok ws=> A2p ok body (fun acc=> k (.own (.seq acc))) ws []:=rfl
@[simp] theorem C9G {mi:v7} {body:W→List W→(List W→MC)→MC} {k:SV→MC}:C6W mi body k=mi fun ok ws=> B1u ok body (fun acc=> k (.own (.seq acc))) ws []:=rfl
@[simp] theorem C8Z {mt:CB} {mi:v7} {body:W→(Option W→MC)→MC} {acc:List W} {kk:List W→MC}:C6b mt mi body acc kk=mt fun b=> if b=true then mi fun ok ws=> A2p ok body kk ws acc else kk acc:=rfl
@[simp] theorem C9B {m:CE} {k:SV→MC}:C6U m k=m fun x=> B7P x fun y=> k (.val (.str y)):=rfl
@[simp] theorem C7A {ms:List CE} {k:SV→MC}:C2m ms k=jsM ms Str.empty fun s=> k (.val (.str s)):=rfl
@[simp] theorem C7f {acc:Str} {k:Str→MC}:jsM [] acc k=k acc:=rfl
@[simp] theorem C7C {m:CE} {ms:List CE} {acc:Str} {k:Str→MC}:jsM (m::ms) acc k=m fun x=> asS x fun y=> K6 ((acc++y).length≤sizeLine) (jsM ms (acc++y) k):=rfl
@[simp] theorem C9I {f:T3} {m:CE} {ma:E6} {k:SV→MC}:C6Y f m ma k=m fun x=> B7Q f x ma k:=rfl
@[simp] theorem C5K {n f:Str} {x:SV} {mv:W→W→CW} {k:SV→MC}:A6d n f x mv k=dcX n f x mv k:=rfl
@[simp] theorem A8I {m:CE} {k:W→MC}:u7 m k=m fun x=> A4a x k:=rfl
@[simp] theorem C8K {ws:List W} {k:(AH→Prop)→List W→MC}:A0T (.val (.lst ws)) k=k (fun _=> True) ws:=rfl
@[simp] theorem C7q {ws:List W} {k:(AH→Prop)→List W→MC}:A0T (.val (.tup ws)) k=k (fun _=> True) ws:=rfl
end
end Ab
namespace Ab
open PySem PySem.Spec PyProof.Rows L2 RZ
theorem A3L:∀{l l':List (Str×W)},smap l=smap l'→l=l'
  | [],[],_=> rfl
  | [],_::_,e=> by cases e
  | _::_,[],e=> by cases e
  | (a,u)::l,(b,v)::l',e=> by
    unfold smap at e
    rw [List.map_cons,List.map_cons] at e
    injection e with e1 e2
    injection e1 with e1 e3
    injection e1 with e1
    have e3:u=v:=e3
    have e1:a=b:=e1
    rw [e1,e3,A3L e2]
theorem B3n {l l':List (Str×W)} (e:U7 l=U7 l'):l=l':=by
  unfold U7 at e
  injection e with e1 e2
  refine A3L ?_
  unfold smap at e1 e2 ⊢
  rw [List.map_map] at e1 e2
  refine List.ext_getElem (by simpa using congrArg List.length e1) fun i h1 h2=> ?_
  have h1':i < l.length:=by simpa using h1
  have h2':i < l'.length:=by simpa using h2
  have a:=congrArg (fun z=> z[i]?) e1
  have b:=congrArg (fun z=> z[i]?) e2
  simp only [List.getElem?_map,List.getElem?_eq_getElem h1',List.getElem?_eq_getElem h2',Option.map_some,Function.comp] at a b
  simp only [List.getElem_map]
  injection a with a
  injection b with b
  have a:W.str l[i].1=W.str l'[i].1:=a
  have b:l[i].2=l'[i].2:=b
  rw [a,b]
section
variable {Q:RR→AH→Prop} {E:AExc→AH→Prop} {h:AH} {a:Addr} {n f C nm:Str} {fs:List (Str×W)} {w u v:W} {l:List (Str×W)} {s:Str} {ws:List W}
theorem A4J {k:SV→MC} (e:h a=some (.ins n fs)) (l:fs.lookup f=some w):A12 n f (.val (.ref a)) k h Q E=k (.val w) h Q E:=
  propext ⟨fun ⟨fs',w',z1,z2,z3⟩=> by rw [e] at z1;cases z1;rw [l] at z2;cases z2;exact z3,fun z=> ⟨fs,w,e,l,z⟩⟩
theorem A50 {k:MC} (e:h a=some (.ins n fs)) (l:fs.length < 1000):A0R n f (.val (.ref a)) w k h Q E=k (C6 h a (.ins n (u6 f w fs))) Q E:=
  propext ⟨fun ⟨fs',z1,z2,z3⟩=> by rw [e] at z1;cases z1;exact z3,fun z=> ⟨fs,e,l,z⟩⟩
theorem B59 {k:Addr→MC} (e:h a=some (.ins C fs)) (l:fs.lookup nm=none):W2 C nm (.val (.ref a)) k h Q E=k a h Q E:=
  propext ⟨fun z=> z.2,fun z=> ⟨⟨fs,e,l⟩,z⟩⟩
theorem B0M {b:Bool} {k:SV→MC} (e:h a=some (.ins n fs)):A3s n b (.val (.ref a)) k h Q E=k (.val (.bl b)) h Q E:=
  propext ⟨fun z=> z.2,fun z=> ⟨⟨fs,e⟩,z⟩⟩
theorem A3W {c:Cont} (e:h a=some (.cont c)):M5 h (.val (.ref a))= .cv c:=by
  show (match h a with
    | some (.cont c)=> Vw.cv c
    | _=> .wv (.ref a))=_
  rw [e]
theorem cvM {l:List (Str×W)}:(Vw.cv (.map (smap l))).toW=U7 l:=by
  unfold U7 smap
  simp only [Vw.toW,Cont.fz]
theorem C3v {neg:Bool} {P:RV→Prop} {vw:Vw} (e:vw.toW=U7 l):inM neg vw (.str s) P=P (.val (.bl (if neg=true then !(l.lookup s).isSome else (l.lookup s).isSome))):=
  propext ⟨fun ⟨l',s',z1,z2,z3⟩=> by rw [e] at z1;cases B3n z1;cases z2;exact z3,fun z=> ⟨l,s,e,rfl,z⟩⟩
theorem B57 {neg:Bool} {k:SV→MC} (e:h a=some (.cont (.map (smap l)))):inX neg (.str s) (.val (.ref a)) k h Q E=k (.val (.bl (if neg=true then !(l.lookup s).isSome else (l.lookup s).isSome))) h Q E:=by
  unfold inX
  rw [A3W e,C3v cvM]
  rfl
theorem C3J {P:RV→Prop} {vw:Vw} (e:vw.toW=U7 l) (hu:l.lookup s=some u):A6c vw (.str s) P=P (.val u):=
  propext ⟨fun ⟨l',s',u',z1,z2,z3,z4⟩=> by rw [e] at z1;cases B3n z1;cases z2;rw [hu] at z3;cases z3;exact z4,fun z=> ⟨l,s,u,e,rfl,hu,z⟩⟩
theorem A7v {k:SV→MC} (e:h a=some (.cont (.map (smap l)))) (hu:l.lookup s=some u):A82 (.val (.ref a)) (.str s) k h Q E=k (.val u) h Q E:=by
  unfold A82
  rw [A3W e,C3J cvM hu]
  rfl
theorem C2I {P:RV→Prop}:A1n [.cv (.map (smap l))] P=P (.val (.int l.length)):=
  propext ⟨fun ⟨l',z1,z2⟩=> by cases A3L z1;exact z2,fun z=> ⟨l,rfl,z⟩⟩
theorem C1D {P:RV→Prop}:A1i [.cv (.map (smap l))] P=P (.own (.seq (l.map fun p=> W.str p.1))):=
  propext ⟨fun ⟨l',z1,z2⟩=> by cases A3L z1;exact z2,fun z=> ⟨l,rfl,z⟩⟩
theorem C3L {k:SV→MC} (e:h a=some (.cont (.map (smap l)))):cb A1n [.val (.ref a)] k h Q E=k (.val (.int l.length)) h Q E:=by
  unfold cb
  rw [List.map_cons,List.map_nil,A3W e,C2I]
  rfl
theorem C2J {k:SV→MC} (e:h a=some (.cont (.map (smap l)))):cb A1i [.val (.ref a)] k h Q E=k (.own (.seq (l.map fun p=> W.str p.1))) h Q E:=by
  unfold cb
  rw [List.map_cons,List.map_nil,A3W e,C1D]
  rfl
theorem B39 {k:MC} (e:h a=some (.cont (.map (smap l)))) (hl:l.length < sizeLine):u5 (.val (.ref a)) (.str s) v k h Q E=k (C6 h a (.cont (.map (smap (m6 l s v))))) Q E:=
  propext ⟨fun ⟨l',s',z1,z2,z3,z4⟩=> by rw [e] at z1;injection z1 with z1;injection z1 with z1;injection z1 with z1;cases A3L z1;cases z2;exact z4,fun z=> ⟨l,s,e,rfl,hl,z⟩⟩
theorem B5K {k:MC} (e:h a=some (.cont (.map (smap l)))) (hl:(l.lookup s).isSome=true):A6W (.val (.ref a)) (.str s) k h Q E=k (C6 h a (.cont (.map (smap (x7 l s))))) Q E:=
  propext ⟨fun ⟨l',s',z1,z2,z3,z4⟩=> by rw [e] at z1;injection z1 with z1;injection z1 with z1;injection z1 with z1;cases A3L z1;cases z2;exact z4,fun z=> ⟨l,s,e,rfl,hl,z⟩⟩
theorem C3U {k:(AH→Prop)→List W→MC} (e:h a=some (.cont (.seq ws))):A0T (.val (.ref a)) k h Q E=k (fun g=> g a=some (.cont (.seq ws))) ws h Q E:=
  propext ⟨fun ⟨ws',z1,z2⟩=> by rw [e] at z1;cases z1;exact z2,fun z=> ⟨ws,e,z⟩⟩
theorem B0O {α:Type} {ok:AH→Prop} {body:W→(Option W→MC)→MC} {k:List W→MC} (e:α→W) (f:α→Option W) (o:ok h):∀(l:List α) (acc:List W),(∀a∈l,∀kk,body (e a) kk h Q E=kk (f a) h Q E)→acc.length+l.length≤sizeLine→A2p ok body k (l.map e) acc h Q E=k (acc++l.filterMap f) h Q E
  | [],acc,_,_=> by
    show (ok h∧k acc h Q E)=_
    simp [o]
  | w::ws,acc,hb,hl=> by
    rw [List.length_cons] at hl
    show (ok h∧body (e w) _ h Q E)=_
    rw [hb w (by simp)]
    cases q:f w with
    | none=>
      rw [List.filterMap_cons_none q,←B0O (k:=k) e f o ws acc (fun w hw=> hb w (by simp [hw])) (by omega)]
      exact propext ⟨fun z=> z.2,fun z=> ⟨o,z⟩⟩
    | some y=>
      rw [List.filterMap_cons_some q,List.append_cons,←B0O (k:=k) e f o ws (acc++[y]) (fun w hw=> hb w (by simp [hw])) (by rw [List.length_append,List.length_cons,List.length_nil];omega)]
      exact propext ⟨fun z=> z.2.2,fun z=> ⟨o,by omega,z⟩⟩
theorem B3s {α:Type} {ok:AH→Prop} {body:W→Unit→(Unit→MC)→(Unit→MC)→MC} {k:Unit→MC} (e:α→W) (r:α→Option AExc) (o:ok h):∀l:List α,(∀a∈l,∀kn kb,body (e a) () kn kb h Q E=match r a with
    | none=> kn () h Q E
    | some x=> E x h)→y6 ok body k (l.map e) () h Q E=match l.findSome? r with
    | none=> k () h Q E
    | some x=> E x h
  | [],_=> by
    show (ok h∧k () h Q E)=_
    simp [o]
  | w::ws,hb=> by
    show (ok h∧body (e w) () (y6 ok body k (ws.map e)) k h Q E)=_
    rw [hb w (by simp),List.findSome?_cons]
    cases q:r w with
    | none=>
      have z:=B3s (k:=k) e r o ws fun w hw=> hb w (by simp [hw])
      show (ok h∧y6 ok body k (ws.map e) () h Q E)=_
      rw [z]
      exact propext ⟨fun z=> z.2,fun z=> ⟨o,z⟩⟩
    | some x=> exact propext ⟨fun z=> z.2,fun z=> ⟨o,z⟩⟩
theorem B3z {α σ τ:Type} {ok:AH→Prop} {body:W→σ→(σ→MC)→(σ→MC)→MC} {k:σ→MC} (e:α→W) (eS:τ→σ) (f:τ→α→τ) (o:ok h) (I:Nat→τ→Prop):∀(l:List α) (t:τ) (i:Nat),I i t→(∀(j:Nat) a,l[j]? =some a→∀t kn kb,I (i+j) t→I (i+j+1) (f t a)∧body (e a) (eS t) kn kb h Q E=kn (eS (f t a)) h Q E)→y6 ok body k (l.map e) (eS t) h Q E=k (eS (l.foldl f t)) h Q E
  | [],t,i,_,_=> by
    show (ok h∧k (eS t) h Q E)=_
    simp [o]
  | a::l,t,i,h0,hb=> by
    show (ok h∧body (e a) (eS t) (y6 ok body k (l.map e)) k h Q E)=_
    obtain ⟨i',z⟩:=hb 0 a rfl t (y6 ok body k (l.map e)) k h0
    rw [z,B3z e eS f o I l (f t a) (i+1) i' fun j b hj t kn kb hi=> ?_,List.foldl_cons]
    · exact propext ⟨fun z=> z.2,fun z=> ⟨o,z⟩⟩
    · have z:=hb (j+1) b (by simpa using hj) t kn kb (by rwa [show i+(j+1)=i+1+j by omega])
      rwa [show i+(j+1)+1=i+1+j+1 by omega] at z
theorem C5k {neg:Bool} {a b:Str} {k:SV→MC}:E4 (oInS neg) (.val (.str a)) (.val (.str b)) k=k (.val (.bl (if neg=true then !A1F a b else A1F a b))):=rfl
theorem C2v {xs:List W} {j:Int} {k:SV→MC}:E4 oMulX (.val (.lst xs)) (.val (.int j)) k=K6 (-(2 ^ 63)≤j∧j < 2 ^ 63∧xs.length*j.toNat≤sizeLine) (k (.own (.seq (List.replicate j.toNat xs).flatten))):=by
  funext h Q E
  exact propext ⟨fun ⟨ys,e,z1,z2⟩=> (by cases e;exact ⟨z1,z2⟩),fun ⟨z1,z2⟩=> ⟨xs,rfl,z1,z2⟩⟩
theorem B4h:∀{l:List (Str×W)} {s:Str},l.lookup s=none→(l.any fun p=> decide (p.1=s))=false
  | [],_,_=> rfl
  | (g,u)::l,s,e=> by
    rw [List.lookup_cons] at e
    cases q:s==g with
    | true=> rw [q] at e;cases e
    | false=>
      rw [q] at e
      rw [List.any_cons,B4h e,Bool.or_false]
      exact decide_eq_false fun z=> by
        have z:g=s:=z
        rw [z,beq_self_eq_true] at q
        cases q
theorem B0A {l:List (Str×W)} {s:Str} {w:W} (e:l.lookup s=none):m6 l s w=l++[(s,w)]:=by
  unfold m6
  rw [B4h e]
  rfl
theorem C2p {ma:E6} {k:MC} {ws:List W} (e:h a=some (.cont (.seq ws))) (l:ws.length < sizeLine) (hm:∀K:List W→MC,ma K h Q E=K [w] h Q E):lmR Q5 (.val (.ref a)) ma k h Q E=k (C6 h a (.cont (.seq (ws++[w])))) Q E:=by
  show ((∃xs,h a=some (.cont (.seq xs)))∧ma _ h Q E)=_
  rw [hm]
  show (_∧(match h a with
    | some (.cont (.seq xs))=> Q5 xs [w] fun xs' _=> k (C6 h a (.cont (.seq xs'))) Q E
    | _=> False))=_
  rw [e]
  exact propext ⟨fun z=> z.2.2,fun z=> ⟨⟨ws,rfl⟩,l,z⟩⟩
end
end Ab
namespace Ab
open PySem PySem.Spec PyProof.Rows L2 RZ
def B1j (xs:List SV) (k:List W→MC):MC:=match xs with
  | [x,y,z]=> S8 x fun i=> S8 y fun j=> S8 z fun c=> K6 (c= -1∧ -(2 ^ 62)≤i∧i < 2 ^ 62∧ -(2 ^ 62)≤j∧j < 2 ^ 62) (k (B7Y i (i - j).toNat))
  | _=> bad
def C40 (a:CS):E6:=fun k=> a fun xs=> B1j xs k
section
variable {Q:RR→AH→Prop} {E:AExc→AH→Prop} {env:A1} {tr:X7} {mr:CS}
@[simp] theorem C7t {a:CS} {k:List W→MC}:C40 a k=a fun w=> B1j w k:=rfl
@[simp] theorem C7O {i j:Int} {k:List W→MC}:B1j [.val (.int i),.val (.int j),.val (.int (-1))] k=K6 (-(2 ^ 62)≤i∧i < 2 ^ 62∧ -(2 ^ 62)≤j∧j < 2 ^ 62) (k (B7Y i (i - j).toNat)):=by
  funext h Q E
  exact propext ⟨fun ⟨a,z⟩=> ⟨a.2,z⟩,fun ⟨a,z⟩=> ⟨⟨rfl,a⟩,z⟩⟩
end
end Ab
namespace Ab
open PySem PySem.Spec PyProof.Rows L2 RZ
section
variable {Q:RR→AH→Prop} {E:AExc→AH→Prop} {h:AH} {l:List (Str×W)} {s:Str} {u w:W}
end
def B7N (x:SV) (w:W) (k:SV→MC):MC:=fun h Q E=> match x with
  | .own (.map kvs)=> ∃l s,kvs=smap l∧w= .str s∧(l.lookup s).isSome=true∧k (.own (.map (smap (x7 l s)))) h Q E
  | _=> False
def C5T (x:SV) (mk:CW) (k:SV→MC):MC:=fun h Q E=> (∃l,x= .own (.map (smap l)))∧mk (fun w=> B7N x w k) h Q E
def itK (w:W) (k:List W→MC):MC:=fun h Q E=> ∃l,w=U7 l∧k (l.map fun p=> W.str p.1) h Q E
def C6K (a:CW):E6:=fun k=> a fun w=> itK w k
def B1U (x y:SV) (k:SV→SV→MC):MC:=match x,y with
  | .own c,.own d=> k (.own c) (.own d)
  | _,_=> bad
def C5i (a b:CE) (k:SV→SV→MC):MC:=a fun x=> b fun y=> B1U x y k
def C5N (mv:CW) (x:SV) (mk1:CW) (y:SV) (mk2:SV→CW) (k:SV→SV→MC):MC:=mv fun w=> un2 w fun a b=> mk1 fun w1=> A4c x w1 a fun x'=> mk2 x' fun w2=> A4c y w2 b fun y'=> k x' y'
def C5S (mv:CW) (m1:CE) (mk1:CW) (m2:CE) (mk2:CW) (m3:CE) (mk3:CW) (k:MC):MC:=mv fun w=> un3 w fun a b c=> m1 fun x=> mk1 fun w1=> u5 x w1 a (m2 fun y=> mk2 fun w2=> u5 y w2 b (m3 fun z=> mk3 fun w3=> u5 z w3 c k))
section
variable {Q:RR→AH→Prop} {E:AExc→AH→Prop} {env:A1} {t t1 t2 t3 ta tb:AT} {m m1 m2 m3 ma mb:CE} {tv tv2 tk1 tk2 tk3:D5} {mv mv2 mk1 mk2 mk3:CW} {D:AEnds} {i j:Nat}
@[simp] theorem C8Q {l:List (Str×W)} {mk:CW} {k:SV→MC}:C5T (.own (.map (smap l))) mk k=mk fun w=> B7N (.own (.map (smap l))) w k:=by
  funext h Q E
  exact propext ⟨fun z=> z.2,fun z=> ⟨⟨l,rfl⟩,z⟩⟩
@[simp] theorem C8q {a:CW} {k:List W→MC}:C6K a k=a fun w=> itK w k:=rfl
@[simp] theorem C7y {a b:CE} {k:SV→SV→MC}:C5i a b k=a fun x=> b fun y=> B1U x y k:=rfl
@[simp] theorem C65 {c d:Cont} {k:SV→SV→MC}:B1U (.own c) (.own d) k=k (.own c) (.own d):=rfl
@[simp] theorem C75 {mv:CW} {x:SV} {mk1:CW} {y:SV} {mk2:SV→CW} {k:SV→SV→MC}:C5N mv x mk1 y mk2 k=mv fun w=> un2 w fun a b=> mk1 fun w1=> A4c x w1 a fun x'=> mk2 x' fun w2=> A4c y w2 b fun y'=> k x' y':=rfl
@[simp] theorem C8G {mv:CW} {m1:CE} {mk1:CW} {m2:CE} {mk2:CW} {m3:CE} {mk3:CW} {k:MC}:C5S mv m1 mk1 m2 mk2 m3 mk3 k=mv fun w=> un3 w fun a b c=> m1 fun x=> mk1 fun w1=> u5 x w1 a (m2 fun y=> mk2 fun w2=> u5 y w2 b (m3 fun z=> mk3 fun w3=> u5 z w3 c k)):=rfl
end
end Ab
namespace Ab
open PySem PySem.Spec PyProof.Rows L2 RZ
@[simp] theorem C61 {xs:List W} {i:Int} {w:W} {k1:SV→W→MC}:lm C3E (.own (.seq xs)) [.int i,w] k1=K6 (xs.length < sizeLine∧0≤i∧i < 2 ^ 63) (k1 (.own (.seq (xs.take i.toNat++[w]++xs.drop i.toNat))) .non):=by
  funext h Q E
  exact propext ⟨fun ⟨a,b,c,z⟩=> ⟨⟨a,b,c⟩,z⟩,fun ⟨⟨a,b,c⟩,z⟩=> ⟨a,b,c,z⟩⟩
@[simp] theorem C6z {xs:List W} {k1:SV→W→MC}:lm C1P (.own (.seq xs)) [] k1=k1 (.own (.seq xs.reverse)) .non:=rfl
@[simp] theorem C64 {xs:List W} {k1:SV→W→MC}:lm C4H (.own (.seq xs)) [] k1=k1 (.own (.seq [])) .non:=rfl
def B7G (x:SV) (k:MC):MC:=fun h Q E=> isM (M5 h x)∧k h Q E
def B5p (x:SV) (w d:W) (k:SV→MC):MC:=fun h Q E=> B6g (M5 h x) w d fun r=> v5 k r h Q E
def C3z (m:CE) (mk md:CW):CE:=fun k=> m fun x=> B7G x (mk fun w=> md fun d=> B5p x w d k)
section
variable {Q:RR→AH→Prop} {E:AExc→AH→Prop} {env:A1} {t:AT} {m:CE} {tv tv2:D5} {mv mv2:CW}
end
@[simp] theorem C8E {m:CE} {mk md:CW} {k:SV→MC}:C3z m mk md k=m fun x=> B7G x (mk fun w=> md fun d=> B5p x w d k):=rfl
section
variable {h:AH} {Q:RR→AH→Prop} {E:AExc→AH→Prop} {a:Addr} {l:List (Str×W)} {s:Str}
end
def B7W (x:SV) (k:MC):MC:=fun h Q E=> match x with
  | .val (.ref a)=> (∃l,h a=some (.cont (.map (smap l))))∧k h Q E
  | _=> False
def C6V (m:CE) (mk:CW) (k:MC):MC:=m fun x=> B7W x (mk fun w=> A6W x w k)
section
variable {Q:RR→AH→Prop} {E:AExc→AH→Prop} {env:A1} {D:AEnds} {t:AT} {m:CE} {tv:D5} {mv:CW}
end
@[simp] theorem C8m {m:CE} {mk:CW} {k:MC}:C6V m mk k=m fun x=> B7W x (mk fun w=> A6W x w k):=rfl
end Ab
namespace Ab
open PySem PySem.Spec PyProof.Rows L2 RZ
@[simp] theorem C7k {i:Int} {k:SV→MC}:cb B6m [.val (.int i)] k=K6 (i.natAbs.log2 < 1920) (k (.val (.str (toString i)))):=rfl
@[simp] theorem C72 {x:Str} {k:SV→MC}:cb B6m [.val (.str x)] k=k (.val (.str x)):=rfl
def A6e (x:SV) (k:MC):MC:=fun h Q E=> (∃s,M5 h x= .wv (.str s))∧k h Q E
def B60 (x y:SV) (k:SV→MC):MC:=fun h Q E=> ∃(s:Str) (ys:List Str),M5 h x= .wv (.str s)∧(M5 h y).items=some (ys.map W.str)∧(ys.map (·.length)).sum+ys.length*s.length≤16777216∧k (.val (.str (Txt.join s ys))) h Q E
def C5l (m me:CE):CE:=fun k=> m fun x=> A6e x (me fun y=> B60 x y k)
section
variable {Q:RR→AH→Prop} {E:AExc→AH→Prop} {env:A1} {t te:AT} {m me:CE}
end
@[simp] theorem C8e {m me:CE} {k:SV→MC}:C5l m me k=m fun x=> A6e x (me fun y=> B60 x y k):=rfl
@[simp] theorem C7R {s:Str} {k:MC}:A6e (.val (.str s)) k=k:=by
  funext h Q E
  exact propext ⟨fun z=> z.2,fun z=> ⟨⟨s,rfl⟩,z⟩⟩
end Ab
namespace Ab
open PySem PySem.Spec PyProof.Rows L2 RZ
def eM1 (o:M3) (m me:CE):CE:=fun k=> m fun x=> A6e x (me fun y=> cb o [x,y] k)
def C5Q (neg:Bool) (tab:List (Str×Int)) (mk:CW):CE:=fun k=> mk fun w=> fun h Q E=> ∃s,w= .str s∧k (.val (.bl (if neg=true then !(t8 tab s).isSome else (t8 tab s).isSome))) h Q E
def C5D (tab:List (Str×Int)) (mk:CW):CE:=fun k=> mk fun w=> fun h Q E=> ∃s i,w= .str s∧t8 tab s=some i∧k (.val (.int i)) h Q E
section
variable {Q:RR→AH→Prop} {E:AExc→AH→Prop} {env:A1} {t te:AT} {m me:CE} {tv:D5} {mv:CW}
end
def B6z (neg:Bool) (tab:List (Str×Int)) (w:W) (k:SV→MC):MC:=fun h Q E=> ∃s,w= .str s∧k (.val (.bl (if neg=true then !(t8 tab s).isSome else (t8 tab s).isSome))) h Q E
def C45 (tab:List (Str×Int)) (w:W) (k:SV→MC):MC:=fun h Q E=> ∃s i,w= .str s∧t8 tab s=some i∧k (.val (.int i)) h Q E
@[simp] theorem C9P {o:M3} {m me:CE} {k:SV→MC}:eM1 o m me k=m fun x=> A6e x (me fun y=> cb o [x,y] k):=rfl
@[simp] theorem C8o {neg:Bool} {tab:List (Str×Int)} {mk:CW} {k:SV→MC}:C5Q neg tab mk k=mk fun w=> B6z neg tab w k:=rfl
@[simp] theorem C8X {tab:List (Str×Int)} {mk:CW} {k:SV→MC}:C5D tab mk k=mk fun w=> C45 tab w k:=rfl
@[simp] theorem C8b {neg:Bool} {tab:List (Str×Int)} {s:Str} {k:SV→MC}:B6z neg tab (.str s) k=k (.val (.bl (if neg=true then !(t8 tab s).isSome else (t8 tab s).isSome))):=by
  funext h Q E
  exact propext ⟨fun ⟨s',e,z⟩=> by injection e with e;subst e;exact z,fun z=> ⟨s,rfl,z⟩⟩
@[simp] theorem C8R {a b:Str} {k:SV→MC}:cb C4r [.val (.str a),.val (.str b)] k=K6 ((b.length==0)=false∧a.length+2≤sizeLine) (k (.own (.seq ((Txt.split a b).map W.str)))):=by
  funext h Q E
  exact propext ⟨fun ⟨a,b,z⟩=> ⟨⟨a,b⟩,z⟩,fun ⟨⟨a,b⟩,z⟩=> ⟨a,b,z⟩⟩
end Ab
namespace Ab
open PySem PySem.Spec PyProof.Rows L2 RZ
@[simp] theorem C8T {b:Bool} {k:SV→MC}:cb C5v [.val (.bl b)] k=k (.val (.int (if b then 1 else 0))):=rfl
end Ab
namespace Ab
open PySem PySem.Spec PyProof.Rows L2 RZ
end Ab
namespace Ab
open PySem PySem.Spec PyProof.Rows L2 RZ
end Ab
namespace Ab
open PySem PySem.Spec PyProof.Rows L2 RZ
def A9C (C:Str) (neg:Bool) (f:List W→MC) (x:SV) (w:W) (k:SV→MC):MC:=fun h Q E=> match x with
  | .val (.ref a)=> (∃fs,h a=some (.ins C fs))∧A80 w∧f [.ref a,w] h (fun r h2=> ∃c:Bool,r= .val (.bl c)∧k (.val (.bl (if neg=true then !c else c))) h2 Q E) fun _ _=> False
  | _=> False
def A9I (C:Str) (neg:Bool) (f:List W→MC) (m:CE) (mv:CW):CE:=fun k=> m fun x=> mv fun w=> A9C C neg f x w k
section
variable {Q:RR→AH→Prop} {E:AExc→AH→Prop} {env:A1} {t:AT} {m:CE} {tv:D5} {mv:CW}
theorem B6P {C:Str} {neg:Bool} {f:List W→MC} (a:SE Q E env t m) (b:SA Q E env tv mv):SN Q E env (aCmG C neg (upc f) t tv) (A9I C neg f m mv):=fun h k K hk z=> a h _ _ (fun r x h1 rl z=> b h1 _ _ (fun w h2 z=> by
  unfold A9C at z
  split at z
  · obtain ⟨⟨fs,z1⟩,z2,z3⟩:=z
    exact ⟨_,fs,A2V (h:=h1) rl,z1,z2,_,_,fun r h' ⟨c,y1,y2⟩=> ⟨c,y1,hk (.val _) _ y2⟩,fun _ _ z=> z,z3⟩
  · exact z.elim) z) z
end
@[simp] theorem C43 {C:Str} {neg:Bool} {f:List W→MC} {m:CE} {mv:CW} {k:SV→MC}:A9I C neg f m mv k=m fun x=> mv fun w=> A9C C neg f x w k:=rfl
@[simp] theorem C1o {n:Str} {b:Bool} {ws:List W} {k:SV→MC}:A3s n b (.val (.lst ws)) k=k (.val (.bl false)):=rfl
@[simp] theorem C7B {n:Str} {b:Bool} {ws:List W} {k:SV→MC}:A3s n b (.val (.tup ws)) k=k (.val (.bl false)):=rfl
@[simp] theorem C7P {n:Str} {b:Bool} {x:Str} {k:SV→MC}:A3s n b (.val (.str x)) k=k (.val (.bl false)):=rfl
end Ab
namespace Ab
open PySem PySem.Spec PyProof.Rows L2 RZ
def P9 (ss:List Int):Prop:=1≤ss.length∧ss.length≤6∧∀s∈ss,1≤s∧s≤40
inductive Dd where
  | swap (i j:Nat) | tap (n:Int) (c:Nat) | drain (n:Int) (c:Nat) | over (n:Int) (cs:List Nat) | down (n:Int) (cs:List Nat)
abbrev O8 (c:Nat):W:= .int (c:Int)
def Dd.w:Dd→W
  | .swap i j=> .tup [.str "swap",O8 i,O8 j]
  | .tap n c=> .tup [.str "tap",.int n,O8 c]
  | .drain n c=> .tup [.str "drain",.int n,O8 c]
  | .over n cs=> .tup (.str "over":: .int n::cs.map O8)
  | .down n cs=> .tup (.str "down":: .int n::cs.map O8)
def B7R (ss:List Int) (cs:List Nat):Prop:=2≤cs.length∧cs.length≤ss.length∧cs.Nodup∧∀c∈cs,c < ss.length
def A0P:Int:=1000000000000000000000000000000
def Dd.ok (ss:List Int):Dd→Prop
  | .swap i j=> i < ss.length∧j < ss.length∧i≠j∧ss[i]? =ss[j]?
  | .tap n c=> 0≤n∧n < A0P∧c < ss.length
  | .drain n c=> 0≤n∧n < A0P∧c < ss.length
  | .over n cs=> 0≤n∧n < A0P∧B7R ss cs
  | .down n cs=> 0≤n∧n < A0P∧B7R ss cs
theorem B0L {c:Nat}:O8 c= .int (c:Int):=rfl
theorem C44 (d:Dd):d.w.nb 1=true:=by
  cases d <;> refine B03 (n:=0) fun x hx=> ?_
  all_goals simp only [List.mem_cons,List.not_mem_nil,or_false,List.mem_map] at hx
  · rcases hx with rfl | rfl | rfl <;> rfl
  · rcases hx with rfl | rfl | rfl <;> rfl
  · rcases hx with rfl | rfl | rfl <;> rfl
  · rcases hx with rfl | rfl | ⟨c,_,rfl⟩ <;> rfl
  · rcases hx with rfl | rfl | ⟨c,_,rfl⟩ <;> rfl
theorem A7k (n:Nat):R9 0 n=(List.range n).map O8:=C2w
def Dd.word:Dd→Str
  | .swap _ _=> "swap"
  | .tap _ _=> "tap"
  | .drain _ _=> "drain"
  | .over _ _=> "over"
  | .down _ _=> "down"
def Dd.rest:Dd→List W
  | .swap i j=> [O8 i,O8 j]
  | .tap n c=> [.int n,O8 c]
  | .drain n c=> [.int n,O8 c]
  | .over n cs=> .int n::cs.map O8
  | .down n cs=> .int n::cs.map O8
theorem Dd.w_eq (d:Dd):d.w= .tup (.str d.word::d.rest):=by cases d <;> rfl
end Ab
namespace Ab
open PySem PySem.Spec PyProof.Rows L2 RZ
def A5V (x_script:W):MC:=
  ((O1 (A4 (A0 (F6 O2 (D7 (eSl (eV (.val x_script)) oNo (A1o (eC (.int 63)))) E7))) (A4 (A0 (eC (.int 0))) (A4 (A0 (eC (.int 0))) (A4 (A0 (eC (.int 9465))) (A4 (A0 (eC (.int 0))) C0)))))) ret)
def A28:List W→MC
  | [x_script]=> A5V x_script
  | _=> bad
def A5J (x_bag x_sides:W):MC:=
  (join (fun (s1:SV)=> (L7 (F8 (A9 oGe (A9 oIx (eV s1) (eC (.int 2))) (eV (.val x_sides)))) ((A0 (A9 S0 (A9 oIx (eV s1) (eC (.int 2))) (eV (.val x_sides)))) fun x_side=> (y8 (A0 (A9 s8 (A9 oIx (eV s1) (eC (.int 2))) (eV (.val x_sides)))) s1 (eC (.int 2)) fun x_bag=> ((eV (.val x_side)) ret))) (y8 (A0 (A9 oAdd (A9 oIx (eV s1) (eC (.int 4))) (eC (.int 1)))) s1 (eC (.int 4)) fun x_bag=> ((A0 (A9 oIx (eV x_bag) (eC (.int 3)))) fun x_mix=> (y8 (A0 (A9 S0 (A9 oAdd (A9 oAdd (A9 oAdd (A9 oMulT (A9 S0 (A9 oMulT (eV (.val x_mix)) (eV (.val x_mix))) (eC (.int 2147483629))) (eC (.int 5))) (A9 oMulT (eV (.val x_mix)) (eC (.int 16811)))) (A9 oMulT (eC (.int 7919)) (A9 oIx (eV x_bag) (eC (.int 4))))) (eC (.int 2531011))) (eC (.int 2147483647)))) x_bag (eC (.int 3)) fun x_bag=> ((A9 S0 (A9 oAdd (A9 s8 (A9 oIx (eV x_bag) (eC (.int 3))) (eC (.int 61))) (A9 oMulT (A9 S0 (A9 oIx (eV x_bag) (eC (.int 3))) (eC (.int 8191))) (eC (.int 31)))) (eV (.val x_sides))) ret)))))) fun kj3=> (L7 (tAnd (F8 (A9 oLt (A9 oIx (eV (.val x_bag)) (eC (.int 2))) (eV (.val x_sides)))) (F8 (A9 oLt (A9 oIx (eV (.val x_bag)) (eC (.int 1))) (F6 E5 (D7 (A9 oIx (eV (.val x_bag)) (eC (.int 0))) E7))))) ((A0 (A9 oIx (A9 oIx (eV (.val x_bag)) (eC (.int 0))) (A9 oIx (eV (.val x_bag)) (eC (.int 1))))) fun x_cell=> (y8 (A0 (A9 oAdd (A9 oIx (eV (.val x_bag)) (eC (.int 1))) (eC (.int 1)))) (.val x_bag) (eC (.int 1)) fun x_bag=> (y8 (A0 (eC (.int 0))) x_bag (eC (.int 2)) fun x_bag=> (L7 (F8 (A9 oGe (eV (.val x_cell)) (A9 A2k (eC (.int 10)) (eC (.int 18))))) (y8 (A0 (eV (.val x_cell))) x_bag (eC (.int 2)) fun x_bag=> (kj3 x_bag)) (y8 (A0 (A9 S0 (A9 oAdd (A9 oAdd (A9 oMulT (A9 oIx (eV x_bag) (eC (.int 3))) (eC (.int 48271))) (A9 oMulT (A9 S0 (eV (.val x_cell)) (eC (.int 2147483629))) (eC (.int 69621)))) (eC (.int 12345))) (eC (.int 2147483647)))) x_bag (eC (.int 3)) fun x_bag=> (kj3 x_bag)))))) (kj3 (.val x_bag))))
def G7:List W→MC
  | [x_bag,x_sides]=> A5J x_bag x_sides
  | _=> bad
def A5Q (x_bag x_row:W):MC:=
  ((A9 oIx (eV (.val x_row)) (G6 G7 (A4 (A0 (eV (.val x_bag))) (A4 (A0 (F6 E5 (D7 (eV (.val x_row)) E7))) C0)))) ret)
def W5:List W→MC
  | [x_bag,x_row]=> A5Q x_bag x_row
  | _=> bad
section
variable {Q:RR→AH→Prop} {E:AExc→AH→Prop} {h:AH} {p:Addr} {xs:List W}
theorem B4v {σ:Type} {k:σ→MC} {f:(σ→MC)→MC} (P:σ→AH→Prop) (hk:∀s h,P s h→k s h Q E) (hf:∀kk:σ→MC,(∀s h,P s h→kk s h Q E)→f kk h Q E):join k f h Q E:=hf k hk
theorem A1h {i:Int} {k:SV→MC} (e:h p=some (.cont (.seq xs))):E4 oIx (.val (.ref p)) (.val (.int i)) k h Q E=W3 xs i (fun w=> k (.val w)) h Q E:=by
  have ev:M5 h (.val (.ref p))= .cv (.seq xs):=by
    show (match h p with
      | some (.cont c)=> Vw.cv c
      | _=> .wv (.ref p))=_
    rw [e]
  show oIx (M5 h (.val (.ref p))) (.wv (.int i)) _=_
  rw [ev,B4Q rfl (fun _ z=> by cases z)]
  unfold W3
  cases L2.atI xs i <;> rfl
theorem A3V {i:Int} {w:W} {k:SV→MC} {j:Nat} (e:h p=some (.cont (.seq xs))) (ej:ixN xs.length i=some j):A2e (.val (.ref p)) (.val (.int i)) w k h Q E=k (.val (.ref p)) (C6 h p (.cont (.seq (xs.set j w)))) Q E:=by
  show (match h p with
      | some (.cont (.seq xs))=> ∃j,ixN xs.length i=some j∧k (.val (.ref p)) (C6 h p (.cont (.seq (xs.set j w)))) Q E
      | _=> False)=_
  rw [e]
  show (∃j,ixN xs.length i=some j∧k (.val (.ref p)) (C6 h p (.cont (.seq (xs.set j w)))) Q E)=_
  rw [ej]
  refine propext ⟨fun ⟨_,a,b⟩=> ?_,fun z=> ⟨j,rfl,z⟩⟩
  cases a
  exact b
theorem A1A {b:Prop} [Decidable b] {A B:MC} (x:b→A h Q E) (y:¬b→B h Q E):(if b then A else B) h Q E:=by
  split
  · exact x ‹_›
  · exact y ‹_›
end
def A6U (ns:List Int) (i b m c:Int):AO:= .cont (.seq [.lst (ns.map .int),.int i,.int b,.int m,.int c])
def Bag (n:Nat) (h:AH) (p:Addr):Prop:=∃(ns:List Int) (i b m c:Int),h p=some (A6U ns i b m c)∧0≤i∧i≤ns.length∧0≤b∧0≤m∧m < 2147483648∧0≤c∧c≤n
theorem Bag.le {n m:Nat} {h:AH} {p:Addr} (b:Bag n h p) (l:n≤m):Bag m h p:=let ⟨ns,i,x,y,c,a1,a2,a3,a4,a5,a6,a7,a8⟩:=b;⟨ns,i,x,y,c,a1,a2,a3,a4,a5,a6,a7,by omega⟩
def Dr (c:Nat) (m:Addr→MC) (P:RR→Prop):Prop:=∀(p:Addr) (n:Nat) (h:AH) (Q:RR→AH→Prop) (E:AExc→AH→Prop),Bag n h p→n+c≤1000000000000000→(∀r h',P r→Bag (n+c) h' p→Bt p h h'→Q r h')→m p h Q E
section
variable {Q:RR→AH→Prop} {E:AExc→AH→Prop} {h:AH} {p:Addr} {n c:Nat} {m:Addr→MC} {P:RR→Prop} {K:SV→MC}
theorem Dr.call (d:Dr c m P) (b:Bag n h p) (l:n+c≤1000000000000000) (q:∀r h',P r→Bag (n+c) h' p→Bt p h h'→K r.sv h' Q E):call (m p) K h Q E:=d p n h _ _ b l q
theorem Dr.call0 (d:Dr c m P) (b:Bag n h p) (l:n+c≤1000000000000000) (q:∀r h',P r→Bag (n+c) h' p→Bt p h h'→K r.sv h' Q E):call0 (m p) K h Q E:=d p n h _ _ b l q
theorem Dr.imp {P':RR→Prop} {c':Nat} (d:Dr c m P) (i:∀r,P r→P' r) (l:c≤c'):Dr c' m P':=fun p n h Q E b l' q=> d p n h Q E b (by omega) fun r h' z b' t=> q r h' (i r z) (b'.le (by omega)) t
end
theorem C10 {ns:List Int} {i b m c s:Int} {h:AH} {p:Addr} {Q:RR→AH→Prop} {E:AExc→AH→Prop} (hp:h p=some (A6U ns i b m c)) (i0:0≤i) (i1:i≤ns.length) (b0:0≤b) (m0:0≤m) (m1:m < 2147483648) (c0:0≤c)
    (c1:c≤1000000000000000) (s1:1≤s) (cd:∀b:Int,CDivW b s)
    (q:∀k h',0≤k→k < s→(∃b' m' c',h' p=some (A6U ns i b' m' c')∧0≤b'∧0≤m'∧m' < 2147483648∧0≤c'∧c'≤c+1)→Bt p h h'→Q (.val (.int k)) h'):
    (L7 (F8 (A9 oGe (A9 oIx (eV (.val (.ref p))) (eC (.int 2))) (eV (.val (.int s))))) ((A0 (A9 S0 (A9 oIx (eV (.val (.ref p))) (eC (.int 2))) (eV (.val (.int s))))) fun x_side=> (y8 (A0 (A9 s8 (A9 oIx (eV (.val (.ref p))) (eC (.int 2))) (eV (.val (.int s))))) (.val (.ref p)) (eC (.int 2)) fun x_bag=> ((eV (.val x_side)) ret))) (y8 (A0 (A9 oAdd (A9 oIx (eV (.val (.ref p))) (eC (.int 4))) (eC (.int 1)))) (.val (.ref p)) (eC (.int 4)) fun x_bag=> ((A0 (A9 oIx (eV x_bag) (eC (.int 3)))) fun x_mix=> (y8 (A0 (A9 S0 (A9 oAdd (A9 oAdd (A9 oAdd (A9 oMulT (A9 S0 (A9 oMulT (eV (.val x_mix)) (eV (.val x_mix))) (eC (.int 2147483629))) (eC (.int 5))) (A9 oMulT (eV (.val x_mix)) (eC (.int 16811)))) (A9 oMulT (eC (.int 7919)) (A9 oIx (eV x_bag) (eC (.int 4))))) (eC (.int 2531011))) (eC (.int 2147483647)))) x_bag (eC (.int 3)) fun x_bag=> ((A9 S0 (A9 oAdd (A9 s8 (A9 oIx (eV x_bag) (eC (.int 3))) (eC (.int 61))) (A9 oMulT (A9 S0 (A9 oIx (eV x_bag) (eC (.int 3))) (eC (.int 8191))) (eC (.int 31)))) (eV (.val (.int s)))) ret))))) h Q E:=by
  have cd:=cd b
  have hp':h p=some (.cont (.seq [.lst (ns.map .int),.int i,.int b,.int m,.int c])):=hp
  have e2:ixN 5 2=some 2:=rfl
  have e3:ixN 5 3=some 3:=rfl
  have e4:ixN 5 4=some 4:=rfl
  simp only [M1,K7,G5,C7,E8,A1h hp',A2a,B1l,E9,decide_eq_true_eq]
  refine A1A (fun _=> ?_) fun _=> ?_
  · simp only [F3,G5,C7,E8,A58,A1h hp',A2a,A6L,B0v,w7,C5]
    refine ⟨by omega,cd,?_⟩
    rw [A3V hp' e2]
    exact q _ _ (Int.emod_nonneg _ (by omega)) (Int.emod_lt_of_pos _ (by omega)) ⟨_,_,_,M2,Int.ediv_nonneg b0 (by omega),m0,m1,c0,by omega⟩ .upd
  · simp only [F3,G5,C7,E8,A58,A1h hp',B6i,t5,C5]
    rw [A3V hp' e4]
    have h1:C6 h p (.cont (.seq ([.lst (ns.map .int),.int i,.int b,.int m,.int c].set 4 (.int (c+1))))) p=some (.cont (.seq [.lst (ns.map .int),.int i,.int b,.int m,.int (c+1)])):=M2
    have x0:0≤m*m % 2147483629:=Int.emod_nonneg _ (by decide)
    have x1:m*m % 2147483629 < 2147483629:=Int.emod_lt_of_pos _ (by decide)
    simp only [F3,G5,C7,E8,A58,A1h h1,B6i,A83,t5,A8s,A6L,w7,C5]
    refine ⟨A2X m0 (by omega) m0 (by omega),by decide,A2X x0 (by omega) (by decide) (by decide),A2X m0 (by omega) (by decide) (by decide),A2X (by decide) (by decide) (by omega) (by omega),by decide,?_⟩
    rw [A3V h1 e3]
    generalize m*m % 2147483629*5+m*16811+7919*(c+1)+2531011=y
    have g0:0≤y % 2147483647:=Int.emod_nonneg _ (by decide)
    have g1:y % 2147483647 < 2147483647:=Int.emod_lt_of_pos _ (by decide)
    have w0:0≤y % 2147483647 % 8191:=Int.emod_nonneg _ (by decide)
    have w1:y % 2147483647 % 8191 < 8191:=Int.emod_lt_of_pos _ (by decide)
    have h2:C6 (C6 h p (.cont (.seq ([.lst (ns.map .int),.int i,.int b,.int m,.int c].set 4 (.int (c+1)))))) p (.cont (.seq ([.lst (ns.map .int),.int i,.int b,.int m,.int (c+1)].set 3 (.int (y % 2147483647))))) p=some (.cont (.seq [.lst (ns.map .int),.int i,.int b,.int (y % 2147483647),.int (c+1)])):=M2
    simp only [A1h h2,A83,t5,A8s,A6L,B0v,w7]
    refine ⟨wide_div (b:=10) (by decide) (by decide) (by decide) (by decide),by decide,A2X w0 (by omega) (by decide) (by decide),by omega,?_⟩
    exact q _ _ (Int.emod_nonneg _ (by omega)) (Int.emod_lt_of_pos _ (by omega)) ⟨_,_,_,M2,b0,g0,by omega,by omega,by omega⟩ (Bt.upd.trans .upd)
theorem C1u {s:Int} (s1:1≤s) (s2:∀b:Int,CDivW b s):Dr 1 (fun p=> G7 [.ref p,.int s]) fun r=> ∃k,r= .val (.int k)∧0≤k∧k < s:=by
  intro p n h Q E ⟨ns,i,b,m,c,hp,i0,i1,b0,m0,m1,c0,c1⟩ hn q
  have q':∀k h',0≤k→k < s→(∃i' b' m' c',h' p=some (A6U ns i' b' m' c')∧0≤i'∧i'≤ns.length∧0≤b'∧0≤m'∧m' < 2147483648∧0≤c'∧c'≤c+1)→Bt p h h'→Q (.val (.int k)) h':=
    fun k h' k0 k1 ⟨i',b',m',c',a0,a1,a2,a3,a4,a5,a6,a7⟩ t=> q _ _ ⟨k,rfl,k0,k1⟩ ⟨ns,i',b',m',c',a0,a1,a2,a3,a4,a5,a6,by omega⟩ t
  clear q
  show A5J (.ref p) (.int s) h Q E
  unfold A5J
  have hp':h p=some (.cont (.seq [.lst (ns.map .int),.int i,.int b,.int m,.int c])):=hp
  refine B4v (fun x k=> x= .val (.ref p)∧∃i' b' m':Int,0≤i'∧i'≤ns.length∧0≤b'∧0≤m'∧m' < 2147483648∧k p=some (A6U ns i' b' m' c)∧Bt p h k) ?_ ?_
  · rintro _ k ⟨rfl,i',b',m',z1,z2,z3,z4,z5,z6,z7⟩
    exact C10 z6 z1 z2 z3 z4 z5 c0 (by omega) s1 s2 fun k h' k0 k1 ⟨b2,m2,c2,a0,a1,a2,a3,a4,a5⟩ t=> q' k h' k0 k1 ⟨i',b2,m2,c2,a0,z1,z2,a1,a2,a3,a4,a5⟩ (z7.trans t)
  · intro kk hk
    have same:kk (.val (.ref p)) h Q E:=hk _ _ ⟨rfl,i,b,m,i0,i1,b0,m0,m1,hp,.refl⟩
    have e1:ixN 5 1=some 1:=rfl
    have e2:ixN 5 2=some 2:=rfl
    have e3:ixN 5 3=some 3:=rfl
    simp only [M1,A8a,K7,G5,C7,E8,A1h hp',A2a,B1m,E9,decide_eq_true_eq]
    refine A1A (fun _=> ?_) fun _=> by rw [if_neg Bool.false_ne_true];exact same
    simp only [L9,L5,L6,G5,C7,E8,A1h hp',A1K,n9,A8F,B1m,E9,decide_eq_true_eq,List.length_map]
    refine A1A (fun h2=> ?_) fun _=> same
    obtain ⟨j,rfl⟩:=Int.eq_ofNat_of_zero_le i0
    have hj:j < ns.length:=by omega
    simp only [F3,G5,C7,E8,A58,A1h hp',A1K,n9,y0,A5v hj,t5,C5]
    generalize ns[j]=v
    rw [A3V hp' e1]
    have h1:C6 h p (.cont (.seq ([.lst (ns.map .int),.int (j:Int),.int b,.int m,.int c].set 1 (.int ((j:Int)+1))))) p=some (.cont (.seq [.lst (ns.map .int),.int ((j:Int)+1),.int b,.int m,.int c])):=M2
    rw [A3V h1 e2]
    generalize hk1:C6 (C6 h p (.cont (.seq ([.lst (ns.map .int),.int (j:Int),.int b,.int m,.int c].set 1 (.int ((j:Int)+1)))))) p (.cont (.seq ([.lst (ns.map .int),.int ((j:Int)+1),.int b,.int m,.int c].set 2 (.int 0))))=h2'
    have hp2:h2' p=some (.cont (.seq [.lst (ns.map .int),.int ((j:Int)+1),.int 0,.int m,.int c])):=by rw [←hk1];exact M2
    have bt:Bt p h h2':=by rw [←hk1];exact Bt.upd.trans .upd
    simp only [M1,K7,G5,C7,E8,B6Y,w7,B1l,E9,decide_eq_true_eq]
    refine ⟨⟨by decide,by decide,by decide⟩,A1A (fun h3=> ?_) fun h3=> ?_⟩
    · have z:(0:Int)≤10 ^ Int.toNat 18:=by decide
      rw [A3V hp2 e2]
      exact hk _ _ ⟨rfl,(j:Int)+1,v,m,by omega,by omega,by omega,m0,m1,M2,bt.trans .upd⟩
    · have a0:0≤v % 2147483629:=Int.emod_nonneg _ (by decide)
      have a1:v % 2147483629 < 2147483629:=Int.emod_lt_of_pos _ (by decide)
      simp only [A58,F3,G5,C7,E8,A1h hp2,A83,A8s,A6L,t5,w7,C5]
      refine ⟨A2X m0 (by omega) (by decide) (by decide),by decide,A2X a0 (by omega) (by decide) (by decide),by decide,?_⟩
      rw [A3V hp2 e3]
      have b1:0≤(m*48271+v % 2147483629*69621+12345) % 2147483647:=Int.emod_nonneg _ (by decide)
      have b2:(m*48271+v % 2147483629*69621+12345) % 2147483647 < 2147483647:=Int.emod_lt_of_pos _ (by decide)
      exact hk _ _ ⟨rfl,(j:Int)+1,0,_,by omega,by omega,by omega,b1,by omega,M2,bt.trans .upd⟩
theorem n4 {s:Int} (s1:1≤s) (s2:s≤10 ^ 40):Dr 1 (fun p=> G7 [.ref p,.int s]) fun r=> ∃k,r= .val (.int k)∧0≤k∧k < s:=C1u s1 fun b=> wide_div (b:=200) (by omega) (by omega) (by decide) (by decide)
theorem C3c {ns:List Int} (h:ns.length≤63):A28 [.lst (ns.map .int)]=ret (.own (.seq [.lst (ns.map .int),.int 0,.int 0,.int 9465,.int 0])):=by
  show A5V _=_
  unfold A5V
  simp only [o0,H8,G4,F3,L9,L5,L6,A9F,C7,E8,A8r,A74,p9,A8z,C3l,Q2,C5]
  rw [F9 (by simp [L1]),show V9 (ns.map W.int) none (some 63)=(ns.map W.int).take 63 from A8T (k:=63),List.take_of_length_le (by rw [List.length_map];exact h)]
theorem C3Z {h:AH} {p:Addr} {ns:List Int}:Bag 0 (C6 h p (.cont (.seq [.lst (ns.map .int),.int 0,.int 0,.int 9465,.int 0]))) p:=⟨ns,0,0,9465,0,M2,by omega,by omega,by omega,by omega,by omega,by omega,by omega⟩
theorem A8B {row:W} {xs:List W} (hr:row= .lst xs∨row= .tup xs) (h0:xs≠[]) (h1:xs.length≤1000000):Dr 1 (fun p=> W5 [.ref p,row]) fun r=> ∃w,r= .val w∧w∈xs:=by
  intro p n h Q E b hn q
  have l0:0 < xs.length:=List.length_pos_iff.mpr h0
  show A5Q (.ref p) row h Q E
  unfold A5Q
  have go:call (G7 [.ref p,.int xs.length]) (fun x=> E4 oIx (.val row) x ret) h Q E:=by
    refine (n4 (by omega) (by omega)).call b hn fun r h' ⟨k,e,k0,k1⟩ b' t=> ?_
    subst e
    obtain ⟨j,rfl⟩:=Int.eq_ofNat_of_zero_le k0
    have hj:j < xs.length:=by omega
    rcases hr with rfl | rfl <;> (simp only [U5,Z4,y0,A39 hj];exact q _ _ ⟨_,rfl,List.getElem_mem hj⟩ b' t)
  rcases hr with rfl | rfl <;> simpa only [G5,C7,Q9,H8,G4,F3,L9,L5,L6,A8F,Z2,C5] using go
end Ab
namespace Ab
open PySem PySem.Spec PyProof.Rows L2 RZ
def A5H (x_bag x_mcasks x_most:W):MC:=
  ((F6 Z5 (D7 (o6 (A2f (D7 (A9 oAdd (eC (.int 1)) (G6 G7 (A4 (A0 (eV (.val x_bag))) (A4 (A0 (eV (.val x_mcasks))) C0)))) E7)) fun x_mcask kk=> o5 tYes (A0 (A9 oAdd (eC (.int 1)) (A1B G7 (A4 (A0 (eV (.val x_bag))) (A4 (A0 (eV (.val x_most))) C0))))) kk) E7)) ret)
def A27:List W→MC
  | [x_bag,x_mcasks,x_most]=> A5H x_bag x_mcasks x_most
  | _=> bad
def A4u (x_bag:W):MC:=
  ((G6 A27 (A4 (A0 (eV (.val x_bag))) (A4 (A0 (eC (.int 6))) (A4 (A0 (G6 W5 (A4 (A0 (eV (.val x_bag))) (A4 (A0 (O1 (A4 (A0 (eC (.int 40))) (A4 (A0 (eC (.int 9))) (A4 (A0 (eC (.int 4))) (A4 (A0 (eC (.int 2))) C0)))))) C0)))) C0)))) ret)
def A2y:List W→MC
  | [x_bag]=> A4u x_bag
  | _=> bad
def A46 (x_bag:W):MC:=
  ((A0 (O1 (A4 (A0 (eC (.int 0))) (A4 (A0 (eC (.int 1))) (A4 (A0 (eC (.int 2))) (A4 (A0 (eC (.int 3))) (A4 (A0 (A9 oAdd (eC (.int 1)) (G6 G7 (A4 (A0 (eV (.val x_bag))) (A4 (A0 (eC (.int 9))) C0))))) (A4 (A0 (G6 G7 (A4 (A0 (eV (.val x_bag))) (A4 (A0 (eC (.int 45))) C0)))) (A4 (A0 (A9 u9 (A9 A2k (eC (.int 10)) (eC (.int 30))) (eC (.int 1)))) (A4 (A0 (G6 G7 (A4 (A0 (eV (.val x_bag))) (A4 (A0 (A9 A2k (eC (.int 10)) (eC (.int 30)))) C0)))) C0)))))))))) fun x_some=> ((G6 W5 (A4 (A0 (eV (.val x_bag))) (A4 (A0 (eV (.val x_some))) C0))) ret))
def A22:List W→MC
  | [x_bag]=> A46 x_bag
  | _=> bad
def A6i (body:W→SV→(SV→Option W→MC)→MC) (k:SV→List W→MC):List W→SV→List W→MC
  | [],s,acc=> k s acc
  | w::ws,s,acc=> body w s fun s' o=> match o with
    | some y=> K6 (acc.length < sizeLine) (A6i body k ws s' (acc++[y]))
    | none=> A6i body k ws s' acc
def A4x (x_bag x_row:W):MC:=
  (F6 O2 (D7 (eV (.val x_row)) E7)) fun x_left=> w8 (A0 (eV (.val x_row))) fun ws=>
    A6i (fun _ s kk=> lmC A2T s (A4 (A0 (A1B G7 (A4 (A0 (eV (.val x_bag))) (A4 (A0 (F6 E5 (D7 (eV s) E7))) C0)))) C0) fun s' w=> kk s' (some w)) (fun _ acc=> ret (.own (.seq acc))) ws x_left []
def A2z:List W→MC
  | [x_bag,x_row]=> A4x x_bag x_row
  | _=> bad
def A4m (x_bag x_mcasks x_mmany:W):MC:=
  ((F6 Z5 (D7 (eSl (G6 A2z (A4 (A0 (eV (.val x_bag))) (A4 (A0 (B1Z (eV (.val x_mcasks)))) C0))) oNo (A1o (eV (.val x_mmany)))) E7)) ret)
def A0X:List W→MC
  | [x_bag,x_mcasks,x_mmany]=> A4m x_bag x_mcasks x_mmany
  | _=> bad
def A5E (x_msizes:W):MC:=
  ((O1 C0) fun x_found=> (A11 (A2f (D7 (F6 E5 (D7 (eV (.val x_msizes)) E7)) E7)) x_found (fun x_mone (s1:SV) kn3 kb4=> ((o6 (A2f (D7 (F6 E5 (D7 (eV (.val x_msizes)) E7)) E7)) fun x_at kk=> o5 (tAnd (F8 (A9 (D4 true) (eV (.val x_at)) (eV (.val x_mone)))) (F8 (A9 (D4 false) (A9 oIx (eV (.val x_msizes)) (eV (.val x_at))) (A9 oIx (eV (.val x_msizes)) (eV (.val x_mone)))))) (A0 (eV (.val x_at))) kk) fun x_near=> (A9B s1 (o6 (w8 (A0 (eV (.val (SV.fz x_near))))) fun x_at kk=> o5 tYes (A0 (R1 (A4 (A0 (eV (.val x_mone))) (A4 (A0 (eV (.val x_at))) C0)))) kk) fun x_found=> (kn3 x_found)))) fun (s1:SV)=> ((eV s1) ret)))
def A24:List W→MC
  | [x_msizes]=> A5E x_msizes
  | _=> bad
def A5M (x_bag x_msizes x_number_here x_taps:W):MC:=
  ((A0 (G6 G7 (A4 (A0 (eV (.val x_bag))) (A4 (A0 (eC (.int 12))) C0)))) fun x_how=> ((A0 (G6 A24 (A4 (A0 (eV (.val x_msizes))) C0))) fun x_pairs=> (L7 (tAnd (F8 (A9 (D4 false) (eV (.val x_how)) (eC (.int 0)))) (F8 (A9 (D4 true) (eV (.val x_pairs)) (O1 C0)))) ((A9 oAdd (R1 (A4 (A0 (eC (.str ("swap":Str)))) C0)) (G6 W5 (A4 (A0 (eV (.val x_bag))) (A4 (A0 (eV (.val x_pairs))) C0)))) ret) (L7 (tAnd (F8 (A9 oLt (eV (.val x_how)) (eC (.int 3)))) (F8 (eV (.val x_taps)))) ((R1 (A4 (A0 (eC (.str ("tap":Str)))) (A4 (A0 (G6 W5 (A4 (A0 (eV (.val x_bag))) (A4 (A0 (O1 (A4 (A0 (eC (.int 1))) (A4 (A0 (eC (.int 1))) (A4 (A0 (eC (.int 2))) (A4 (A0 (eC (.int 3))) (A4 (A0 (eV (.val x_number_here))) C0))))))) C0)))) (A4 (A0 (G6 G7 (A4 (A0 (eV (.val x_bag))) (A4 (A0 (F6 E5 (D7 (eV (.val x_msizes)) E7))) C0)))) C0)))) ret) (L7 (tOr (F8 (A9 (D4 false) (eV (.val x_how)) (eC (.int 3)))) (F8 (A9 (D4 false) (F6 E5 (D7 (eV (.val x_msizes)) E7)) (eC (.int 1))))) ((R1 (A4 (A0 (eC (.str ("drain":Str)))) (A4 (A0 (eV (.val x_number_here))) (A4 (A0 (G6 G7 (A4 (A0 (eV (.val x_bag))) (A4 (A0 (F6 E5 (D7 (eV (.val x_msizes)) E7))) C0)))) C0)))) ret) ((A0 (A9 oAdd (eC (.int 2)) (G6 G7 (A4 (A0 (eV (.val x_bag))) (A4 (A0 (A9 u9 (F6 E5 (D7 (eV (.val x_msizes)) E7)) (eC (.int 1)))) C0))))) fun x_mmany=> ((A0 (A9 oIx (O1 (A4 (A0 (eC (.str ("over":Str)))) (A4 (A0 (eC (.str ("down":Str)))) C0))) (A9 s8 (G6 G7 (A4 (A0 (eV (.val x_bag))) (A4 (A0 (eC (.int 3))) C0))) (eC (.int 2))))) fun x_word=> ((A9 oAdd (R1 (A4 (A0 (eV (.val x_word))) (A4 (A0 (eV (.val x_number_here))) C0))) (G6 A0X (A4 (A0 (eV (.val x_bag))) (A4 (A0 (F6 E5 (D7 (eV (.val x_msizes)) E7))) (A4 (A0 (eV (.val x_mmany))) C0))))) ret))))))))
def A3A:List W→MC
  | [x_bag,x_msizes,x_number_here,x_taps]=> A5M x_bag x_msizes x_number_here x_taps
  | _=> bad
def A5e (x_bag x_msizes x_most x_taps:W):MC:=
  ((o6 (A2f (D7 (G6 G7 (A4 (A0 (eV (.val x_bag))) (A4 (A0 (A9 oAdd (eV (.val x_most)) (eC (.int 1)))) C0))) E7)) fun x_k kk=> o5 tYes (A0 (A1B A3A (A4 (A0 (eV (.val x_bag))) (A4 (A0 (eV (.val x_msizes))) (A4 (A0 (A1B A22 (A4 (A0 (eV (.val x_bag))) C0))) (A4 (A0 (eV (.val x_taps))) C0)))))) kk) ret)
def A3C:List W→MC
  | [x_bag,x_msizes,x_most,x_taps]=> A5e x_bag x_msizes x_most x_taps
  | _=> bad
theorem B4P {α:Type} {P:α→Prop} {e:α→W}:∀{ws ys:List W},All2 (fun _ y=> ∃a,y=e a∧P a) ws ys→∃as:List α,ys=as.map e∧as.length=ws.length∧∀a∈as,P a
  | _,_,.nil=> ⟨[],rfl,rfl,fun _ h=> by cases h⟩
  | _,_,.cons ⟨a,e1,hp⟩ r=> by
    obtain ⟨as,e2,l,h⟩:=B4P r
    subst e1 e2
    exact ⟨a::as,rfl,by rw [List.length_cons,List.length_cons,l],fun b hb=> by
      rcases List.mem_cons.mp hb with rfl | hb
      · exact hp
      · exact h b hb⟩
theorem B6v {α:Type} {P:α→Prop} {e:α→W} {Q:RR→AH→Prop} {E:AExc→AH→Prop} {body:W→(Option W→MC)→MC} {k:List W→MC} {p:Addr} {n c:Nat} {h:AH} (ws:List W) (hl:ws.length≤1000) (b:Bag n h p) (hn:n+ws.length*c≤1000000000000000)
    (hb:∀w∈ws,∀m h1 kk,m+c≤1000000000000000→Bag m h1 p→(∀a h',P a→Bag (m+c) h' p→Bt p h1 h'→kk (some (e a)) h' Q E)→body w kk h1 Q E)
    (q:∀(as:List α) h',as.length=ws.length→(∀a∈as,P a)→Bag (n+ws.length*c) h' p→Bt p h h'→k (as.map e) h' Q E):V1 body k ws [] h Q E:=by
  refine B6b (fun i h'=> Bag (n+i*c) h' p∧Bt p h h') (fun _ y=> ∃a,y=e a∧P a) ws [] 0 h (by simp [L1];omega) ⟨by simpa using b,.refl⟩ (fun w hw j h1 kk hj ⟨b1,t1⟩ hk=> ?_) fun ys h' ay ⟨b',t'⟩=> ?_
  · have z:j*c+c≤ws.length*c:=by rw [←Nat.succ_mul];exact Nat.mul_le_mul_right _ (by omega)
    refine hb w hw _ h1 kk (by omega) b1 fun a h' pa b2 t2=> hk _ h' ⟨a,rfl,pa⟩ ⟨by rw [Nat.succ_mul,←Nat.add_assoc];exact b2,t1.trans t2⟩
  · obtain ⟨as,rfl,l,pa⟩:=B4P ay
    rw [List.nil_append]
    exact q as h' l pa (by simpa using b') t'
theorem C1U {mc mo:Int} (h0:1≤mc) (h1:mc≤6) (g0:1≤mo) (g1:mo≤40):Dr 10 (fun p=> A27 [.ref p,.int mc,.int mo]) fun r=> ∃ss:List Int,r= .val (.tup (ss.map .int))∧1≤ss.length∧ss.length≤mc∧∀s∈ss,1≤s∧s≤mo:=by
  intro p n h Q E b hn q
  show A5H (.ref p) (.int mc) (.int mo) h Q E
  unfold A5H
  simp only [L9,L5,L6,V0,k9,G5,E8,C7,Q9,H8,G4,F3,C5]
  refine (n4 h0 (by omega)).call b (by omega) fun r h' ⟨k,e,k0,k1⟩ b' t=> ?_
  subst e
  simp only [U5,t5,A1S,w7]
  refine ⟨by omega,?_⟩
  refine B6v (P:=fun s=> 1≤s∧s≤mo) (e:=W.int) (c:=1) _ (by rw [A37];omega) b' (by rw [A37];omega) (fun w hw m h1 kk hm b1 hk=> ?_) fun ss h2 l ps b2 t2=> ?_
  · simp only [U0,U6,if_true,F3,G5,E8,C7,c6,H8,G4,C5]
    refine (n4 g0 (by omega)).call0 b1 (by omega) fun r h' ⟨k,e,k0,k1⟩ b' t=> ?_
    subst e
    simp only [U5,t5,C5]
    exact hk _ _ ⟨by omega,by omega⟩ b' t
  · rw [A37] at l b2
    simp only [B6B]
    exact q _ _ ⟨ss,rfl,by omega,by omega,ps⟩ (b2.le (by omega)) (t.trans t2)
theorem any_sizes_dr:Dr 20 (fun p=> A2y [.ref p]) fun r=> ∃ss:List Int,r= .val (.tup (ss.map .int))∧P9 ss:=by
  intro p n h Q E b hn q
  show A4u (.ref p) h Q E
  unfold A4u
  simp only [E8,C7,Q9,H8,G4,F3,C5,o0,Q2]
  rw [F9 (by simp [L1])]
  refine (A8B (.inl rfl) (by simp) (by simp)).call b (by omega) fun r h' ⟨w,e,hw⟩ b' t=> ?_
  subst e
  obtain ⟨mo,rfl,g0,g1⟩:∃mo:Int,w= .int mo∧1≤mo∧mo≤40:=by
    simp only [List.mem_cons,List.not_mem_nil,or_false] at hw
    rcases hw with rfl | rfl | rfl | rfl <;> exact ⟨_,rfl,by omega,by omega⟩
  simp only [U5,C5]
  refine (C1U (by omega) (by omega) g0 g1).call b' (by omega) fun r h2 ⟨ss,e,l1,l2,ps⟩ b2 t2=> ?_
  subst e
  exact q _ _ ⟨ss,rfl,l1,by omega,fun s hs=> ⟨(ps s hs).1,Int.le_trans (ps s hs).2 g1⟩⟩ (b2.le (by omega)) (t.trans t2)
theorem number_dr:Dr 5 (fun p=> A22 [.ref p]) fun r=> ∃i:Int,r= .val (.int i)∧0≤i∧i < A0P:=by
  intro p n h Q E b hn q
  show A46 (.ref p) h Q E
  unfold A46
  simp only [F3,o0,Q9,H8,G4,C7,E8,G5,C5]
  refine (n4 (by omega) (by omega)).call b (by omega) fun r h1 ⟨i1,e,_,_⟩ b1 t1=> ?_
  subst e
  simp only [U5,t5,C5]
  refine (n4 (by omega) (by omega)).call b1 (by omega) fun r h2 ⟨i2,e,_,_⟩ b2 t2=> ?_
  subst e
  simp only [U5,B6Y,w7,B1M,C5]
  refine ⟨⟨by decide,by decide,by decide⟩,⟨by decide,by decide,by decide⟩,?_⟩
  refine (n4 (by decide) (by decide)).call b2 (by omega) fun r h3 ⟨i3,e,_,z3⟩ b3 t3=> ?_
  subst e
  rw [F9 (by simp [L1])]
  simp only [U5,C5,Q2]
  refine (A8B (.inl rfl) (by simp) (by simp)).call b3 (by omega) fun r h4 ⟨w,e,hw⟩ b4 t4=> ?_
  subst e
  have g:(10:Int) ^ Int.toNat 30=A0P:=by decide
  obtain ⟨i,rfl,g0,g1⟩:∃i:Int,w= .int i∧0≤i∧i < A0P:=by
    rw [g] at hw z3
    have g:A0P=1000000000000000000000000000000:=rfl
    simp only [List.mem_cons,List.not_mem_nil,or_false] at hw
    rcases hw with rfl | rfl | rfl | rfl | rfl | rfl | rfl | rfl <;> exact ⟨_,rfl,by omega,by omega⟩
  exact q _ _ ⟨i,rfl,g0,g1⟩ (b4.le (by omega)) (t1.trans (t2.trans (t3.trans t4)))
theorem C4d {j n:Nat} (hj:j < n):seqIndex? (j:Int) n=some j:=by
  unfold seqIndex?
  have h0:¬((j:Int) < 0):=by omega
  have h1:(j:Int) < (n:Int):=by omega
  simp [h0,h1]
theorem B3Y {α:Type}:∀{l:List α} {j:Nat} (h:j < l.length),(l[j]::l.eraseIdx j).Perm l
  | a::l,0,_=> .refl _
  | a::l,j+1,h=> by
    have h':j < l.length:=by rw [List.length_cons] at h;omega
    show (l[j]::a::l.eraseIdx j).Perm (a::l)
    exact (List.Perm.swap _ _ _).trans (.cons _ (B3Y h'))
theorem C0K {xs:List W} (hl:xs.length≤100):Dr 100 (fun p=> A2z [.ref p,.lst xs]) fun r=> ∃ys:List W,r= .own (.seq ys)∧ys.Perm xs:=by
  intro p n h Q E b hn q
  show A4x (.ref p) (.lst xs) h Q E
  unfold A4x
  simp only [L9,L5,L6,C7,A2K,F3,C5,A3D,A4I]
  have go:∀(ws left acc:List W) (m:Nat) (h:AH),Bag m h p→m+left.length≤1000000000000000→left.length=ws.length→left.length≤100→acc.length+left.length≤100→
      (∀ys h',ys.Perm left→Bag (m+left.length) h' p→Bt p h h'→Q (.own (.seq (acc++ys))) h')→
      A6i (fun _ s kk=> lmC A2T s (A4 (A0 (A1B G7 (A4 (A0 (eV (.val (.ref p)))) (A4 (A0 (F6 E5 (D7 (eV s) E7))) C0)))) C0) fun s' w=> kk s' (some w)) (fun _ acc=> ret (.own (.seq acc))) ws (.own (.seq left)) acc h Q E:=by
    intro ws
    induction ws with
    | nil=>
      intro left acc m h b _ el _ _ q
      obtain rfl:left=[]:=List.length_eq_zero_iff.mp el
      have z:=q [] h (.refl _) b .refl
      rw [List.append_nil] at z
      exact z
    | cons w ws ih=>
      intro left acc m h b hm el l1 l2 q
      rw [List.length_cons] at el
      refine ⟨trivial,?_⟩
      simp only [H8,G4,F3,c6,C7,L9,L5,L6,C3k,C5]
      refine (n4 (by omega) (by omega)).call0 b (by omega) fun r h1 ⟨k,e,k0,k1⟩ b1 t1=> ?_
      subst e
      obtain ⟨j,rfl⟩:=Int.eq_ofNat_of_zero_le k0
      have hj:j < left.length:=by omega
      refine ⟨by omega,by omega,j,left[j],?_,List.getElem?_eq_getElem hj,?_⟩
      · exact C4d hj
      · have le:(left.eraseIdx j).length=left.length - 1:=List.length_eraseIdx_of_lt hj
        refine ⟨by rw [L1];omega,?_⟩
        refine ih (left.eraseIdx j) (acc++[left[j]]) (m+1) h1 b1 (by omega) (by omega) (by omega) (by rw [List.length_append,List.length_singleton];omega) fun ys h' py b' t'=> ?_
        have z:=q (left[j]::ys) h' ?_ (by rw [show m+left.length=m+1+(left.eraseIdx j).length by omega];exact b') (t1.trans t')
        · simpa using z
        · refine List.Perm.trans (.cons _ py) ?_
          exact B3Y hj
  exact go xs xs [] n h b (by omega) rfl hl (by simpa using hl) fun ys h' py b' t'=> q _ _ ⟨ys,by simp,py⟩ (b'.le (by omega)) t'
theorem C2P {α:Type} {e:α→W} (g:W→α) (ge:∀a,g (e a)=a) {ys:List W} {xs:List α} (h:ys.Perm (xs.map e)):∃as:List α,ys=as.map e∧as.Perm xs:=by
  refine ⟨ys.map g,?_,?_⟩
  · rw [List.map_map]
    refine (List.map_id' ys).symm.trans (List.map_congr_left fun y hy=> ?_)
    obtain ⟨a,_,rfl⟩:=List.mem_map.mp (h.mem_iff.mp hy)
    simp [ge]
  · have z:=h.map g
    rw [List.map_map] at z
    have:xs.map (g∘e)=xs:=(List.map_congr_left fun a _=> ge a).trans (List.map_id' xs)
    rw [this] at z
    exact z
def C5f:W→Nat
  | .int i=> i.toNat
  | _=> 0
theorem B83 {m:Nat} {k:Int} (hm:m≤6) (k0:0≤k) (k1:k≤m):Dr 100 (fun p=> A0X [.ref p,.int m,.int k]) fun r=> ∃cs:List Nat,r= .val (.tup (cs.map O8))∧(cs.length:Int)=k∧cs.Nodup∧∀c∈cs,c < m:=by
  intro p n h Q E b hn q
  show A4m (.ref p) (.int m) (.int k) h Q E
  unfold A4m
  simp only [L9,L5,L6,A9F,Q9,H8,G4,F3,C7,C4B,A8r,A74,C1j,w7,C5,Q2]
  refine ⟨⟨by omega,by omega⟩,?_⟩
  rw [show R9 0 (m:Int).toNat=(List.range m).map O8 from A7k m]
  refine (C0K (by simp;omega)).call b (by omega) fun r h1 ⟨ys,e,py⟩ b1 t1=> ?_
  subst e
  obtain ⟨cs,rfl,pc⟩:=C2P C5f (fun _=> rfl) py
  obtain ⟨j,rfl⟩:=Int.eq_ofNat_of_zero_le k0
  simp only [B0l,p9,C5m,B6B,A8T]
  have lc:cs.length=m:=by have:=pc.length_eq;simpa using this
  refine q _ _ ⟨cs.take j,by rw [List.map_take];rfl,by rw [List.length_take];omega,?_,fun c hc=> ?_⟩ b1 t1
  · exact (List.take_sublist j cs).nodup (pc.nodup_iff.mpr List.nodup_range)
  · have:=pc.mem_iff.mp ((List.take_sublist j cs).subset hc)
    simpa using this
def A2U (ss:List Int):List (Nat×Nat):=(List.range ss.length).flatMap fun i=> ((List.range ss.length).filter fun j=> j≠i∧ss[j]? =ss[i]?).map fun j=> (i,j)
def A3o (p:Nat×Nat):W:= .tup [O8 p.1,O8 p.2]
theorem A70 {ss:List Int} {i:Nat}:((List.range ss.length).filter fun j=> j≠i∧ss[j]? =ss[i]?).length≤ss.length:=by
  refine Nat.le_trans (List.length_filter_le _ _) ?_
  simp
theorem C17 {ss:List Int} (hl:ss.length≤6):A24 [.tup (ss.map .int)]=ret (.own (.seq ((A2U ss).map A3o))):=by
  show A5E _=_
  unfold A5E
  simp only [o0,G4,A56,k9,L5,L6,L9,C7,Z2,List.length_map]
  rw [F9 (by simp [L1]),A1S,F9 (by omega),A7k]
  simp only [Int.toNat_natCast]
  rw [show SV.own (.seq [])=(fun acc:List (Nat×Nat)=> SV.own (.seq (acc.map A3o))) [] from rfl]
  rw [B47 O8 (fun acc:List (Nat×Nat)=> SV.own (.seq (acc.map A3o))) (fun acc i=> acc++((List.range ss.length).filter fun j=> j≠i∧ss[j]? =ss[i]?).map fun j=> (i,j)) (fun n acc=> acc.length≤6*n) _ _ 0 (Nat.le_refl _) fun n i hi acc la=> ⟨?_,fun kn=> ?_⟩]
  · show ret _=_
    rw [←List.flatMap_eq_foldl]
    rfl
  · rw [List.length_append,List.length_map]
    have:=A70 (ss:=ss) (i:=i)
    omega
  · obtain ⟨hn,ei⟩:=List.getElem?_eq_some_iff.mp hi
    rw [List.getElem_range] at ei
    rw [List.length_range] at hn
    subst ei
    simp only [V0,k9,L5,L6,L9,C7,Z2,List.length_map]
    rw [A1S,F9 (by omega),A7k]
    simp only [Int.toNat_natCast]
    rw [C5W O8 (fun j=> decide (j≠n∧ss[j]? =ss[n]?)) O8 _ (fun j hj kk=> ?_) (by simp [L1];omega)]
    · simp only [B0Z,V0,A2K,F3,C7,Q2,C5,A3D]
      rw [A8N O8 (fun j=> A3o (n,j)) _ (fun j hj kk=> ?_) (by have:=A70 (ss:=ss) (i:=n);simp only [L1];omega)]
      · have:=A70 (ss:=ss) (i:=n)
        rw [B54,F9 (by rw [List.length_map,List.length_map];simp only [L1];omega)]
        congr 2
        rw [List.map_append,List.map_map]
        rfl
      · simp only [U0,U6,if_true,F3,A4Q,H8,G4,C7,C5]
        rw [F9 (by simp [L1])]
        rfl
    · have hj':j < ss.length:=by simpa using hj
      simp only [U0,A8a,K7,G5,C7,C5,F3]
      rw [A6a (sp T9) (sp T9)]
      simp only [C5,B0L,Z4,A5v hj',A5v hn,W.int.injEq,List.getElem?_eq_getElem hj',List.getElem?_eq_getElem hn]
      rw [o4 (sp T9) (sp T9)]
      have ci:((j:Int)=(n:Int))↔j=n:=by omega
      by_cases c1:j=n <;> by_cases c2:ss[j]=ss[n] <;> simp [c1,c2,ci]
theorem C0a {ss:List Int} {q:Nat×Nat} (h:q∈A2U ss):q.1 < ss.length∧q.2 < ss.length∧q.1≠q.2∧ss[q.1]? =ss[q.2]? :=by
  unfold A2U at h
  obtain ⟨i,hi,h⟩:=List.mem_flatMap.mp h
  obtain ⟨j,hj,rfl⟩:=List.mem_map.mp h
  obtain ⟨hj1,hj2⟩:=List.mem_filter.mp hj
  rw [List.mem_range] at hi hj1
  have z:=of_decide_eq_true hj2
  exact ⟨hi,hj1,fun e=> z.1 e.symm,z.2.symm⟩
theorem C0P {ss:List Int} (hl:ss.length≤6):(A2U ss).length≤36:=by
  unfold A2U
  rw [List.length_flatMap]
  have:∀(l:List Nat),(l.map fun i=> (((List.range ss.length).filter fun j=> j≠i∧ss[j]? =ss[i]?).map fun j=> (i,j)).length).sum≤6*l.length:=fun l=> by
    induction l with
    | nil=> simp
    | cons i l ih=>
      rw [List.map_cons,List.sum_cons,List.length_cons,List.length_map]
      have:=A70 (ss:=ss) (i:=i)
      omega
  refine Nat.le_trans (this _) ?_
  rw [List.length_range]
  omega
def B1T:Dd→Prop
  | .tap _ _=> True
  | _=> False
theorem C3i {ss:List Int} {i:Int} {taps:Bool} (hs:P9 ss) (i0:0≤i) (i1:i < A0P):Dr 200 (fun p=> A3A [.ref p,.tup (ss.map .int),.int i,.bl taps]) fun r=> ∃d:Dd,r= .val d.w∧d.ok ss∧(taps=false→¬B1T d):=by
  intro p n h Q E b hn q
  show A5M (.ref p) (.tup (ss.map .int)) (.int i) (.bl taps) h Q E
  unfold A5M
  obtain ⟨l1,l2,s3⟩:=id hs
  have gr:A0P=1000000000000000000000000000000:=rfl
  simp only [F3,Q9,H8,G4,C7,E8,C5]
  refine (n4 (by omega) (by omega)).call b (by omega) fun r h1 ⟨k,e,k0,k1⟩ b1 t1=> ?_
  subst e
  simp only [U5,C5,C17 l2,U4,Q2,M1,A8a,K7,G5,C7,E8,o0,G4,V8]
  rw [o4 (sp T9) (sp T9)]
  have cask:∀{h1:AH} {m:Nat} {k:SV→MC},Bag m h1 p→m+1≤1000000000000000→(∀(c:Nat) h',c < ss.length→Bag (m+1) h' p→Bt p h1 h'→k (.val (O8 c)) h' Q E)→call (G7 [.ref p,.int ss.length]) k h1 Q E:=fun b1 l q=>
    (n4 (by omega) (by omega)).call b1 l fun r h' ⟨k,e,k0,k1⟩ b2 t2=> by
      subst e
      obtain ⟨c,rfl⟩:=Int.eq_ofNat_of_zero_le k0
      exact q c h' (by omega) b2 t2
  have tail:(if decide ((SV.val (W.int k)).fz=(SV.val (W.int 3)).fz)=true then
        (R1 (A4 (A0 (eC (.str ("drain":Str)))) (A4 (A0 (eV (.val (.int i)))) (A4 (A0 (G6 G7 (A4 (A0 (eV (.val (.ref p)))) (A4 (A0 (F6 E5 (D7 (eV (.val (.tup (ss.map .int)))) E7))) C0)))) C0)))) ret
      else bad) h1 Q E→True:=fun _=> trivial
  clear tail
  have rest:((L7 (tAnd (F8 (A9 oLt (eV (.val (.int k))) (eC (.int 3)))) (F8 (eV (.val (.bl taps))))) ((R1 (A4 (A0 (eC (.str ("tap":Str)))) (A4 (A0 (G6 W5 (A4 (A0 (eV (.val (.ref p)))) (A4 (A0 (O1 (A4 (A0 (eC (.int 1))) (A4 (A0 (eC (.int 1))) (A4 (A0 (eC (.int 2))) (A4 (A0 (eC (.int 3))) (A4 (A0 (eV (.val (.int i)))) C0))))))) C0)))) (A4 (A0 (G6 G7 (A4 (A0 (eV (.val (.ref p)))) (A4 (A0 (F6 E5 (D7 (eV (.val (.tup (ss.map .int)))) E7))) C0)))) C0)))) ret) (L7 (tOr (F8 (A9 (D4 false) (eV (.val (.int k))) (eC (.int 3)))) (F8 (A9 (D4 false) (F6 E5 (D7 (eV (.val (.tup (ss.map .int)))) E7)) (eC (.int 1))))) ((R1 (A4 (A0 (eC (.str ("drain":Str)))) (A4 (A0 (eV (.val (.int i)))) (A4 (A0 (G6 G7 (A4 (A0 (eV (.val (.ref p)))) (A4 (A0 (F6 E5 (D7 (eV (.val (.tup (ss.map .int)))) E7))) C0)))) C0)))) ret) ((A0 (A9 oAdd (eC (.int 2)) (G6 G7 (A4 (A0 (eV (.val (.ref p)))) (A4 (A0 (A9 u9 (F6 E5 (D7 (eV (.val (.tup (ss.map .int)))) E7)) (eC (.int 1)))) C0))))) fun x_mmany=> ((A0 (A9 oIx (O1 (A4 (A0 (eC (.str ("over":Str)))) (A4 (A0 (eC (.str ("down":Str)))) C0))) (A9 s8 (G6 G7 (A4 (A0 (eV (.val (.ref p)))) (A4 (A0 (eC (.int 3))) C0))) (eC (.int 2))))) fun x_word=> ((A9 oAdd (R1 (A4 (A0 (eV (.val x_word))) (A4 (A0 (eV (.val (.int i)))) C0))) (G6 A0X (A4 (A0 (eV (.val (.ref p)))) (A4 (A0 (F6 E5 (D7 (eV (.val (.tup (ss.map .int)))) E7))) (A4 (A0 (eV (.val x_mmany))) C0))))) ret)))))) h1 Q E:=by
    have drain:((R1 (A4 (A0 (eC (.str ("drain":Str)))) (A4 (A0 (eV (.val (.int i)))) (A4 (A0 (G6 G7 (A4 (A0 (eV (.val (.ref p)))) (A4 (A0 (F6 E5 (D7 (eV (.val (.tup (ss.map .int)))) E7))) C0)))) C0)))) ret) h1 Q E:=by
      simp only [A4Q,H8,G4,F3,E8,C7,Q9,L9,L5,L6,Z2,List.length_map,C5]
      refine cask b1 (by omega) fun c h2 hc b2 t2=> ?_
      rw [F9 (by simp [L1])]
      exact q _ _ ⟨.drain i c,rfl,⟨i0,i1,hc⟩,fun _=> id⟩ (b2.le (by omega)) (t1.trans t2)
    have pour:((A0 (A9 oAdd (eC (.int 2)) (G6 G7 (A4 (A0 (eV (.val (.ref p)))) (A4 (A0 (A9 u9 (F6 E5 (D7 (eV (.val (.tup (ss.map .int)))) E7)) (eC (.int 1)))) C0))))) fun x_mmany=> ((A0 (A9 oIx (O1 (A4 (A0 (eC (.str ("over":Str)))) (A4 (A0 (eC (.str ("down":Str)))) C0))) (A9 s8 (G6 G7 (A4 (A0 (eV (.val (.ref p)))) (A4 (A0 (eC (.int 3))) C0))) (eC (.int 2))))) fun x_word=> ((A9 oAdd (R1 (A4 (A0 (eV (.val x_word))) (A4 (A0 (eV (.val (.int i)))) C0))) (G6 A0X (A4 (A0 (eV (.val (.ref p)))) (A4 (A0 (F6 E5 (D7 (eV (.val (.tup (ss.map .int)))) E7))) (A4 (A0 (eV (.val x_mmany))) C0))))) ret))) h1 Q E∨ss.length=1:=by
      by_cases h1':ss.length=1
      · exact .inr h1'
      refine .inl ?_
      simp only [F3,G5,E8,Q9,H8,G4,C7,L9,L5,L6,Z2,List.length_map,B1M,C5]
      refine (n4 (by omega) (by omega)).call b1 (by omega) fun r h2 ⟨k2,e,g0,g1⟩ b2 t2=> ?_
      subst e
      simp only [U5,t5,C5,o0,H8,G4,F3,E8]
      rw [F9 (by simp [L1])]
      refine (n4 (by omega) (by omega)).call b2 (by omega) fun r h3 ⟨k3,e,j0,j1⟩ b3 t3=> ?_
      subst e
      simp only [U5,B0v,w7]
      refine ⟨wide_div (b:=10) (by decide) (by decide) (by decide) (by decide),?_⟩
      have word:∃word:Str,(word="over"∨word="down")∧∀k:SV→MC,E4 oIx (.own (.seq [.str ("over":Str),.str ("down":Str)])) (.val (.int (k3 / 2))) k=k (.val (.str word)):=by
        have:k3 / 2=0∨k3 / 2=1:=by omega
        rcases this with e | e
        · exact ⟨"over",.inl rfl,fun k=> by rw [e,B6X,n9]⟩
        · exact ⟨"down",.inr rfl,fun k=> by rw [e,B6X,A1K]⟩
      obtain ⟨word,hw,ew⟩:=word
      rw [ew]
      simp only [A4Q,H8,G4,F3,C7,C5]
      rw [F9 (by simp [L1])]
      refine (B83 l2 (by omega) (by omega)).call b3 (by omega) fun r h4 ⟨cs,e,lc,nd,hc⟩ b4 t4=> ?_
      subst e
      simp only [U5,A8G]
      rw [F9 (by simp only [List.length_cons,List.length_nil,List.length_map,L1];omega)]
      have tt:=t1.trans (t2.trans (t3.trans t4))
      rcases hw with rfl | rfl
      · exact q _ _ ⟨.over i cs,rfl,⟨i0,i1,by omega,by omega,nd,hc⟩,fun _=> id⟩ (b4.le (by omega)) tt
      · exact q _ _ ⟨.down i cs,rfl,⟨i0,i1,by omega,by omega,nd,hc⟩,fun _=> id⟩ (b4.le (by omega)) tt
    have back:(L7 (tOr (F8 (A9 (D4 false) (eV (.val (.int k))) (eC (.int 3)))) (F8 (A9 (D4 false) (F6 E5 (D7 (eV (.val (.tup (ss.map .int)))) E7)) (eC (.int 1))))) ((R1 (A4 (A0 (eC (.str ("drain":Str)))) (A4 (A0 (eV (.val (.int i)))) (A4 (A0 (G6 G7 (A4 (A0 (eV (.val (.ref p)))) (A4 (A0 (F6 E5 (D7 (eV (.val (.tup (ss.map .int)))) E7))) C0)))) C0)))) ret) ((A0 (A9 oAdd (eC (.int 2)) (G6 G7 (A4 (A0 (eV (.val (.ref p)))) (A4 (A0 (A9 u9 (F6 E5 (D7 (eV (.val (.tup (ss.map .int)))) E7)) (eC (.int 1)))) C0))))) fun x_mmany=> ((A0 (A9 oIx (O1 (A4 (A0 (eC (.str ("over":Str)))) (A4 (A0 (eC (.str ("down":Str)))) C0))) (A9 s8 (G6 G7 (A4 (A0 (eV (.val (.ref p)))) (A4 (A0 (eC (.int 3))) C0))) (eC (.int 2))))) fun x_word=> ((A9 oAdd (R1 (A4 (A0 (eV (.val x_word))) (A4 (A0 (eV (.val (.int i)))) C0))) (G6 A0X (A4 (A0 (eV (.val (.ref p)))) (A4 (A0 (F6 E5 (D7 (eV (.val (.tup (ss.map .int)))) E7))) (A4 (A0 (eV (.val x_mmany))) C0))))) ret)))) h1 Q E:=by
      unfold L7
      rw [V8,K7,G5,C7,E8,o4 (sp T9) (sp T9)]
      refine A1A (fun _=> by rw [if_pos rfl];exact drain) fun _=> ?_
      rw [K7,G5,L9,L5,C7,L6,Z2,E8,o4 (sp T9) (sp T9)]
      refine A1A (fun _=> drain) fun z=> pour.resolve_right fun z2=> z ?_
      rw [List.length_map,z2]
      simp
    rw [M1,A8a,K7,G5,C7,E8,B1m,E9]
    refine A1A (fun _=> ?_) fun _=> by rw [if_neg Bool.false_ne_true];exact back
    rw [K7,C7,E9]
    refine A1A (fun ht=> ?_) fun _=> back
    simp only [A4Q,H8,G4,F3,E8,C7,Q9,o0,C5,Q2]
    rw [F9 (by simp [L1])]
    refine (A8B (.inl rfl) (by simp) (by simp)).call b1 (by omega) fun r h2 ⟨w,e,hw⟩ b2 t2=> ?_
    subst e
    obtain ⟨i',rfl,g0,g1⟩:∃i':Int,w= .int i'∧0≤i'∧i' < A0P:=by
      simp only [List.mem_cons,List.not_mem_nil,or_false] at hw
      rcases hw with rfl | rfl | rfl | rfl | rfl <;> exact ⟨_,rfl,by omega,by omega⟩
    simp only [U5,C5,L9,L5,L6,C7,Z2,List.length_map]
    refine cask b2 (by omega) fun c h3 hc b3 t3=> ?_
    rw [F9 (by simp [L1])]
    exact q _ _ ⟨.tap i' c,rfl,⟨g0,g1,hc⟩,fun e=> by rw [ht] at e;cases e⟩ (b3.le (by omega)) (t1.trans (t2.trans t3))
  have pl:∀x∈(A2U ss).map A3o,x.nb 1=true:=C3p fun a _=> B03 fun x hx=> by
    simp only [List.mem_cons,List.not_mem_nil,or_false] at hx
    rcases hx with rfl | rfl <;> rfl
  refine A1A (fun _=> ?_) fun _=> by rw [if_neg Bool.false_ne_true];exact rest
  rw [F9 (by simp [L1]),A6a (sp (A2Y 1 (by omega) pl)) (so (c:= .seq []) (A2Y 0 (by omega) (by simp)))]
  refine A1A (fun z=> ?_) fun _=> rest
  have ne:A2U ss≠[]:=fun e=> by simp [e] at z
  simp only [A4Q,H8,G4,F3,E8,C7,Q9,C5]
  rw [F9 (by simp [L1])]
  have al:=C0P l2
  refine (A8B (xs:=(A2U ss).map A3o) (.inl rfl) (by simpa using ne) (by simp;omega)).call b1 (by omega) fun r h2 ⟨w,e,hw⟩ b2 t2=> ?_
  subst e
  obtain ⟨pr,hp,rfl⟩:=List.mem_map.mp hw
  obtain ⟨c1,c2,c3,c4⟩:=C0a hp
  simp only [U5,A3o,A8G]
  rw [F9 (by simp [L1])]
  exact q _ _ ⟨.swap pr.1 pr.2,rfl,⟨c1,c2,c3,c4⟩,fun _=> id⟩ (b2.le (by omega)) (t1.trans t2)
theorem C32 {ss:List Int} {most:Int} {taps:Bool} (hs:P9 ss) (m0:0≤most) (m1:most≤500):Dr 200000 (fun p=> A3C [.ref p,.tup (ss.map .int),.int most,.bl taps]) fun r=> ∃ds:List Dd,r= .own (.seq (ds.map Dd.w))∧(ds.length:Int)≤most∧∀d∈ds,d.ok ss∧(taps=false→¬B1T d):=by
  intro p n h Q E b hn q
  show A5e (.ref p) (.tup (ss.map .int)) (.int most) (.bl taps) h Q E
  unfold A5e
  simp only [V0,k9,L5,L6,Q9,H8,G4,F3,C7,E8,G5,t5,C5]
  refine (n4 (by omega) (by omega)).call b (by omega) fun r h1 ⟨k,e,k0,k1⟩ b1 t1=> ?_
  subst e
  rw [U5,A1S,w7]
  refine ⟨by omega,B6v (P:=fun d:Dd=> d.ok ss∧(taps=false→¬B1T d)) (e:=Dd.w) (c:=300) _ (by rw [A37];omega) b1 (by rw [A37];omega) (fun w hw m h2 kk hm b2 hk=> ?_) fun ds h2 l ps b2 t2=> ?_⟩
  · simp only [U0,U6,if_true,F3,c6,H8,G4,C7,C5]
    refine number_dr.call0 b2 (by omega) fun r h3 ⟨i,e,i0,i1⟩ b3 t3=> ?_
    subst e
    refine (C3i hs i0 i1).call0 b3 (by omega) fun r h4 ⟨d,e,dk,dt⟩ b4 t4=> ?_
    subst e
    exact hk d _ ⟨dk,dt⟩ (b4.le (by omega)) (t3.trans t4)
  · rw [A37] at l b2
    exact q _ _ ⟨ds,rfl,by omega,ps⟩ (b2.le (by omega)) (t1.trans t2)
end Ab
namespace Ab
open PySem PySem.Spec PyProof.Rows L2 RZ
def A5W (x_word x_many x_casks:W):MC:=
  ((eIf (F8 (A9 (Z6 false) (eV (.val x_word)) (eC (.tup [.str ("over":Str),.str ("down":Str)])))) (A10 (fun i j=> decide (i≤j)) (fun i j=> decide (i≤j)) (eC (.int 4)) (eV (.val x_many)) (A9 oAdd (eC (.int 2)) (eV (.val x_casks)))) (A9 (D4 false) (eV (.val x_many)) (eC (.int 3)))) ret)
def A29:List W→MC
  | [x_word,x_many,x_casks]=> A5W x_word x_many x_casks
  | _=> bad
def A5K (x_things x_start x_casks:W):MC:=
  (A11 (A8q (A0 (eV (.val x_things)))) () (fun w6 (s1:Unit) kn3 kb4=> un2 w6 fun x_at x_cask=> (L7 (tOr (z8 (F8 (A10 (fun i j=> decide (i≤j)) (fun i j=> decide (i < j)) (eC (.int 0)) (eV (.val x_cask)) (eV (.val x_casks))))) (F8 (A9 (Z6 false) (eV (.val x_cask)) (eSl (eV (.val x_things)) oNo (A1o (eV (.val x_at))))))) ((A9 oAdd (eV (.val x_start)) (eV (.val x_at))) ret) (kn3 ()))) fun (s1:Unit)=> ((eC .non) ret))
def A0i:List W→MC
  | [x_things,x_start,x_casks]=> A5K x_things x_start x_casks
  | _=> bad
def A5d (x_sizes x_deed:W):MC:=
  (L7 (tOr (F8 (A9 (D4 false) (F6 E5 (D7 (eV (.val x_deed)) E7)) (eC (.int 0)))) (F8 (A9 (Z6 true) (A9 oIx (eV (.val x_deed)) (eC (.int 0))) (A9 oAdd (eC (.tup [.str ("over":Str),.str ("down":Str)])) (eC (.tup [.str ("swap":Str),.str ("tap":Str),.str ("drain":Str)])))))) ((eC (.int 0)) ret) (L7 (z8 (F8 (G6 A29 (A4 (A0 (A9 oIx (eV (.val x_deed)) (eC (.int 0)))) (A4 (A0 (F6 E5 (D7 (eV (.val x_deed)) E7))) (A4 (A0 (F6 E5 (D7 (eV (.val x_sizes)) E7))) C0)))))) ((A6V (eC (.int 1))) ret) (A8j (A0 (eV (.val x_deed))) fun x_word x_things=> (L7 (F8 (A9 (D4 false) (eV (.val x_word)) (eC (.str ("swap":Str))))) ((A0 (G6 A0i (A4 (A0 (eV (.val (SV.fz x_things)))) (A4 (A0 (eC (.int 1))) (A4 (A0 (F6 E5 (D7 (eV (.val x_sizes)) E7))) C0))))) fun x_bad=> (L7 (F8 (A9 (O3 true) (eV (.val x_bad)) (eC .non))) ((eV (.val x_bad)) ret) ((eIf (F8 (A9 (D4 false) (A9 oIx (eV (.val x_sizes)) (A9 oIx (eV (.val (SV.fz x_things))) (eC (.int 0)))) (A9 oIx (eV (.val x_sizes)) (A9 oIx (eV (.val (SV.fz x_things))) (eC (.int 1)))))) (eC .non) (eC (.int 2))) ret))) (A8j (A0 (eV (.val (SV.fz x_things)))) fun x_many x_casks=> (L7 (z8 (F8 (A10 (fun i j=> decide (i≤j)) (fun i j=> decide (i < j)) (eC (.int 0)) (eV (.val x_many)) (eC (.int 1000000000000000000000000000000))))) ((eC (.int 1)) ret) ((G6 A0i (A4 (A0 (eV (.val (SV.fz x_casks)))) (A4 (A0 (eC (.int 2))) (A4 (A0 (F6 E5 (D7 (eV (.val x_sizes)) E7))) C0)))) ret)))))))
def A2I:List W→MC
  | [x_sizes,x_deed]=> A5d x_sizes x_deed
  | _=> bad
theorem B3e {α:Type} {l:List α} {q:α×Nat} (h:q∈l.zipIdx):l[q.2]? =some q.1:=by
  obtain ⟨a,i⟩:=q
  simpa using List.mem_zipIdx_iff_getElem?.mp h
theorem A5O {w:Str} {m c:Int}:A29 [.str w,.int m,.int c]=ret (.val (.bl (if w="over"∨w="down" then decide (4≤m∧m≤2+c) else decide (m=3)))):=by
  show A5W _ _ _=_
  unfold A5W
  simp only [A2o,K7,G5,C7,E8]
  rw [B7M (y:= .val (.tup [.str ("over":Str),.str ("down":Str)])) (sp c8) (fun _=> rfl) (fun z hz=> by
    simp only [List.mem_cons,List.not_mem_nil,or_false] at hz
    rcases hz with rfl | rfl <;> rfl)]
  by_cases h:w="over"∨w="down"
  · rw [if_pos h,if_pos (decide_eq_true (by rcases h with rfl | rfl <;> simp))]
    simp only [A1I,E8,C7,G5,t5,p9]
    by_cases g1:4≤m <;> by_cases g2:m≤2+c <;> simp [g1,g2]
  · rw [if_neg h,if_neg (by simpa using h)]
    rw [A6b (sp T9) (sp T9)]
    simp [C2g]
def B7D:Option Int→W
  | none=> .non
  | some i=> .int i
theorem B9H {cs:List Int} {st casks:Int} (hl:cs.length≤1000):A0i [.lst (cs.map .int),.int st,.int casks]=ret (.val (B7D (A4E casks [] cs st))):=by
  show A5K _ _ _=_
  unfold A5K
  simp only [A56,B4n,F3,C7,C5,A3D,C0R,B0n]
  rw [B4c (fun q:Int×Nat=> W.tup [.int (q.2:Int),.int q.1]) (fun q=> if ¬(0≤q.1∧q.1 < casks)∨q.1∈cs.take q.2 then some (ret (.val (.int (st+q.2)))) else none) cs.zipIdx fun q hq kn=> ?_]
  · have go:∀(r seen:List Int) (n:Nat),seen=cs.take n→r=cs.drop n→((r.zipIdx n).findSome? (fun q=> if ¬(0≤q.1∧q.1 < casks)∨q.1∈cs.take q.2 then some (ret (.val (.int (st+q.2)))) else none)).getD (eC .non ret)=ret (.val (B7D (A4E casks seen r (st+n)))):=by
      intro r
      induction r with
      | nil=> intro seen n _ _;rfl
      | cons c r ih=>
        intro seen n e1 e2
        rw [List.zipIdx_cons,List.findSome?_cons]
        simp only [A4E]
        by_cases h:¬(0≤c∧c < casks)∨c∈cs.take n
        · rw [if_pos h,if_pos (e1▸h)]
          rfl
        · rw [if_neg h,if_neg (e1▸h)]
          have hn:n < cs.length:=by
            have:=congrArg List.length e2
            simp at this
            omega
          have e3:cs[n]? =some c:=by
            have:=congrArg (fun l:List Int=> l[0]?) e2
            rw [List.getElem?_drop] at this
            simpa using this.symm
          have z:=ih (seen++[c]) (n+1) (by rw [e1,List.take_add_one,e3];rfl) (by
            have:=congrArg List.tail e2
            rw [List.tail_drop] at this
            simpa using this)
          rw [show st+((n+1:Nat):Int)=st+(n:Int)+1 by omega] at z
          exact z
    have z:=go cs [] 0 rfl rfl
    simpa using z
  · obtain ⟨c,n⟩:=q
    simp only [B0c,M1,V8,n5,K7,A1I,G5,E8,C7,p9,E9,A9F,A8r,A74,A8z,A8T]
    have tin:∀k:Bool→MC,(E4 (Z6 false) (.val (.int c)) (.own (.seq ((cs.map W.int).take n))) fun r=> V2 r k)=k (decide (c∈cs.take n)):=fun k=> by
      rw [B7M (y:= .own (.seq ((cs.map W.int).take n))) (sp T9) (fun _=> rfl) (fun z hz=> by
        obtain ⟨i,_,rfl⟩:=List.mem_map.mp ((List.take_sublist n _).subset hz)
        exact B5l)]
      have e:W.int c∈(cs.map W.int).take n↔c∈cs.take n:=by
        rw [←List.map_take,List.mem_map]
        exact ⟨fun ⟨x,hx,e⟩=> by cases e;exact hx,fun h=> ⟨c,h,rfl⟩⟩
      rw [C5,decide_eq_decide.mpr e]
    simp only [tin,t5]
    by_cases g1:0≤c <;> by_cases g2:c < casks <;> by_cases g3:c∈cs.take n <;> simp [g1,g2,g3]
theorem B3d {n:Nat}:∀(cs seen:List Nat) (k:Int),(∀c∈cs,c < n)→cs.Nodup→(∀c∈cs,c∉seen)→A4E n (seen.map fun (c:Nat)=> (c:Int)) (cs.map fun (c:Nat)=> (c:Int)) k=none
  | [],_,_,_,_,_=> rfl
  | c::cs,seen,k,h1,h2,h3=> by
    have hc:=h1 c (by simp)
    have hs:=h3 c (by simp)
    have ns:¬(¬(0≤(c:Int)∧(c:Int) < n)∨(c:Int)∈seen.map fun (c:Nat)=> (c:Int)):=fun z=> by
      rcases z with z | z
      · exact z ⟨by omega,by omega⟩
      · obtain ⟨x,hx,e⟩:=List.mem_map.mp z
        have:x=c:=by omega
        exact hs (this▸hx)
    show (if ¬(0≤(c:Int)∧(c:Int) < n)∨(c:Int)∈seen.map (fun (c:Nat)=> (c:Int)) then some k else A4E n (seen.map (fun (c:Nat)=> (c:Int))++[(c:Int)]) (cs.map fun (c:Nat)=> (c:Int)) (k+1))=none
    rw [if_neg ns,show seen.map (fun (c:Nat)=> (c:Int))++[(c:Int)]=(seen++[c]).map (fun (c:Nat)=> (c:Int)) by simp]
    obtain ⟨h4,h5⟩:=List.nodup_cons.mp h2
    refine B3d cs (seen++[c]) (k+1) (fun x hx=> h1 x (by simp [hx])) h5 fun x hx z=> ?_
    rcases List.mem_append.mp z with z | z
    · exact h3 x (by simp [hx]) z
    · rw [List.mem_singleton.mp z] at hx
      exact h4 hx
theorem A5F {n:Nat} {cs:List Nat} {k:Int} (h1:∀c∈cs,c < n) (h2:cs.Nodup) (hl:cs.length≤1000):A0i [.lst (cs.map O8),.int k,.int n]=ret (.val .non):=by
  have z:=B9H (cs:=cs.map fun (c:Nat)=> (c:Int)) (st:=k) (casks:=n) (by simpa using hl)
  have b:=B3d cs [] k h1 h2 (by simp)
  simp only [List.map_nil] at b
  rw [b,List.map_map] at z
  exact z
theorem C3T {w:Str} {k:Bool→MC} {x y:List W}:(A9 oAdd (eC (.tup [.str ("over":Str),.str ("down":Str)])) (eC (.tup [.str ("swap":Str),.str ("tap":Str),.str ("drain":Str)])) fun z=> E4 (Z6 true) (.val (.str w)) z fun r=> V2 r k)=k (!decide (w="over"∨w="down"∨w="swap"∨w="tap"∨w="drain")):=by
  simp only [G5,E8,A8G]
  rw [F9 (by simp [L1]),C48 (y:= .val (.tup _)) (sp c8) (fun _=> rfl) (fun z hz=> by
    simp only [List.mem_append,List.mem_cons,List.not_mem_nil,or_false] at hz
    rcases hz with (rfl | rfl) | rfl | rfl | rfl <;> rfl)]
  simp
theorem C0D {ss:List Int} {d:Dd} (hs:P9 ss) (hd:d.ok ss):A2I [.tup (ss.map .int),d.w]=ret (.val .non):=by
  show A5d _ _=_
  unfold A5d
  obtain ⟨l1,l2,s3⟩:=hs
  have len:∀(xs:List W),¬(W.int ((xs.length+1:Nat):Int))= .int 0:=fun xs e=> by
    injection e with e
    omega
  have head:∀{w:Str} {xs:List W} {m1 m2:MC},(w="over"∨w="down"∨w="swap"∨w="tap"∨w="drain")→
      L7 (tOr (F8 (A9 (D4 false) (F6 E5 (D7 (eV (.val (.tup (.str w::xs)))) E7)) (eC (.int 0)))) (F8 (A9 (Z6 true) (A9 oIx (eV (.val (.tup (.str w::xs)))) (eC (.int 0))) (A9 oAdd (eC (.tup [.str ("over":Str),.str ("down":Str)])) (eC (.tup [.str ("swap":Str),.str ("tap":Str),.str ("drain":Str)])))))) m1 m2=m2:=by
    intro w xs m1 m2 hw
    rw [M1,V8,K7,G5,L9,L5,C7,L6,Z2,E8,o4 (sp T9) (sp T9),List.length_cons]
    rw [C5,C5,decide_eq_false (len xs),if_neg Bool.false_ne_true,K7,G5,G5,C7,E8,Z4,n9,C3T (x:=[]) (y:=[]),decide_eq_true hw]
    simp
  cases d with
  | swap i j=>
    obtain ⟨hi,hj,ne,es⟩:=hd
    rw [Dd.w,head (by simp)]
    have bf:=A5F (n:=ss.length) (cs:=[i,j]) (k:=1) (by simp [hi,hj]) (by simp [ne]) (by simp)
    have e1:ss[i]=ss[j]:=by
      rw [List.getElem?_eq_getElem hi,List.getElem?_eq_getElem hj] at es
      exact Option.some.inj es
    simp only [M1,n5,K7,Q9,H8,G4,F3,G5,C7,E8,Z4,n9,C5,L9,L5,L6,Z2,List.length_map,A5O,U4,E9,List.length_cons,List.length_nil,
      A1d,String.reduceEq,or_self,if_false,Nat.zero_add,Nat.reduceAdd,Int.cast_ofNat_Int,decide_true,Bool.not_true,Bool.false_eq_true,A51,A5u,Q2]
    rw [o4 (sp c8) (sp c8)]
    simp only [C5,decide_true,if_true,List.map_cons,List.map_nil] at bf ⊢
    rw [bf]
    simp only [U4,C5]
    rw [C3u C4y]
    simp only [decide_true,Bool.not_true,Bool.false_eq_true,if_false,A2o,K7,G5,C7,E8,y0,n9,A1K,Z4,A5v hi,A5v hj]
    rw [o4 (sp T9) (sp T9),e1]
    simp
  | tap n c=>
    obtain ⟨n0,n1,hc⟩:=hd
    rw [Dd.w,head (by simp)]
    have bf:=A5F (n:=ss.length) (cs:=[c]) (k:=2) (by simp [hc]) (by simp) (by simp)
    have e0:decide (n < 1000000000000000000000000000000)=true:=decide_eq_true n1
    simp only [M1,n5,K7,Q9,H8,G4,F3,G5,C7,E8,Z4,n9,C5,L9,L5,L6,Z2,List.length_map,A5O,U4,E9,List.length_cons,List.length_nil,
      A1d,String.reduceEq,or_self,if_false,Nat.zero_add,Nat.reduceAdd,Int.cast_ofNat_Int,decide_true,Bool.not_true,Bool.false_eq_true,A51,A5u,Q2]
    rw [o4 (sp c8) (sp c8)]
    simp only [C5,W.str.injEq,A1d,String.reduceEq,decide_false,Bool.false_eq_true,if_false,A7x,A1I,E8,C7,p9,E9,decide_eq_true n0,if_true,e0,Bool.not_true,Q2]
    simp only [List.map_cons,List.map_nil] at bf
    rw [bf]
    rfl
  | drain n c=>
    obtain ⟨n0,n1,hc⟩:=hd
    rw [Dd.w,head (by simp)]
    have bf:=A5F (n:=ss.length) (cs:=[c]) (k:=2) (by simp [hc]) (by simp) (by simp)
    have e0:decide (n < 1000000000000000000000000000000)=true:=decide_eq_true n1
    simp only [M1,n5,K7,Q9,H8,G4,F3,G5,C7,E8,Z4,n9,C5,L9,L5,L6,Z2,List.length_map,A5O,U4,E9,List.length_cons,List.length_nil,
      A1d,String.reduceEq,or_self,if_false,Nat.zero_add,Nat.reduceAdd,Int.cast_ofNat_Int,decide_true,Bool.not_true,Bool.false_eq_true,A51,A5u,Q2]
    rw [o4 (sp c8) (sp c8)]
    simp only [C5,W.str.injEq,A1d,String.reduceEq,decide_false,Bool.false_eq_true,if_false,A7x,A1I,E8,C7,p9,E9,decide_eq_true n0,if_true,e0,Bool.not_true,Q2]
    simp only [List.map_cons,List.map_nil] at bf
    rw [bf]
    rfl
  | over n cs=>
    obtain ⟨n0,n1,c1,c2,c3,c4⟩:=hd
    rw [Dd.w,head (by simp)]
    have bf:=A5F (n:=ss.length) (cs:=cs) (k:=2) c4 c3 (by omega)
    have e0:decide (n < 1000000000000000000000000000000)=true:=decide_eq_true n1
    have e1:decide (4≤((cs.length+1+1:Nat):Int)∧((cs.length+1+1:Nat):Int)≤2+(ss.length:Int))=true:=decide_eq_true ⟨by omega,by omega⟩
    simp only [M1,n5,K7,Q9,H8,G4,F3,G5,C7,E8,Z4,n9,C5,L9,L5,L6,Z2,List.length_map,A5O,U4,E9,List.length_cons,
      true_or,if_true,e1,Bool.not_true,Bool.false_eq_true,if_false,A51,A5u,Q2]
    rw [o4 (sp c8) (sp c8)]
    simp only [C5,W.str.injEq,A1d,String.reduceEq,decide_false,Bool.false_eq_true,if_false,A7x,A1I,E8,C7,p9,E9,decide_eq_true n0,if_true,e0,Bool.not_true,Q2]
    rw [bf]
    rfl
  | down n cs=>
    obtain ⟨n0,n1,c1,c2,c3,c4⟩:=hd
    rw [Dd.w,head (by simp)]
    have bf:=A5F (n:=ss.length) (cs:=cs) (k:=2) c4 c3 (by omega)
    have e0:decide (n < 1000000000000000000000000000000)=true:=decide_eq_true n1
    have e1:decide (4≤((cs.length+1+1:Nat):Int)∧((cs.length+1+1:Nat):Int)≤2+(ss.length:Int))=true:=decide_eq_true ⟨by omega,by omega⟩
    simp only [M1,n5,K7,Q9,H8,G4,F3,G5,C7,E8,Z4,n9,C5,L9,L5,L6,Z2,List.length_map,A5O,U4,E9,List.length_cons,
      or_true,if_true,e1,Bool.not_true,Bool.false_eq_true,if_false,A51,A5u,Q2]
    rw [o4 (sp c8) (sp c8)]
    simp only [C5,W.str.injEq,A1d,String.reduceEq,decide_false,Bool.false_eq_true,if_false,A7x,A1I,E8,C7,p9,E9,decide_eq_true n0,if_true,e0,Bool.not_true,Q2]
    rw [bf]
    rfl
def C1x (ss:List Int) (p:Int×List Int) (c:Nat):Int×List Int:=
  let n:=min (p.2.getD c 0+p.1) (ss.getD c 0)
  (p.2.getD c 0+p.1 - n,p.2.set c n)
def B3j (ss cs:List Int) (g:Int):List Nat→List Int
  | []=> cs
  | c::r=>
    let p:=r.foldl (C1x ss) (g,cs.set c (cs.getD c 0 - g))
    p.2.set c (p.2.getD c 0+p.1)
def Dd.pour (ss cs:List Int):Dd→List Int
  | .swap i j=> (cs.set i (cs.getD j 0)).set j (cs.getD i 0)
  | .tap n c=> cs.set c (min (cs.getD c 0+n) (ss.getD c 0))
  | .drain n c=> cs.set c (max (cs.getD c 0 - n) 0)
  | .over n r=> B3j ss cs (min n (cs.getD (r.headD 0) 0)) r
  | .down n r=> B3j ss cs (max (cs.getD (r.headD 0) 0 - n) 0) r
end Ab
namespace Ab
open PySem PySem.Spec PyProof.Rows L2 RZ
theorem B0G {l:List Int} {c i:Nat} {x:Int}:(l.set c x).getD i 0=if i=c∧c < l.length then x else l.getD i 0:=by
  simp only [List.getD_eq_getElem?_getD,List.getElem?_set]
  by_cases h:c=i
  · subst h
    by_cases h2:c < l.length
    · simp [h2]
    · simp [h2]
  · rw [if_neg h,if_neg (fun z=> h z.1.symm)]
theorem B5b:∀{l:List Int} {c:Nat} {x:Int},c < l.length→(l.set c x).sum=l.sum - l.getD c 0+x
  | a::l,0,x,_=> by simp [List.sum_cons];omega
  | a::l,c+1,x,h=> by
    have ih:=B5b (l:=l) (c:=c) (x:=x) (by simpa using h)
    simp only [List.set_cons_succ,List.sum_cons,ih,List.getD_cons_succ]
    omega
def Ct (ss cs:List Int):Prop:=cs.length=ss.length∧∀i,i < ss.length→0≤cs.getD i 0∧cs.getD i 0≤ss.getD i 0
def LeL (as bs:List Int):Prop:=as.length=bs.length∧∀i,as.getD i 0≤bs.getD i 0
noncomputable instance {as bs:List Int}:Decidable (LeL as bs):=Classical.propDecidable _
theorem LeL.set {as bs:List Int} {c:Nat} {x y:Int} (h:LeL as bs) (xy:x≤y):LeL (as.set c x) (bs.set c y):=by
  refine ⟨by rw [List.length_set,List.length_set];exact h.1,fun i=> ?_⟩
  rw [B0G,B0G,←h.1]
  split
  · exact xy
  · exact h.2 i
theorem LeL.refl {as:List Int}:LeL as as:=⟨rfl,fun _=> Int.le_refl _⟩
theorem LeL.trans {as bs cs:List Int} (h:LeL as bs) (g:LeL bs cs):LeL as cs:=⟨h.1.trans g.1,fun i=> Int.le_trans (h.2 i) (g.2 i)⟩
def Dd.still:Dd→Bool
  | .tap _ _=> false
  | .drain _ _=> false
  | _=> true
theorem B1A:∀{as bs:List Int},as.length=bs.length→LeL (List.zipWith min as bs) bs
  | [],[],_=> LeL.refl
  | a::as,b::bs,h=> by
    have ih:=B1A (as:=as) (bs:=bs) (by simpa using h)
    refine ⟨by simp only [List.length_zipWith,List.length_cons] at h ⊢;omega,fun i=> ?_⟩
    cases i with
    | zero=> simp;omega
    | succ i=> simpa using ih.2 i
  | [],_::_,h=> by simp at h
  | _::_,[],h=> by simp at h
theorem A5q {f:Int→Int→Int} {as bs:List Int} {i:Nat} (ha:i < as.length) (hb:i < bs.length):(List.zipWith f as bs).getD i 0=f (as.getD i 0) (bs.getD i 0):=by
  simp only [List.getD_eq_getElem?_getD,List.getElem?_zipWith,List.getElem?_eq_getElem ha,List.getElem?_eq_getElem hb]
  rfl
end Ab
namespace Ab
open PySem PySem.Spec PyProof.Rows L2 RZ
def Dd.ws (ds:List Dd):List W:=ds.map Dd.w
theorem B0w:∀{as bs:List Int},LeL as bs→as.sum≤bs.sum
  | [],[],_=> Int.le_refl _
  | a::as,b::bs,h=> by
    have ih:=B0w (as:=as) (bs:=bs) ⟨by simpa using h.1,fun i=> by simpa using h.2 (i+1)⟩
    have:=h.2 0
    simp only [List.sum_cons,List.getD_cons_zero] at this ⊢
    omega
  | [],_::_,h=> by have:=h.1;simp at this
  | _::_,[],h=> by have:=h.1;simp at this
theorem A7p {l:List Int} {i:Nat} (h:l.length≤i):l.getD i 0=0:=by
  rw [List.getD_eq_getElem?_getD,List.getElem?_eq_none h];rfl
theorem B1H {as bs:List Int} (hl:as.length=bs.length) (h:∀i,i < as.length→as.getD i 0≤bs.getD i 0):LeL as bs:=⟨hl,fun i=> by
  by_cases hi:i < as.length
  · exact h i hi
  · rw [A7p (by omega),A7p (by omega)];exact Int.le_refl _⟩
theorem B5g {as bs:List Int} (h:as.length=bs.length):LeL (List.zipWith min as bs) as:=B1H (by rw [List.length_zipWith];omega) fun i hi=> by
  rw [List.length_zipWith] at hi
  rw [A5q (by omega) (by omega)]
  omega
theorem C4n {as bs cs:List Int} (h1:LeL cs as) (h2:LeL cs bs):LeL cs (List.zipWith min as bs):=B1H (by rw [List.length_zipWith,←h1.1,←h2.1];omega) fun i hi=> by
  have a:=h1.1
  have b:=h2.1
  rw [A5q (by omega) (by omega)]
  have:=h1.2 i
  have:=h2.2 i
  omega
theorem max_le {as bs cs:List Int} (h1:LeL as cs) (h2:LeL bs cs):LeL (List.zipWith max as bs) cs:=B1H (by rw [List.length_zipWith,h1.1,h2.1];omega) fun i hi=> by
  have a:=h1.1
  have b:=h2.1
  rw [List.length_zipWith] at hi
  rw [A5q (by omega) (by omega)]
  have:=h1.2 i
  have:=h2.2 i
  omega
end Ab
namespace Ab
open PySem PySem.Spec PyProof.Rows L2 RZ
def A26 (m__law_same:List W→MC) (x_found x_due:W):MC:=
  (L7 (F8 (A9 (O3 false) (eV (.val x_due)) (eC .non))) ((A9 (O3 false) (eV (.val x_found)) (eC .non)) ret) (L7 (F8 (F6 G8 (D7 (eV (.val x_due)) (D7 (eC (.ty "bool")) E7)))) ((v4 (F6 G8 (D7 (eV (.val x_found)) (D7 (eC (.ty "bool")) E7))) (A9 (D4 false) (eV (.val x_found)) (eV (.val x_due)))) ret) (L7 (F8 (F6 G8 (D7 (eV (.val x_due)) (D7 (eC (.ty "int")) E7)))) ((v4 (F6 G8 (D7 (eV (.val x_found)) (D7 (eC (.ty "int")) E7))) (v4 (A9G (F6 G8 (D7 (eV (.val x_found)) (D7 (eC (.ty "bool")) E7)))) (A9 (D4 false) (eV (.val x_found)) (eV (.val x_due))))) ret) (L7 (F8 (F6 G8 (D7 (eV (.val x_due)) (D7 (eC (.ty "str")) E7)))) ((v4 (F6 G8 (D7 (eV (.val x_found)) (D7 (eC (.ty "str")) E7))) (A9 (D4 false) (eV (.val x_found)) (eV (.val x_due)))) ret) (L7 (tOr (F8 (A9 (D4 true) (F6 G8 (D7 (eV (.val x_due)) (D7 (eC (.ty "tuple")) E7))) (F6 G8 (D7 (eV (.val x_found)) (D7 (eC (.ty "tuple")) E7))))) (F8 (A9 (D4 true) (F6 G8 (D7 (eV (.val x_due)) (D7 (eC (.ty "list")) E7))) (F6 G8 (D7 (eV (.val x_found)) (D7 (eC (.ty "list")) E7)))))) ((eC (.bl false)) ret) (L7 (F8 (A9 (D4 true) (F6 E5 (D7 (eV (.val x_found)) E7)) (F6 E5 (D7 (eV (.val x_due)) E7)))) ((eC (.bl false)) ret) ((F6 A1M (D7 (o6 (A2f (D7 (F6 E5 (D7 (eV (.val x_due)) E7)) E7)) fun x_at kk=> o5 tYes (A0 (A1B m__law_same (A4 (A0 (A9 oIx (eV (.val x_found)) (eV (.val x_at)))) (A4 (A0 (A9 oIx (eV (.val x_due)) (eV (.val x_at)))) C0)))) kk) E7)) ret)))))))
def m__law_same:Nat→List W→MC
  | 0=> fun _=> bad
  | d+1=> fun ws=> match ws with
    | [x_found,x_due]=> A26 (m__law_same d) x_found x_due
    | _=> bad
section
variable {k:SV→MC} {b c:Bool} {i:Int} {x:Str} {xs:List W} {T:String}
theorem O5 {w:W} {n:String} {r:Bool} (hv:∀h,viewW h w= .wv w) (e1:w.tyName=some n) (e2:A1z n T=some r):cb G8 [.val w,.val (.ty T)] k=k (.val (.bl r)):=by
  funext h Q E
  show G8 [viewW h w,.wv (.ty T)] _=_
  rw [hv,C5d]
  show (match (Vw.wv w).tyName with
    | some n=> (match A1z n T with
      | some b=> v5 k (.val (.bl b)) h Q E
      | none=> False)
    | none=> False)=_
  rw [show (Vw.wv w).tyName=w.tyName from rfl,e1]
  show (match A1z n T with
      | some b=> v5 k (.val (.bl b)) h Q E
      | none=> False)=_
  rw [e2]
  rfl
theorem A0p:cb G8 [.val .non,.val (.ty "bool")] k=k (.val (.bl false)):=O5 (fun _=> rfl) rfl rfl
theorem A0t:cb G8 [.val .non,.val (.ty "int")] k=k (.val (.bl false)):=O5 (fun _=> rfl) rfl rfl
theorem A01:cb G8 [.val .non,.val (.ty "str")] k=k (.val (.bl false)):=O5 (fun _=> rfl) rfl rfl
theorem A0Z:cb G8 [.val .non,.val (.ty "tuple")] k=k (.val (.bl false)):=O5 (fun _=> rfl) rfl rfl
theorem A0l:cb G8 [.val .non,.val (.ty "list")] k=k (.val (.bl false)):=O5 (fun _=> rfl) rfl rfl
theorem A00:cb G8 [.val (.bl b),.val (.ty "bool")] k=k (.val (.bl true)):=O5 (fun _=> rfl) rfl rfl
theorem A03:cb G8 [.val (.bl b),.val (.ty "int")] k=k (.val (.bl true)):=O5 (fun _=> rfl) rfl rfl
theorem A02:cb G8 [.val (.bl b),.val (.ty "str")] k=k (.val (.bl false)):=O5 (fun _=> rfl) rfl rfl
theorem A0k:cb G8 [.val (.bl b),.val (.ty "tuple")] k=k (.val (.bl false)):=O5 (fun _=> rfl) rfl rfl
theorem A0r:cb G8 [.val (.bl b),.val (.ty "list")] k=k (.val (.bl false)):=O5 (fun _=> rfl) rfl rfl
theorem A0f:cb G8 [.val (.int i),.val (.ty "bool")] k=k (.val (.bl false)):=O5 (fun _=> rfl) rfl rfl
theorem A0w:cb G8 [.val (.int i),.val (.ty "int")] k=k (.val (.bl true)):=O5 (fun _=> rfl) rfl rfl
theorem A0s:cb G8 [.val (.int i),.val (.ty "str")] k=k (.val (.bl false)):=O5 (fun _=> rfl) rfl rfl
theorem A0a:cb G8 [.val (.int i),.val (.ty "tuple")] k=k (.val (.bl false)):=O5 (fun _=> rfl) rfl rfl
theorem A0m:cb G8 [.val (.int i),.val (.ty "list")] k=k (.val (.bl false)):=O5 (fun _=> rfl) rfl rfl
theorem A0e:cb G8 [.val (.str x),.val (.ty "bool")] k=k (.val (.bl false)):=O5 (fun _=> rfl) rfl rfl
theorem A0y:cb G8 [.val (.str x),.val (.ty "int")] k=k (.val (.bl false)):=O5 (fun _=> rfl) rfl rfl
theorem A0x:cb G8 [.val (.str x),.val (.ty "str")] k=k (.val (.bl true)):=O5 (fun _=> rfl) rfl rfl
theorem A0c:cb G8 [.val (.str x),.val (.ty "tuple")] k=k (.val (.bl false)):=O5 (fun _=> rfl) rfl rfl
theorem A0j:cb G8 [.val (.str x),.val (.ty "list")] k=k (.val (.bl false)):=O5 (fun _=> rfl) rfl rfl
theorem A0n:cb G8 [.val (.tup xs),.val (.ty "bool")] k=k (.val (.bl false)):=O5 (fun _=> rfl) rfl rfl
theorem A0u:cb G8 [.val (.tup xs),.val (.ty "int")] k=k (.val (.bl false)):=O5 (fun _=> rfl) rfl rfl
theorem A0q:cb G8 [.val (.tup xs),.val (.ty "str")] k=k (.val (.bl false)):=O5 (fun _=> rfl) rfl rfl
theorem A0d:cb G8 [.val (.tup xs),.val (.ty "tuple")] k=k (.val (.bl true)):=O5 (fun _=> rfl) rfl rfl
theorem A0g:cb G8 [.val (.tup xs),.val (.ty "list")] k=k (.val (.bl false)):=O5 (fun _=> rfl) rfl rfl
theorem A0h:cb G8 [.val (.lst xs),.val (.ty "bool")] k=k (.val (.bl false)):=O5 (fun _=> rfl) rfl rfl
theorem A0v:cb G8 [.val (.lst xs),.val (.ty "int")] k=k (.val (.bl false)):=O5 (fun _=> rfl) rfl rfl
theorem A0z:cb G8 [.val (.lst xs),.val (.ty "str")] k=k (.val (.bl false)):=O5 (fun _=> rfl) rfl rfl
theorem A0b:cb G8 [.val (.lst xs),.val (.ty "tuple")] k=k (.val (.bl false)):=O5 (fun _=> rfl) rfl rfl
theorem A0o:cb G8 [.val (.lst xs),.val (.ty "list")] k=k (.val (.bl true)):=O5 (fun _=> rfl) rfl rfl
theorem A8V:M8 (.bl b) (.bl c)=decide (b=c):=by cases b <;> cases c <;> rfl
theorem A2h:E4 (D4 false) (.val (.bl b)) (.val (.bl c)) k=k (.val (.bl (decide (b=c)))):=by
  funext h Q E
  show (_∧_∧_)=_
  refine propext ⟨fun z=> ?_,fun z=> ⟨rfl,rfl,?_⟩⟩
  · have z:=z.2.2
    rw [←A8V]
    exact z
  · rw [←A8V] at z
    exact z
theorem B6A:E4 (O3 false) (.val (.bl b)) (.val .non) k=k (.val (.bl false)):=A0J (fun _=> rfl)
theorem A1H:E4 (D4 true) (.val (.bl b)) (.val (.bl c)) k=k (.val (.bl (!decide (b=c)))):=by
  funext h Q E
  show (_∧_∧_)=_
  refine propext ⟨fun z=> ?_,fun z=> ⟨rfl,rfl,?_⟩⟩
  · have z:=z.2.2
    rw [←A8V]
    exact z
  · rw [←A8V] at z
    exact z
end
mutual
def W.sm:Nat→W→Bool
  | _,.non=> true
  | _,.bl _=> true
  | _,.int _=> true
  | _,.str _=> true
  | n+1,.tup xs=> decide (xs.length≤100000) && W.sms n xs
  | n+1,.lst xs=> decide (xs.length≤100000) && W.sms n xs
  | _,_=> false
def W.sms:Nat→List W→Bool
  | _,[]=> true
  | n,x::xs=> W.sm n x && W.sms n xs
end
theorem W.sms_mem {n:Nat}:∀{xs:List W},W.sms n xs=true→∀x∈xs,x.sm n=true
  | [],_,x,h=> by cases h
  | y::ys,e,x,h=> by
    simp only [W.sms,Bool.and_eq_true] at e
    rcases List.mem_cons.mp h with rfl | h
    · exact e.1
    · exact W.sms_mem e.2 x h
theorem W.sms_of {n:Nat}:∀{xs:List W},(∀x∈xs,x.sm n=true)→W.sms n xs=true
  | [],_=> rfl
  | x::xs,h=> by
    simp only [W.sms,Bool.and_eq_true]
    exact ⟨h x (by simp),W.sms_of fun y hy=> h y (by simp [hy])⟩
theorem B5q {n:Nat} {xs:List W} (l:xs.length≤100000) (h:∀x∈xs,x.sm n=true):(W.tup xs).sm (n+1)=true:=by
  simp only [W.sm,Bool.and_eq_true,decide_eq_true_eq];exact ⟨l,W.sms_of h⟩
theorem A6I {n:Nat} {xs:List W} (l:xs.length≤100000) (h:∀x∈xs,x.sm n=true):(W.lst xs).sm (n+1)=true:=by
  simp only [W.sm,Bool.and_eq_true,decide_eq_true_eq];exact ⟨l,W.sms_of h⟩
theorem B5L:∀(d:Nat) (w:W),w.sm d=true→m__law_same (d+1) [w,w]=ret (.val (.bl true)):=by
  intro d
  induction d with
  | zero=>
    intro w h
    show A26 _ w w=_
    unfold A26
    cases w with
    | non=> simp only [↓C7,↓E8,↓G5,↓F3,↓G4,↓H8,↓L6,↓L5,↓L9,↓U6,↓K7,↓V8,↓V7,↓A0N,↓c6,↓k9,↓M1,↓U0,↓V0,↓E9,↓B4w,if_true,if_false,Bool.not_true,Bool.not_false,Bool.false_eq_true,decide_true,↓A0p,↓A0t,↓A01,↓A0Z,↓A0l,↓A00,↓A03,↓A02,↓A0k,↓A0r,↓A0f,↓A0w,↓A0s,↓A0a,↓A0m,↓A0e,↓A0y,↓A0x,↓A0c,↓A0j,↓A0n,↓A0u,↓A0q,↓A0d,↓A0g,↓A0h,↓A0v,↓A0z,↓A0b,↓A0o,↓A2h,↓A1H]
    | bl b=> simp only [↓C7,↓E8,↓G5,↓F3,↓G4,↓H8,↓L6,↓L5,↓L9,↓U6,↓K7,↓V8,↓V7,↓A0N,↓c6,↓k9,↓M1,↓U0,↓V0,↓E9,if_true,if_false,Bool.not_true,Bool.false_eq_true,decide_true,↓B6A,↓A0p,↓A0t,↓A01,↓A0Z,↓A0l,↓A00,↓A03,↓A02,↓A0k,↓A0r,↓A0f,↓A0w,↓A0s,↓A0a,↓A0m,↓A0e,↓A0y,↓A0x,↓A0c,↓A0j,↓A0n,↓A0u,↓A0q,↓A0d,↓A0g,↓A0h,↓A0v,↓A0z,↓A0b,↓A0o,↓A2h,↓A1H]
    | int i=> simp only [↓C7,↓E8,↓G5,↓F3,↓G4,↓H8,↓L6,↓L5,↓L9,↓U6,↓K7,↓V8,↓V7,↓A0N,↓c6,↓k9,↓M1,↓U0,↓V0,↓E9,↓A6Q,↓B4o,if_true,if_false,Bool.not_true,Bool.not_false,Bool.false_eq_true,decide_true,↓A0p,↓A0t,↓A01,↓A0Z,↓A0l,↓A00,↓A03,↓A02,↓A0k,↓A0r,↓A0f,↓A0w,↓A0s,↓A0a,↓A0m,↓A0e,↓A0y,↓A0x,↓A0c,↓A0j,↓A0n,↓A0u,↓A0q,↓A0d,↓A0g,↓A0h,↓A0v,↓A0z,↓A0b,↓A0o,↓A2h,↓A1H]
    | str x=> simp only [↓C7,↓E8,↓G5,↓F3,↓G4,↓H8,↓L6,↓L5,↓L9,↓U6,↓K7,↓V8,↓V7,↓A0N,↓c6,↓k9,↓M1,↓U0,↓V0,↓E9,↓A1S,↓B00,↓A3k,↓A8c,↓B5S,if_true,if_false,Bool.not_true,Bool.not_false,Bool.false_eq_true,decide_true,Int.toNat_natCast,L1,↓A0p,↓A0t,↓A01,↓A0Z,↓A0l,↓A00,↓A03,↓A02,↓A0k,↓A0r,↓A0f,↓A0w,↓A0s,↓A0a,↓A0m,↓A0e,↓A0y,↓A0x,↓A0c,↓A0j,↓A0n,↓A0u,↓A0q,↓A0d,↓A0g,↓A0h,↓A0v,↓A0z,↓A0b,↓A0o,↓A2h,↓A1H]
    | tup xs=> simp [W.sm] at h
    | lst xs=> simp [W.sm] at h
    | dct _ _=> simp [W.sm] at h
    | ref _=> simp [W.sm] at h
    | ty _=> simp [W.sm] at h
    | emp=> simp [W.sm] at h
  | succ d ih=>
    intro w h
    show A26 (m__law_same (d+1)) w w=_
    unfold A26
    have seq:∀xs:List W,xs.length≤100000→(∀x∈xs,x.sm d=true)→∀v:W,(∀(i:Nat) (k:SV→MC),i < xs.length→E4 oIx (.val v) (.val (.int i)) k=W3 xs i fun w=> k (.val w))→
        ∀k:SV→MC,V1 (fun x_at kk=> E4 oIx (.val v) (.val x_at) fun x=> E4 oIx (.val v) (.val x_at) fun y=> call0 (m__law_same (d+1) [x.fz,y.fz]) fun z=> kk (some z.fz)) (fun acc=> k (.own (.seq acc))) (R9 0 xs.length) []=k (.own (.seq ((List.replicate xs.length true).map W.bl))):=by
      intro xs hl hx v hv k
      rw [A7k,A8N O8 (fun _=> .bl true) _ (fun i hi kk=> ?_) (by simp [L1];omega)]
      · congr 3
        rw [List.map_const',List.map_replicate,List.length_range]
      · have hi:i < xs.length:=by simpa using hi
        rw [hv i _ hi,A39 hi,hv i _ hi,A39 hi,C5,ih _ (hx _ (List.getElem_mem hi)),A5n,C5]
    cases w with
    | non=> simp only [↓C7,↓E8,↓G5,↓F3,↓G4,↓H8,↓L6,↓L5,↓L9,↓U6,↓K7,↓V8,↓V7,↓A0N,↓c6,↓k9,↓M1,↓U0,↓V0,↓E9,↓B4w,if_true,if_false,Bool.not_true,Bool.not_false,Bool.false_eq_true,decide_true,↓A0p,↓A0t,↓A01,↓A0Z,↓A0l,↓A00,↓A03,↓A02,↓A0k,↓A0r,↓A0f,↓A0w,↓A0s,↓A0a,↓A0m,↓A0e,↓A0y,↓A0x,↓A0c,↓A0j,↓A0n,↓A0u,↓A0q,↓A0d,↓A0g,↓A0h,↓A0v,↓A0z,↓A0b,↓A0o,↓A2h,↓A1H]
    | bl b=> simp only [↓C7,↓E8,↓G5,↓F3,↓G4,↓H8,↓L6,↓L5,↓L9,↓U6,↓K7,↓V8,↓V7,↓A0N,↓c6,↓k9,↓M1,↓U0,↓V0,↓E9,if_true,if_false,Bool.not_true,Bool.false_eq_true,decide_true,↓B6A,↓A0p,↓A0t,↓A01,↓A0Z,↓A0l,↓A00,↓A03,↓A02,↓A0k,↓A0r,↓A0f,↓A0w,↓A0s,↓A0a,↓A0m,↓A0e,↓A0y,↓A0x,↓A0c,↓A0j,↓A0n,↓A0u,↓A0q,↓A0d,↓A0g,↓A0h,↓A0v,↓A0z,↓A0b,↓A0o,↓A2h,↓A1H]
    | int i=> simp only [↓C7,↓E8,↓G5,↓F3,↓G4,↓H8,↓L6,↓L5,↓L9,↓U6,↓K7,↓V8,↓V7,↓A0N,↓c6,↓k9,↓M1,↓U0,↓V0,↓E9,↓A6Q,↓B4o,if_true,if_false,Bool.not_true,Bool.not_false,Bool.false_eq_true,decide_true,↓A0p,↓A0t,↓A01,↓A0Z,↓A0l,↓A00,↓A03,↓A02,↓A0k,↓A0r,↓A0f,↓A0w,↓A0s,↓A0a,↓A0m,↓A0e,↓A0y,↓A0x,↓A0c,↓A0j,↓A0n,↓A0u,↓A0q,↓A0d,↓A0g,↓A0h,↓A0v,↓A0z,↓A0b,↓A0o,↓A2h,↓A1H]
    | str x=> simp only [↓C7,↓E8,↓G5,↓F3,↓G4,↓H8,↓L6,↓L5,↓L9,↓U6,↓K7,↓V8,↓V7,↓A0N,↓c6,↓k9,↓M1,↓U0,↓V0,↓E9,↓A1S,↓B00,↓A3k,↓A8c,↓B5S,if_true,if_false,Bool.not_true,Bool.not_false,Bool.false_eq_true,decide_true,Int.toNat_natCast,L1,↓A0p,↓A0t,↓A01,↓A0Z,↓A0l,↓A00,↓A03,↓A02,↓A0k,↓A0r,↓A0f,↓A0w,↓A0s,↓A0a,↓A0m,↓A0e,↓A0y,↓A0x,↓A0c,↓A0j,↓A0n,↓A0u,↓A0q,↓A0d,↓A0g,↓A0h,↓A0v,↓A0z,↓A0b,↓A0o,↓A2h,↓A1H]
    | tup xs=>
      simp only [W.sm,Bool.and_eq_true,decide_eq_true_eq] at h
      have hl:=h.1
      simp only [↓C7,↓E8,↓G5,↓F3,↓G4,↓H8,↓L6,↓L5,↓L9,↓U6,↓K7,↓V8,↓V7,↓A0N,↓c6,↓k9,↓M1,↓U0,↓V0,↓E9,↓A1S,↓Z2,↓A3k,↓C2j,if_true,if_false,Bool.not_true,Bool.not_false,Bool.false_eq_true,decide_true,Int.toNat_natCast,↓A0p,↓A0t,↓A01,↓A0Z,↓A0l,↓A00,↓A03,↓A02,↓A0k,↓A0r,↓A0f,↓A0w,↓A0s,↓A0a,↓A0m,↓A0e,↓A0y,↓A0x,↓A0c,↓A0j,↓A0n,↓A0u,↓A0q,↓A0d,↓A0g,↓A0h,↓A0v,↓A0z,↓A0b,↓A0o,↓A1H]
      rw [F9 (by omega)]
      refine (seq xs h.1 (W.sms_mem h.2) (.tup xs) (fun i k _=> Z4) (fun z=> cb A1M [z] ret)).trans ?_
      rw [A8X]
      simp
    | lst xs=>
      simp only [W.sm,Bool.and_eq_true,decide_eq_true_eq] at h
      have hl:=h.1
      simp only [↓C7,↓E8,↓G5,↓F3,↓G4,↓H8,↓L6,↓L5,↓L9,↓U6,↓K7,↓V8,↓V7,↓A0N,↓c6,↓k9,↓M1,↓U0,↓V0,↓E9,↓A1S,↓A8F,↓A3k,↓C24,if_true,if_false,Bool.not_true,Bool.not_false,Bool.false_eq_true,decide_true,Int.toNat_natCast,↓A0p,↓A0t,↓A01,↓A0Z,↓A0l,↓A00,↓A03,↓A02,↓A0k,↓A0r,↓A0f,↓A0w,↓A0s,↓A0a,↓A0m,↓A0e,↓A0y,↓A0x,↓A0c,↓A0j,↓A0n,↓A0u,↓A0q,↓A0d,↓A0g,↓A0h,↓A0v,↓A0z,↓A0b,↓A0o,↓A1H]
      rw [F9 (by omega)]
      refine (seq xs h.1 (W.sms_mem h.2) (.lst xs) (fun i k _=> y0) (fun z=> cb A1M [z] ret)).trans ?_
      rw [A8X]
      simp
    | dct _ _=> simp [W.sm] at h
    | ref _=> simp [W.sm] at h
    | ty _=> simp [W.sm] at h
    | emp=> simp [W.sm] at h
end Ab
namespace Ab
open PySem PySem.Spec PyProof.Rows L2 RZ
def cnt (n:Nat) (st:List Int):List Int:=(List.range n).map fun (c:Nat)=> (st.count (c:Int):Int)
structure StOk (ss st:List Int):Prop where
  len:st.length≤60
  at_:∀p∈st,-1≤p∧p < ss.length
  cap:∀c,c < ss.length→(st.count (c:Int):Int)≤ss.getD c 0
def A4D (st:List Int) (c:Int):List Nat:=(st.zipIdx.filter fun p=> decide (p.1=c)).map (·.2)
def A78 (st:List Int) (rs:List Nat) (c:Int):List Int:=st.zipIdx.map fun p=> if p.2∈rs then c else p.1
def B5P (ss:List Int) (p:List Int×List Nat) (c:Nat):List Int×List Nat:=(A78 p.1 p.2 (c:Int),(A4D (A78 p.1 p.2 (c:Int)) (c:Int)).drop (ss.getD c 0).toNat)
def B6r (ss st:List Int) (g:List Nat):List Nat→List Int
  | []=> st
  | c::r=> A78 (r.foldl (B5P ss) (st,g)).1 (r.foldl (B5P ss) (st,g)).2 (c:Int)
def Dd.beh (ss st:List Int):Dd→List Int
  | .swap i j=> st.map fun p=> if p=(i:Int) then (j:Int) else if p=(j:Int) then (i:Int) else p
  | .tap n c=> st++List.replicate (min n (ss.getD c 0 - (A4D st (c:Int)).length)).toNat (c:Int)
  | .drain n c=> A78 st ((A4D st (c:Int)).take n.toNat) (-1)
  | .over n cs=> B6r ss st ((A4D st ((cs.headD 0:Nat):Int)).take n.toNat) cs
  | .down n cs=> B6r ss st ((A4D st ((cs.headD 0:Nat):Int)).drop n.toNat) cs
end Ab
namespace Ab
open PySem PySem.Spec PyProof.Rows L2 RZ
end Ab
namespace Ab
open PySem PySem.Spec PyProof.Rows L2 RZ
def Grow (h h':AH):Prop:=∀q o,h q=some o→h' q=some o
theorem Grow.refl {h:AH}:Grow h h:=fun _ _ e=> e
theorem Grow.trans {h h1 h2:AH} (a:Grow h h1) (b:Grow h1 h2):Grow h h2:=fun q o e=> b q o (a q o e)
theorem Grow.upd {h:AH} {p:Addr} {o:AO} (f:h p=none):Grow h (C6 h p o):=fun q o' e=> by
  have ne:q≠p:=fun z=> by rw [z,f] at e;cases e
  exact (F7 ne).trans e
theorem Bag.grow {n:Nat} {h h':AH} {p:Addr} (b:Bag n h p) (g:Grow h h'):Bag n h' p:=let ⟨ns,i,x,y,c,a1,a⟩:=b;⟨ns,i,x,y,c,g _ _ a1,a⟩
def Te (m:MC) (r:RR):Prop:=∀(h:AH) (Q:RR→AH→Prop) (E:AExc→AH→Prop),(∀h',Grow h h'→Q r h')→m h Q E
theorem Te.call {m:MC} {r:RR} {K:SV→MC} {h:AH} {Q:RR→AH→Prop} {E:AExc→AH→Prop} (t:Te m r) (q:∀h',Grow h h'→K r.sv h' Q E):call m K h Q E:=t h _ _ q
theorem Te.of {m:MC} {x:SV} {r:RR} (e:m=ret x) (er:∀h Q E,Q r h→ret x h Q E):Te m r:=fun h Q E q=> by rw [e];exact er h Q E (q h .refl)
end Ab
namespace Ab
open PySem PySem.Spec PyProof.Rows L2 RZ
def C6E (h:AH):List (Addr×List W)→AH
  | []=> h
  | p::r=> C6 (C6E h r) p.1 (.cont (.seq p.2))
structure NewL (h:AH) (l:List (Addr×List W)):Prop where
  nd:(l.map (·.1)).Nodup
  fr:∀p∈l,h p.1=none
def Dd.fits (ss st:List Int):Dd→Prop
  | .tap n c=> st.length+min n (ss.getD c 0 - (A4D st (c:Int)).length)≤60
  | _=> True
instance {ss st:List Int} {d:Dd}:Decidable (d.fits ss st):=by
  cases d <;> unfold Dd.fits <;> infer_instance
def A6f (ss:List Int):List Int→List Dd→Option (List Int)
  | st,[]=> some st
  | st,d::ds=> if d.fits ss st then A6f ss (d.beh ss st) ds else none
end Ab
namespace Ab
open PySem PySem.Spec PyProof.Rows L2 RZ
end Ab
namespace Ab
open PySem PySem.Spec PyProof.Rows L2 RZ
structure Pn where
  step:W
  row:W
  times:Int
  st:List Int
  bk:Addr
def Pn.w (e:Pn):W:= .tup [e.step,e.row,.int e.times,.tup (e.st.map .int),.ref e.bk]
def A8m (ss st:List Int) (b pp pl:Addr):List (Str×W):=[("casks",.tup (ss.map .int)),("now",.tup (st.map .int)),("book",.ref b),("past",.ref pp),("later",.ref pl)]
structure LoftAt (h:AH) (o:Addr) (ss st:List Int) (b pp pl:Addr) (past later:List Pn):Prop where
  ob:h o=some (.ins "Loft" (A8m ss st b pp pl))
  pa:h pp=some (.cont (.seq (past.map Pn.w)))
  la:h pl=some (.cont (.seq (later.map Pn.w)))
  ne:pp≠pl
section
variable {Q:RR→AH→Prop} {E:AExc→AH→Prop} {h:AH} {o b pp pl:Addr} {ss st:List Int} {past later:List Pn} {k:SV→MC}
theorem LoftAt.same {h':AH} (L:LoftAt h o ss st b pp pl past later) (e1:h' o=h o) (e2:h' pp=h pp) (e3:h' pl=h pl):LoftAt h' o ss st b pp pl past later:=⟨e1.trans L.ob,e2.trans L.pa,e3.trans L.la,L.ne⟩
end
end Ab
namespace Ab
open PySem PySem.Spec PyProof.Rows L2 RZ
def A40 (x_sizes:W):MC:=
  (L7 (z8 (F8 (A10 (fun i j=> decide (i≤j)) (fun i j=> decide (i≤j)) (eC (.int 1)) (F6 E5 (D7 (eV (.val x_sizes)) E7)) (eC (.int 6))))) (A0H "BadSizes" "bad sizes" ["cask"] (A4 (A0 (A6V (eC (.int 1)))) C0)) (A11 (A8q (A0 (eV (.val x_sizes)))) () (fun w6 (s1:Unit) kn3 kb4=> un2 w6 fun x_cask x_size=> (L7 (z8 (F8 (A10 (fun i j=> decide (i≤j)) (fun i j=> decide (i≤j)) (eC (.int 1)) (eV (.val x_size)) (eC (.int 40))))) (A0H "BadSizes" "bad sizes" ["cask"] (A4 (A0 (eV (.val x_cask))) C0)) (kn3 ()))) fun (s1:Unit)=> (ret (.val .non))))
def A20:List W→MC
  | [x_sizes]=> A40 x_sizes
  | _=> bad
def A5j (x_text:W):MC:=
  ((v4 (A10 (fun i j=> decide (i≤j)) (fun i j=> decide (i≤j)) (eC (.int 1)) (F6 E5 (D7 (eV (.val x_text)) E7)) (eC (.int 8))) (F6 A1M (D7 (o6 (B1C (eV (.val x_text))) fun x_sign kk=> o5 tYes (A0 (A9 (oInS false) (eV (.val x_sign)) (eC (.str ("abcdefghijklmnopqrstuvwxyz":Str))))) kk) E7))) ret)
def A3G:List W→MC
  | [x_text]=> A5j x_text
  | _=> bad
def A5h (x_step:W):MC:=
  ((v4 (A9 oGt (F6 E5 (D7 (eV (.val x_step)) E7)) (eC (.int 0))) (A9 (D4 false) (A9 oIx (eV (.val x_step)) (eC (.int 0))) (eC (.str ("call":Str))))) ret)
def O0:List W→MC
  | [x_step]=> A5h x_step
  | _=> bad
def A5C (x_step:W):MC:=
  (L7 (F8 (A9 (D4 true) (F6 E5 (D7 (eV (.val x_step)) E7)) (eC (.int 3)))) ((A6V (eC (.int 1))) ret) ((eIf (F8 (A10 (fun i j=> decide (i≤j)) (fun i j=> decide (i≤j)) (eC (.int 0)) (A9 oIx (eV (.val x_step)) (eC (.int 2))) (eC (.int 9)))) (eC .non) (eC (.int 2))) ret))
def A2F:List W→MC
  | [x_step]=> A5C x_step
  | _=> bad
def A4s (x_self x_sizes:W):MC:=
  ((G6 A20 (A4 (A0 (eV (.val x_sizes))) C0)) fun _=> (A3p "Book" "casks" (A0 (eV (.val x_sizes))) (eV (.val x_self)) ((A3p "Book" "written" (u7 A8f) (eV (.val x_self)) ((A3p "Book" "laid" (u7 A8f) (eV (.val x_self)) ((ret (.val .non)))))))))
def P4:List W→MC
  | [x_self,x_sizes]=> A4s x_self x_sizes
  | _=> bad
def A4p (x_self x_name:W):MC:=
  (L7 (F8 (A88 true (A0 (eV (.val x_name))) (U8 "Book" "written" (eV (.val x_self))))) (A0H "NoRound" "no round" ["name"] (A4 (A0 (eV (.val x_name))) C0)) ((A4X (U8 "Book" "written" (eV (.val x_self))) (A0 (eV (.val x_name)))) ret))
def Q3:List W→MC
  | [x_self,x_name]=> A4p x_self x_name
  | _=> bad
def A4o (x_self x_name:W):MC:=
  ((F6 O2 (D7 (R8 "Book" "there" Q3 (eV (.val x_self)) (A4 (A0 (eV (.val x_name))) C0)) E7)) ret)
def o7:List W→MC
  | [x_self,x_name]=> A4o x_self x_name
  | _=> bad
def A5D (x_self x_name:W):MC:=
  ((R8 "Book" "there" Q3 (eV (.val x_self)) (A4 (A0 (eV (.val x_name))) C0)) fun _=> ((F6 O2 (D7 (A4X (U8 "Book" "laid" (eV (.val x_self))) (A0 (eV (.val x_name)))) E7)) ret))
def o9:List W→MC
  | [x_self,x_name]=> A5D x_self x_name
  | _=> bad
def A49 (x_self:W):MC:=
  ((F6 A1i (D7 (U8 "Book" "written" (eV (.val x_self))) E7)) ret)
def R5:List W→MC
  | [x_self]=> A49 x_self
  | _=> bad
def A4k (x_self x_name:W):MC:=
  (L7 (z8 (F8 (G6 A3G (A4 (A0 (eV (.val x_name))) C0)))) (A0H "BadName" "bad name" [] C0) (L7 (F8 (A88 false (A0 (eV (.val x_name))) (U8 "Book" "written" (eV (.val x_self))))) (A0H "Taken" "taken" ["name"] (A4 (A0 (eV (.val x_name))) C0)) (L7 (F8 (A9 oGe (F6 A1n (D7 (U8 "Book" "written" (eV (.val x_self))) E7)) (eC (.int 12)))) (A0H "TooMany" "too many" ["most"] (A4 (A0 (eC (.int 12))) C0)) (ret (.val .non)))))
def A2B:List W→MC
  | [x_self,x_name]=> A4k x_self x_name
  | _=> bad
def A4v (x_self x_steps:W):MC:=
  ((O1 C0) fun x_found=> (A8p (A8v (eV (.val x_steps))) x_found (fun x_step (s1:SV) kn3 kb4=> (L7 (F8 (G6 O0 (A4 (A0 (eV (.val x_step))) C0))) (A9B s1 (A9 oMulX (A4X (U8 "Book" "laid" (eV (.val x_self))) (A0 (A9 oIx (eV (.val x_step)) (eC (.int 1))))) (A9 oIx (eV (.val x_step)) (eC (.int 2)))) fun x_found=> (kn3 x_found)) (lmC Q5 s1 (A4 (A0 (eV (.val x_step))) C0) fun x_found _=> (kn3 x_found)))) fun (s1:SV)=> ((eV s1) ret)))
def A2C:List W→MC
  | [x_self,x_steps]=> A4v x_self x_steps
  | _=> bad
def A4j (x_self x_at x_step:W):MC:=
  ((A0 (eIf (F8 (G6 O0 (A4 (A0 (eV (.val x_step))) C0))) (G6 A2F (A4 (A0 (eV (.val x_step))) C0)) (G6 A2I (A4 (A0 (U8 "Book" "casks" (eV (.val x_self)))) (A4 (A0 (eV (.val x_step))) C0))))) fun x_place=> (L7 (F8 (A9 (O3 true) (eV (.val x_place)) (eC .non))) (A0H "BadRow" "bad row" ["step","place"] (A4 (A0 (eV (.val x_at))) (A4 (A0 (eV (.val x_place))) C0))) (L7 (F8 (G6 O0 (A4 (A0 (eV (.val x_step))) C0))) ((R8 "Book" "there" Q3 (eV (.val x_self)) (A4 (A0 (A9 oIx (eV (.val x_step)) (eC (.int 1)))) C0)) fun _=> (ret (.val .non))) (ret (.val .non)))))
def A2A:List W→MC
  | [x_self,x_at,x_step]=> A4j x_self x_at x_step
  | _=> bad
def A42 (x_self x_steps:W):MC:=
  ((F6 y7 (D7 (B1y (A8v (eV (.val x_steps))) fun x_step kk=> o5 tYes (A0 (eIf (F8 (A1B O0 (A4 (A0 (eV (.val x_step))) C0))) (A9 oMulT (A9 oIx (eV (.val x_step)) (eC (.int 2))) (F6 E5 (D7 (A4X (U8 "Book" "laid" (eV (.val x_self))) (A0 (A9 oIx (eV (.val x_step)) (eC (.int 1))))) E7))) (eC (.int 1)))) kk) E7)) ret)
def A2E:List W→MC
  | [x_self,x_steps]=> A42 x_self x_steps
  | _=> bad
def A2x (x_self x_name:W):MC:=
  ((R8 "Book" "there" Q3 (eV (.val x_self)) (A4 (A0 (eV (.val x_name))) C0)) fun _=> ((O1 C0) fun x_found=> (B09 "Book" "written" (.val x_self) x_found (fun x_other x_steps (s1:SV) kn3=> (L7 (F8 (F6 A4Z (D7 (o6 (w8 (A0 (eV (.val x_steps)))) fun x_step kk=> o5 tYes (A0 (v4 (A1B O0 (A4 (A0 (eV (.val x_step))) C0)) (A9 (D4 false) (A9 oIx (eV (.val x_step)) (eC (.int 1))) (eV (.val x_name))))) kk) E7))) (lmC Q5 s1 (A4 (A0 (eV (.val x_other))) C0) fun x_found _=> (kn3 x_found)) (kn3 s1))) (fun (s1:SV)=> x_self.nodct=true∧x_name.nodct=true∧s1.nodct=true) fun (s1:SV)=> ((eV s1) ret))))
def W4:List W→MC
  | [x_self,x_name]=> A2x x_self x_name
  | _=> bad
def A4q (x_self x_name x_steps:W):MC:=
  ((R8 "Book" "look_new" A2B (eV (.val x_self)) (A4 (A0 (eV (.val x_name))) C0)) fun _=> (A8p (B1z (eV (.val x_steps))) () (fun w6 (s1:Unit) kn3 kb4=> un2 w6 fun x_at x_step=> ((R8 "Book" "look_step" A2A (eV (.val x_self)) (A4 (A0 (eV (.val x_at))) (A4 (A0 (eV (.val x_step))) C0))) fun _=> (kn3 ()))) fun (s1:Unit)=> (L7 (F8 (A9 oGt (R8 "Book" "length" A2E (eV (.val x_self)) (A4 (A0 (eV (.val x_steps))) C0)) (eC (.int 200)))) (A0H "TooLong" "too long" ["most"] (A4 (A0 (eC (.int 200))) C0)) (A8k (A0 (F6 O2 (D7 (eV (.val x_steps)) E7))) (U8 "Book" "written" (eV (.val x_self))) (A0 (eV (.val x_name))) ((A8k (A0 (R8 "Book" "laid_out" A2C (eV (.val x_self)) (A4 (A0 (eV (.val x_steps))) C0))) (U8 "Book" "laid" (eV (.val x_self))) (A0 (eV (.val x_name))) ((ret (.val .non)))))))))
def g8:List W→MC
  | [x_self,x_name,x_steps]=> A4q x_self x_name x_steps
  | _=> bad
def A76:Str:=("abcdefghijklmnopqrstuvwxyz":Str)
def l7 (x:Str):Bool:=decide ((1:Int)≤x.length) && (decide ((x.length:Int)≤8) && x.cps.toList.all fun c=> A1F ⟨#[c]⟩ A76)
theorem C0h {x:Str} (l:x.length≤1000):A3G [.str x]=ret (.val (.bl (l7 x))):=by
  show A5j _=_
  unfold A5j
  have l2:x.length≤16777216:=by omega
  have l3:x.cps.toList.length≤sizeLine:=by
    have e:x.cps.toList.length=x.length:=by simp [Str.length]
    rw [e,L1];omega
  simp only [↓C3B,↓C12,↓C7,↓E8,↓G5,↓F3,↓L6,↓L5,↓L9,↓U6,↓V7,↓A1I,↓U0,↓V0,↓p9,↓E9,↓A1r,↓B00,if_true,if_false,Bool.false_eq_true,decide_eq_true_eq,L1,l2,A1r]
  unfold l7
  by_cases a:(1:Int)≤x.length
  · by_cases b:(x.length:Int)≤8
    · simp only [a,b,if_true,decide_true,Bool.true_and]
      show V1 _ _ (x.cps.toList.map fun c=> W.str ⟨#[c]⟩) []=_
      rw [A8N (fun c:Nat=> W.str ⟨#[c]⟩) (fun c=> .bl (A1F ⟨#[c]⟩ A76)) x.cps.toList (fun c _ kk=> by rw [C5k];rfl) l3]
      rw [show (x.cps.toList.map fun c=> W.bl (A1F ⟨#[c]⟩ A76))=(x.cps.toList.map fun c=> A1F ⟨#[c]⟩ A76).map W.bl by rw [List.map_map];rfl,A8X,List.all_map]
      rfl
    · simp only [a,b,if_true,if_false,decide_true,decide_false,Bool.true_and,Bool.false_and,Bool.false_eq_true]
  · simp only [a,if_false,decide_false,Bool.false_and,Bool.false_eq_true]
inductive St where
  | call (n:Str) (t:Nat) | deed (d:Dd)
def St.w:St→W
  | .call n t=> .tup [.str "call",.str n,.int (t:Int)]
  | .deed d=> d.w
def St.isC:St→Bool
  | .call _ _=> true
  | .deed _=> false
def St.ok (ss:List Int):St→Prop
  | .call _ t=> t≤9
  | .deed d=> d.ok ss
theorem C2x (d:Dd):d.word≠("call":Str):=by cases d <;> (show Str.ofString _≠Str.ofString _;rw [Ne,A1d];decide)
theorem St.nb (s:St):s.w.nb 1=true:=by
  cases s with
  | call n t=> rfl
  | deed d=> exact C44 d
theorem B3A {c:Str} {r:List W} (hr:r.length≤1000):O0 [.tup (.str c::r)]=ret (.val (.bl (decide (c=("call":Str))))):=by
  show A5h _=_
  unfold A5h
  simp only [↓C7,↓E8,↓G5,↓L6,↓L5,↓L9,↓V7,↓E9,↓B7V,↓Z4,↓n9,↓Z2,↓A8c,decide_eq_true_eq,List.length_cons]
  rw [if_pos (show (0:Int) < ((r.length+1:Nat):Int) by omega)]
theorem Dd.w_len (d:Dd) (ss:List Int) (hs:P9 ss) (h:d.ok ss):d.rest.length≤1000:=by
  have l6:=hs.2.1
  cases d with
  | over n cs=>
    have z:=h.2.2.2.1
    simp only [Dd.rest,List.length_cons,List.length_map]
    omega
  | down n cs=>
    have z:=h.2.2.2.1
    simp only [Dd.rest,List.length_cons,List.length_map]
    omega
  | _=> simp [Dd.rest]
theorem A7f {ss:List Int} (hs:P9 ss) {s:St} (h:s.ok ss):O0 [s.w]=ret (.val (.bl s.isC)):=by
  cases s with
  | call n t=> exact B3A (r:=[.str n,.int t]) (by simp)
  | deed d=>
    show O0 [d.w]=_
    rw [Dd.w_eq,B3A (d.w_len ss hs h),decide_eq_false (C2x d)]
    rfl
theorem B9B {n:Str} {t:Int}:A2F [.tup [.str "call",.str n,.int t]]=ret (.val (if 0≤t∧t≤9 then .non else .int 2)):=by
  show A5C _=_
  unfold A5C
  simp only [↓C7,↓E8,↓G5,↓L6,↓L5,↓L9,↓K7,↓A2o,↓C5L,↓A1I,↓M1,↓p9,↓E9,↓Z4,↓A2a,↓Z2,↓A3k,if_false,Bool.false_eq_true,decide_eq_true_eq,List.length_cons,List.length_nil,Nat.zero_add,Nat.reduceAdd]
  rw [if_neg (by decide)]
  by_cases a:0≤t
  · by_cases b:t≤9
    · simp only [a,b,if_true,decide_true,and_self]
    · simp only [a,b,if_true,if_false,decide_false,and_false,Bool.false_eq_true]
  · simp only [a,if_false,false_and,Bool.false_eq_true]
structure Ent where
  name:Str
  steps:List St
  deeds:List Dd
def Ent.wr (e:Ent):Str×W:=(e.name,.lst (e.steps.map St.w))
def Ent.la (e:Ent):Str×W:=(e.name,.lst (e.deeds.map Dd.w))
structure BookAt (h:AH) (b:Addr) (s:W) (pw pl:Addr) (es:List Ent):Prop where
  ob:h b=some (.ins "Book" [("casks",s),("written",.ref pw),("laid",.ref pl)])
  wr:h pw=some (.cont (.map (smap (es.map Ent.wr))))
  la:h pl=some (.cont (.map (smap (es.map Ent.la))))
  ne:pw≠pl
theorem BookAt.nbw {h:AH} {b:Addr} {s:W} {pw pl:Addr} {es:List Ent} (B:BookAt h b s pw pl es):b≠pw:=fun z=> by
  have a:=B.ob
  rw [z,B.wr] at a
  cases a
theorem BookAt.nbl {h:AH} {b:Addr} {s:W} {pw pl:Addr} {es:List Ent} (B:BookAt h b s pw pl es):b≠pl:=fun z=> by
  have a:=B.ob
  rw [z,B.la] at a
  cases a
def M6 (es:List Ent) (x:Str):Option Ent:=es.find? fun e=> e.name==x
theorem A4B {es:List Ent} {x:Str}:(es.map Ent.wr).lookup x=(M6 es x).map fun e=> W.lst (e.steps.map St.w):=by
  unfold M6
  induction es with
  | nil=> rfl
  | cons e es ih=>
    rw [List.map_cons,show Ent.wr e=(e.name,W.lst (e.steps.map St.w)) from rfl,List.lookup_cons,List.find?_cons]
    cases q:x==e.name with
    | true=>
      have q2:(e.name==x)=true:=BEq.comm.trans q
      rw [q2];rfl
    | false=>
      have q2:(e.name==x)=false:=BEq.comm.trans q
      rw [q2];exact ih
theorem A5w {es:List Ent} {x:Str}:(es.map Ent.la).lookup x=(M6 es x).map fun e=> W.lst (e.deeds.map Dd.w):=by
  unfold M6
  induction es with
  | nil=> rfl
  | cons e es ih=>
    rw [List.map_cons,show Ent.la e=(e.name,W.lst (e.deeds.map Dd.w)) from rfl,List.lookup_cons,List.find?_cons]
    cases q:x==e.name with
    | true=>
      have q2:(e.name==x)=true:=BEq.comm.trans q
      rw [q2];rfl
    | false=>
      have q2:(e.name==x)=false:=BEq.comm.trans q
      rw [q2];exact ih
section
variable {Q:RR→AH→Prop} {E:AExc→AH→Prop} {h:AH} {b pw pl:Addr} {s:W} {es:List Ent} {k:SV→MC}
theorem A1W (B:BookAt h b s pw pl es):A12 "Book" "casks" (.val (.ref b)) k h Q E=k (.val s) h Q E:=A4J B.ob rfl
theorem A1R (B:BookAt h b s pw pl es):A12 "Book" "written" (.val (.ref b)) k h Q E=k (.val (.ref pw)) h Q E:=A4J B.ob rfl
theorem B4u (B:BookAt h b s pw pl es):A12 "Book" "laid" (.val (.ref b)) k h Q E=k (.val (.ref pl)) h Q E:=A4J B.ob rfl
theorem O6 {nm:Str} {k:Addr→MC} (B:BookAt h b s pw pl es) (hn:([("casks",s),("written",W.ref pw),("laid",W.ref pl)]:List (Str×W)).lookup nm=none):W2 "Book" nm (.val (.ref b)) k h Q E=k b h Q E:=B59 B.ob hn
theorem A2J (B:BookAt h b s pw pl es):R5 [.ref b] h Q E=Q (.own (.seq (es.map fun e=> W.str e.name))) h:=by
  show A49 _ h Q E=_
  unfold A49
  simp only [↓X5,↓C7,↓L6,↓L5,↓L9]
  rw [A1R B,C2J B.wr,List.map_map]
  rfl
def A2P (x:Str):AExc:=⟨"NoRound",initF (W.str "no round") ["name"] [.str x]⟩
theorem A5o {x:Str} (B:BookAt h b s pw pl es):Q3 [.ref b,.str x] h Q E=match M6 es x with
    | some e=> Q (.val (.lst (e.steps.map St.w))) h
    | none=> E (A2P x) h:=by
  show A4p _ _ h Q E=_
  unfold A4p
  simp only [↓X5,↓B6l,↓A6D,↓C7,↓F3,↓G4,↓H8,↓K7,↓M1,↓C5,↓A2L]
  rw [A1R B,B57 B.wr,A4B]
  cases q:M6 es x with
  | none=>
    simp only [↓E9,↓A5r,if_true,Bool.not_false,Option.map_none,Option.isSome_none]
    rfl
  | some e=>
    simp only [↓E9,if_true,if_false,Bool.not_true,Bool.false_eq_true,Option.map_some,Option.isSome_some]
    rw [A1R B,A7v B.wr (by rw [A4B,q];rfl)]
    rfl
theorem B4Z {x:Str} {e:Ent} (B:BookAt h b s pw pl es) (q:M6 es x=some e):o7 [.ref b,.str x] h Q E=Q (.own (.seq (e.steps.map St.w))) h:=by
  show A4o _ _ h Q E=_
  unfold A4o
  simp only [↓X0,↓C7,↓F3,↓G4,↓H8,↓L6,↓L5,↓L9,↓C5]
  rw [O6 B rfl]
  show Q3 _ h _ _=_
  rw [A5o B,q]
  show cb O2 [.val (.lst _)] ret h Q E=_
  simp only [↓B6H,↓B0t,↓A4I]
theorem B4q {x:Str} {e:Ent} (B:BookAt h b s pw pl es) (q:M6 es x=some e):o9 [.ref b,.str x] h Q E=Q (.own (.seq (e.deeds.map Dd.w))) h:=by
  show A5D _ _ h Q E=_
  unfold A5D
  simp only [↓X5,↓X0,↓A6D,↓C7,↓F3,↓G4,↓H8,↓L6,↓L5,↓L9,↓C5]
  rw [O6 B rfl]
  show Q3 _ h _ _=_
  rw [A5o B,q]
  show A12 _ _ _ _ h Q E=_
  rw [B4u B,A7v B.la (by rw [A5w,q];rfl)]
  simp only [↓B6H,↓B0t,↓A4I]
def C2l:AExc:=⟨"BadName",initF (W.str "bad name") [] []⟩
def B1O (x:Str):AExc:=⟨"Taken",initF (W.str "taken") ["name"] [.str x]⟩
def C0u:AExc:=⟨"TooMany",initF (W.str "too many") ["most"] [.int 12]⟩
def A3e (es:List Ent) (x:Str):Option AExc:=if l7 x=false then some C2l else if (M6 es x).isSome=true then some (B1O x) else if 12≤es.length then some C0u else none
theorem C0A {x:Str} (lx:x.length≤1000) (B:BookAt h b s pw pl es):A2B [.ref b,.str x] h Q E=match A3e es x with
    | some e=> E e h
    | none=> Q (.val .non) h:=by
  show A4k _ _ h Q E=_
  unfold A4k
  simp only [↓X5,↓B6l,↓C7,↓E8,↓G5,↓F3,↓G4,↓H8,↓L6,↓L5,↓L9,↓K7,↓n5,↓Q9,↓M1,↓C5,↓E9,↓U4,↓A2L,C0h lx]
  unfold A3e
  cases a:l7 x with
  | false=>
    simp only [↓A5r,if_true,Bool.not_false]
    rfl
  | true=>
    simp only [if_false,Bool.not_true,Bool.false_eq_true]
    rw [A1R B,B57 B.wr,A4B]
    cases q:M6 es x with
    | some e=>
      simp only [↓E9,↓A5r,if_true,if_false,Bool.not_true,Bool.false_eq_true,Option.map_some,Option.isSome_some]
      rfl
    | none=>
      simp only [↓E9,if_false,Bool.not_false,Bool.false_eq_true,Option.map_none,Option.isSome_none]
      rw [A1R B,C3L B.wr,List.length_map]
      simp only [↓E9,↓B1l,decide_eq_true_eq]
      by_cases l:12≤es.length
      · rw [if_pos (show (12:Int)≤(es.length:Int) by omega),if_pos l]
        rfl
      · rw [if_neg (show ¬(12:Int)≤(es.length:Int) by omega),if_neg l]
        rfl
inductive Sw where
  | good (s:St) | odd (w:W) (p:Int)
def Sw.w:Sw→W
  | .good s=> s.w
  | .odd w _=> w
def Sw.ok (ss:List Int):Sw→Prop
  | .good s=> s.ok ss
  | .odd w p=> ∃c,O0 [w]=ret (.val (.bl c))∧(c=true→A2F [w]=ret (.val (.int p)))∧(c=false→A2I [.tup (ss.map .int),w]=ret (.val (.int p)))
def C39 (i:Int) (p:Int):AExc:=⟨"BadRow",initF (W.str "bad row") ["step","place"] [.int i,.int p]⟩
def A07 (es:List Ent) (i:Int):Sw→Option AExc
  | .good (.call n _)=> if (M6 es n).isSome=true then none else some (A2P n)
  | .good (.deed _)=> none
  | .odd _ p=> some (C39 i p)
theorem B9Q {ss:List Int} {x:Sw} {i:Int} (hs:P9 ss) (hx:x.ok ss) (B:BookAt h b (.tup (ss.map .int)) pw pl es):A2A [.ref b,.int i,x.w] h Q E=match A07 es i x with
    | some e=> E e h
    | none=> Q (.val .non) h:=by
  show A4j _ _ _ h Q E=_
  unfold A4j
  cases x with
  | good g=>
    have ic:=A7f hs (s:=g) hx
    cases g with
    | call n t=>
      have ht:t≤9:=hx
      have cf:=B9B (n:=n) (t:=t)
      rw [if_pos ⟨by omega,by omega⟩] at cf
      have ic:O0 [.tup [.str "call",.str n,.int (t:Int)]]=ret (.val (.bl true)):=ic
      simp only [Sw.w,St.w,↓X5,↓X0,↓C7,↓E8,↓G5,↓F3,↓G4,↓H8,↓K7,↓A2o,↓Q9,↓M1,↓C5,↓E9,↓U4,↓Z4,↓A1K,↓B4f,↓A2L,if_true,if_false,Bool.false_eq_true,ic,cf]
      rw [O6 B rfl]
      show Q3 _ h _ _=_
      rw [A5o B]
      cases q:M6 es n <;> simp only [A07,q,Option.isSome_some,Option.isSome_none,if_true,if_false,Bool.false_eq_true] <;> rfl
    | deed d=>
      have fo:=C0D hs (d:=d) hx
      have ic:O0 [d.w]=ret (.val (.bl false)):=ic
      simp only [Sw.w,St.w,↓X5,↓X0,↓C7,↓E8,↓G5,↓F3,↓G4,↓H8,↓K7,↓A2o,↓Q9,↓M1,↓C5,↓E9,↓U4,↓A2L,if_false,Bool.false_eq_true,ic]
      rw [A1W B]
      simp only [↓C5,↓C3o,↓E9,↓B0t,↓U4,↓B4f,if_false,Bool.false_eq_true,fo,ic]
      rfl
  | odd w p=>
    obtain ⟨c,ic,h1,h2⟩:=hx
    cases c with
    | true=>
      simp only [Sw.w,↓X5,↓X0,↓C7,↓E8,↓G5,↓F3,↓G4,↓H8,↓K7,↓A2o,↓Q9,↓M1,↓C5,↓E9,↓A5r,↓U4,↓B4d,↓A2L,if_true,ic,h1 rfl]
      rfl
    | false=>
      simp only [Sw.w,↓X5,↓X0,↓C7,↓E8,↓G5,↓F3,↓G4,↓H8,↓K7,↓A2o,↓Q9,↓M1,↓C5,↓E9,↓U4,↓A2L,if_false,Bool.false_eq_true,ic]
      rw [A1W B]
      simp only [↓C5,↓E9,↓A5r,↓U4,↓B4d,if_true,h2 rfl]
      rfl
def V5 (es:List Ent) (n:Str):List Dd:=match M6 es n with
  | some e=> e.deeds
  | none=> []
def U9 (es:List Ent):St→Nat
  | .call n t=> t*(V5 es n).length
  | .deed _=> 1
def W0 (es:List Ent):St→List Dd
  | .call n t=> (List.replicate t (V5 es n)).flatten
  | .deed d=> [d]
theorem B5G (es:List Ent) (s:St):(W0 es s).length=U9 es s:=by
  cases s with
  | call n t=> simp [W0,U9]
  | deed d=> rfl
def A4b (es:List Ent):Prop:=∀e∈es,e.deeds.length≤200∧e.steps.length≤1000
theorem B34 {es:List Ent} {x:Str} {e:Ent} (h:M6 es x=some e):e∈es:=List.mem_of_find?_eq_some h
theorem A7r {es:List Ent} (h:A4b es) (n:Str):(V5 es n).length≤200:=by
  unfold V5
  cases q:M6 es n with
  | none=> simp
  | some e=> exact (h e (B34 q)).1
def St.there (es:List Ent):St→Prop
  | .call n _=> (M6 es n).isSome=true
  | .deed _=> True
def Src (h:AH) (x:W) (ws:List W):Prop:=x= .lst ws∨x= .tup ws∨∃a,x= .ref a∧h a=some (.cont (.seq ws))
theorem B0g {x:W} {ws:List W} (s:Src h x ws):∃ok:AH→Prop,ok h∧∀(k:(AH→Prop)→List W→MC) (Q:RR→AH→Prop) (E:AExc→AH→Prop),A0T (.val x) k h Q E=k ok ws h Q E:=by
  rcases s with rfl | rfl | ⟨a,rfl,e⟩
  · exact ⟨fun _=> True,trivial,fun k Q E=> rfl⟩
  · exact ⟨fun _=> True,trivial,fun k Q E=> rfl⟩
  · exact ⟨fun g=> g a=some (.cont (.seq ws)),e,fun k Q E=> C3U e⟩
theorem C3X {x:W} {ws:List W} {k:SV→MC} (s:Src h x ws):cb O2 [.val x] k h Q E=k (.own (.seq ws)) h Q E:=by
  rcases s with rfl | rfl | ⟨a,rfl,e⟩
  · simp only [↓A4I]
  · simp only [↓C35]
  · unfold cb
    rw [List.map_cons,List.map_nil,A3W e]
    show O2 [.cv (.seq ws)] _=_
    rw [A8E]
    rfl
theorem B4X {α:Type} (f:α→Nat):∀l:List α,(l.map fun a=> ((f a:Nat):Int)).sum=((l.map f).sum:Nat)
  | []=> rfl
  | a::l=> by
    rw [List.map_cons,List.sum_cons,List.map_cons,List.sum_cons,B4X f l]
    omega
theorem C00 {ss:List Int} {x:W} {g:List St} (hs:P9 ss) (ho:A4b es) (hg:∀s∈g,s.ok ss∧s.there es) (lg:g.length≤1000) (sr:Src h x (g.map St.w)) (B:BookAt h b (.tup (ss.map .int)) pw pl es):
    A2E [.ref b,x] h Q E=Q (.val (.int ((g.map (U9 es)).sum:Nat))) h:=by
  show A42 _ _ h Q E=_
  unfold A42
  obtain ⟨ok,o,e⟩:=B0g sr
  simp only [↓X5,↓A6D,↓B5W,↓C5j,↓C7,↓E8,↓G5,↓F3,↓G4,↓H8,↓L6,↓L5,↓L9,↓U6,↓K7,↓A2o,↓c6,↓U0,↓C5,if_true]
  rw [e,B0O St.w (fun s=> some (.int (U9 es s:Nat))) o g [] (fun s hm kk=> ?_) (by simp [L1];omega),List.nil_append]
  · rw [List.filterMap_eq_map']
    show cb y7 [.own (.seq (g.map fun s=> W.int ((U9 es s:Nat):Int)))] ret h Q E=_
    rw [show (g.map fun s=> W.int ((U9 es s:Nat):Int))=(g.map fun s=> ((U9 es s:Nat):Int)).map W.int by rw [List.map_map];rfl,C4G,B4X]
    rfl
  · obtain ⟨h1,h2⟩:=hg s hm
    have ic:=A7f hs h1
    cases s with
    | deed d=>
      have ic:O0 [d.w]=ret (.val (.bl false)):=ic
      simp only [St.w,↓E9,↓A5n,if_false,Bool.false_eq_true,ic]
      rfl
    | call n t=>
      have ic:O0 [.tup [.str "call",.str n,.int (t:Int)]]=ret (.val (.bl true)):=ic
      simp only [St.w,↓C5,↓E9,↓A5n,↓Z4,↓A1K,↓A2a,if_true,ic]
      obtain ⟨e2,q⟩:=Option.isSome_iff_exists.mp h2
      have ht:t≤9:=h1
      have hd:=A7r ho n
      have de:V5 es n=e2.deeds:=by unfold V5;rw [q]
      rw [de] at hd
      rw [B4u B,A7v B.la (by rw [A5w,q];rfl)]
      simp only [↓C5,↓A8s,↓A8F,List.length_map]
      rw [F9 (A2X (by omega) (by omega) (by omega) (by omega)),show U9 es (.call n t)=t*e2.deeds.length by rw [←de];rfl,Int.natCast_mul]
theorem B9n {ss:List Int} {x:W} {g:List St} (hs:P9 ss) (ho:A4b es) (hg:∀s∈g,s.ok ss∧s.there es) (lg:g.length≤1000) (sr:Src h x (g.map St.w)) (B1:h b=some (.ins "Book" [("casks",s),("written",.ref pw),("laid",.ref pl)])) (B2:h pl=some (.cont (.map (smap (es.map Ent.la))))):
    A2C [.ref b,x] h Q E=Q (.own (.seq ((g.flatMap (W0 es)).map Dd.w))) h:=by
  show A4v _ _ h Q E=_
  unfold A4v
  obtain ⟨ok,o,e⟩:=B0g sr
  simp only [↓B5W,↓B5R,↓C7,↓F3,↓G4,↓H8,↓o0,↓K7,↓Q9,↓M1,↓C5,↓A1r,List.length_nil,L1,Nat.reduceLeDiff]
  rw [e]
  have cb:∀s∈g,U9 es s≤1800:=fun s hm=> by
    obtain ⟨h1,h2⟩:=hg s hm
    cases s with
    | deed d=> show 1≤1800;omega
    | call n t=>
      have ht:t≤9:=h1
      have hd:=A7r ho n
      show t*(V5 es n).length≤1800
      exact Nat.le_trans (Nat.mul_le_mul ht hd) (by decide)
  show y6 ok _ _ _ ((fun ds:List Dd=> SV.own (.seq (ds.map Dd.w))) []) h Q E=_
  rw [B3z St.w (fun ds:List Dd=> SV.own (.seq (ds.map Dd.w))) (fun ds s=> ds++W0 es s) o (fun i ds=> i≤1000→ds.length≤1800*i) g [] 0 (by simp) (fun j s hj ds kn kb hi=> ?_)]
  · rw [show g.foldl (fun ds s=> ds++W0 es s) []=g.flatMap (W0 es) from ?_]
    · rfl
    · have z:∀(l:List St) (a:List Dd),l.foldl (fun ds s=> ds++W0 es s) a=a++l.flatMap (W0 es):=fun l=> by
        induction l with
        | nil=> intro a;simp
        | cons s l ih=> intro a;rw [List.foldl_cons,ih,List.flatMap_cons,List.append_assoc]
      simpa using z g []
  · have hm:=List.mem_of_getElem? hj
    have jl:j < g.length:=(List.getElem?_eq_some_iff.mp hj).1
    obtain ⟨h1,h2⟩:=hg s hm
    have c:=cb s hm
    have lb:=hi (by omega)
    have ll:=B5G es s
    refine ⟨fun _=> by rw [List.length_append];omega,?_⟩
    have ic:=A7f hs h1
    cases s with
    | deed d=>
      have ic:O0 [d.w]=ret (.val (.bl false)):=ic
      simp only [St.w,↓X5,↓A6D,↓C7,↓E8,↓G5,↓F3,↓G4,↓H8,↓C5,↓E9,↓U4,↓B0Z,↓A8g,↓A7c,if_false,Bool.false_eq_true,List.length_map,L1,ic]
      rw [F9 (by omega)]
      simp [W0]
    | call n t=>
      have ic:O0 [.tup [.str "call",.str n,.int (t:Int)]]=ret (.val (.bl true)):=ic
      simp only [St.w,↓X5,↓A6D,↓C7,↓E8,↓G5,↓F3,↓G4,↓H8,↓C5,↓E9,↓U4,↓Z4,↓A1K,↓A2a,↓B0Z,↓A8g,↓A7c,if_true,List.length_map,L1,ic]
      obtain ⟨e2,q⟩:=Option.isSome_iff_exists.mp h2
      have ht:t≤9:=h1
      have hd:=A7r ho n
      have de:V5 es n=e2.deeds:=by unfold V5;rw [q]
      have le:W0 es (.call n t)=(List.replicate t e2.deeds).flatten:=by show (List.replicate t (V5 es n)).flatten=_;rw [de]
      rw [A4J B1 rfl,A7v B2 (by rw [A5w,q];rfl),C2v,w7,B54,w7,Int.toNat_natCast]
      rw [show (List.replicate t (e2.deeds.map Dd.w)).flatten=(W0 es (.call n t)).map Dd.w by rw [le,List.map_flatten,List.map_replicate],←List.map_append]
      have l1:(e2.deeds.map Dd.w).length*t≤1800:=by
        rw [List.length_map,←de,Nat.mul_comm]
        exact c
      refine propext ⟨fun z=> z.2.2,fun z=> ⟨⟨by omega,by omega,by rw [L1];omega⟩,?_,z⟩⟩
      rw [List.length_map,List.length_map,L1]
      omega
def Z3 (x:Str):St→Bool
  | .call n _=> n==x
  | .deed _=> false
def v9 (es:List Ent) (x:Str):List Str:=(es.filter fun e=> e.steps.any (Z3 x)).map Ent.name
theorem B38 {body:W→W→SV→(SV→MC)→MC} {fin:SV→Prop} (c:Ent→Bool):∀(es:List Ent) (acc:List Str),(∀e∈es,∀(acc:List Str) kn,acc.length≤1000→body (.str e.name) (.lst (e.steps.map St.w)) (.own (.seq (acc.map W.str))) kn (fun _=> none) Q E=kn (.own (.seq ((if c e=true then acc++[e.name] else acc).map W.str))) (fun _=> none) Q E)→
    acc.length+es.length≤1000→fin (.own (.seq ((acc++(es.filter c).map Ent.name).map W.str)))→A4M body fin (es.map Ent.wr) (.own (.seq (acc.map W.str))) (fun _=> none) Q E
  | [],acc,_,_,q=> by
    show fin (.own (.seq (acc.map W.str)))
    simpa using q
  | e::es,acc,hb,hl,q=> by
    rw [List.length_cons] at hl
    show body (.str e.name) (.lst (e.steps.map St.w)) (.own (.seq (acc.map W.str))) (fun s=> fun _ Q E=> A4M body fin (es.map Ent.wr) s (fun _=> none) Q E) (fun _=> none) Q E
    rw [hb e (by simp) acc _ (by omega)]
    refine B38 c es _ (fun e he=> hb e (by simp [he])) ?_ ?_
    · split
      · rw [List.length_append,List.length_cons,List.length_nil];omega
      · omega
    · rw [List.filter_cons] at q
      split
      · rename_i z
        rw [if_pos z] at q
        simpa using q
      · rename_i z
        rw [if_neg z] at q
        exact q
theorem A3F {xs:List W} (h:∀x∈xs,x.nodct=true):W.nodcts xs=true:=by
  induction xs with
  | nil=> rfl
  | cons x xs ih=>
    show (x.nodct && W.nodcts xs)=true
    rw [h x (by simp),ih fun y hy=> h y (by simp [hy])]
    rfl
theorem B4i (d:Dd):d.w.nodct=true:=by
  rw [Dd.w_eq]
  show W.nodcts (_::d.rest)=true
  refine A3F fun x hx=> ?_
  cases d <;> simp only [Dd.rest,List.mem_cons,List.not_mem_nil,or_false,List.mem_map] at hx
  case swap=> rcases hx with rfl | rfl | rfl <;> rfl
  case tap=> rcases hx with rfl | rfl | rfl <;> rfl
  case drain=> rcases hx with rfl | rfl | rfl <;> rfl
  case over=> rcases hx with rfl | rfl | ⟨a,_,rfl⟩ <;> rfl
  case down=> rcases hx with rfl | rfl | ⟨a,_,rfl⟩ <;> rfl
theorem B4I (s:St):s.w.nodct=true:=by
  cases s with
  | call n t=> rfl
  | deed d=> exact B4i d
theorem A91 {ss:List Int} {x:Str} {e:Ent} (hs:P9 ss) (hg:∀e∈es,e.steps.length≤1000∧∀s∈e.steps,s.ok ss) (le:es.length≤1000) (B:BookAt h b (.tup (ss.map .int)) pw pl es) (q:M6 es x=some e)
    (z:Q (.own (.seq ((v9 es x).map W.str))) h):W4 [.ref b,.str x] h Q E:=by
  show A2x _ _ h Q E
  unfold A2x
  conv=> fun;fun;fun;simp only [↓X0,↓C7,↓E8,↓G5,↓F3,↓G4,↓H8,↓o0,↓L6,↓L5,↓L9,↓U6,↓K7,↓V7,↓c6,↓A2K,↓M1,↓U0,↓V0,↓C5,↓A1r,if_true,List.length_nil,L1,Nat.reduceLeDiff]
  rw [O6 B rfl]
  show Q3 _ h _ _
  rw [A5o B,q]
  refine ⟨_,pw,es.map Ent.wr,B.ob,rfl,B.wr,fun p hp=> ?_,?_⟩
  · obtain ⟨e,_,rfl⟩:=List.mem_map.mp hp
    show W.nodcts (e.steps.map St.w)=true
    exact A3F fun y hy=> by obtain ⟨s,_,rfl⟩:=List.mem_map.mp hy;exact B4I s
  · refine B38 (fun e=> e.steps.any (Z3 x)) es [] (fun e he acc kn la=> ?_) (by simpa using le) ⟨⟨rfl,rfl,?_⟩,z⟩
    · simp only [↓C7,↓F3,↓G4,↓H8,↓C5,↓A3D,↓A8g,↓A7c,List.length_map,L1]
      obtain ⟨l1,h1⟩:=hg e he
      rw [A8N St.w (fun s=> .bl (Z3 x s)) e.steps (fun s hm kk=> ?_) (by rw [L1];omega)]
      · rw [show (e.steps.map fun s=> W.bl (Z3 x s))=(e.steps.map (Z3 x)).map W.bl by rw [List.map_map];rfl,B6G,List.any_map,E9]
        rw [show (e.steps.any (id∘Z3 x))=e.steps.any (Z3 x) from rfl]
        cases e.steps.any (Z3 x) with
        | false=> rfl
        | true=>
          rw [if_pos rfl,if_pos rfl,F9 (by omega),List.map_append]
          rfl
      · have ic:=A7f hs (h1 s hm)
        cases s with
        | deed d=>
          have ic:O0 [d.w]=ret (.val (.bl false)):=ic
          simp only [St.w,↓E9,↓A5n,if_false,Bool.false_eq_true,ic]
          rfl
        | call n t=>
          have ic:O0 [.tup [.str "call",.str n,.int (t:Int)]]=ret (.val (.bl true)):=ic
          simp only [St.w,↓C5,↓E9,↓A5n,↓Z4,↓A1K,↓A8c,if_true,ic]
          rw [show decide (n=x)=Z3 x (.call n t) by
            show _=(n==x)
            by_cases z:n=x
            · subst z;simp
            · rw [beq_false_of_ne z]
              exact decide_eq_false z]
    · exact A3F fun y hy=> by obtain ⟨s,_,rfl⟩:=List.mem_map.mp hy;rfl
def B0E (es:List Ent) (xs:List Sw):Option AExc:=xs.zipIdx.findSome? fun p=> A07 es (p.2:Int) p.1
def l9:List Sw→List St
  | []=> []
  | .good s::r=> s::l9 r
  | .odd _ _::r=> l9 r
def tooLong:AExc:=⟨"TooLong",initF (W.str "too long") ["most"] [.int 200]⟩
def A3R (es:List Ent) (xs:List Sw):Nat:=((l9 xs).map (U9 es)).sum
def A5s (es:List Ent) (x:Str) (xs:List Sw):Option AExc:=match A3e es x with
  | some e=> some e
  | none=> match B0E es xs with
    | some e=> some e
    | none=> if 200 < A3R es xs then some tooLong else none
def A8e (es:List Ent) (x:Str) (xs:List Sw):Ent:=⟨x,l9 xs,(l9 xs).flatMap (W0 es)⟩
theorem B4N {es:List Ent}:∀{xs:List Sw} {i:Nat},(xs.zipIdx i).findSome? (fun p=> A07 es (p.2:Int) p.1)=none→xs.map Sw.w=(l9 xs).map St.w∧∀s∈l9 xs,Sw.good s∈xs∧s.there es
  | [],_,_=> ⟨rfl,fun s h=> nomatch h⟩
  | .good s::r,i,h=> by
    rw [List.zipIdx_cons,List.findSome?_cons] at h
    cases q:A07 es (i:Int) (.good s) with
    | some e=> rw [q] at h;cases h
    | none=>
      rw [q] at h
      obtain ⟨a,b⟩:=B4N (xs:=r) h
      refine ⟨by show s.w::_=s.w::_;rw [a],fun s' hm=> ?_⟩
      rcases List.mem_cons.mp hm with rfl | hm
      · refine ⟨by simp,?_⟩
        cases s' with
        | deed d=> trivial
        | call n t=>
          have q:(if (M6 es n).isSome=true then none else some (A2P n))=none:=q
          split at q
          · assumption
          · cases q
      · exact ⟨List.mem_cons_of_mem _ (b s' hm).1,(b s' hm).2⟩
  | .odd w p::r,i,h=> by
    rw [List.zipIdx_cons,List.findSome?_cons] at h
    cases h
theorem C2C {ss:List Int} {x:Str} {w:W} {xs:List Sw} (lx:x.length≤1000) (hs:P9 ss) (ho:A4b es) (hx:∀y∈xs,y.ok ss) (lg:xs.length≤1000) (sr:Src h w (xs.map Sw.w)) (na:∀a,w= .ref a→a≠pw∧a≠pl) (B:BookAt h b (.tup (ss.map .int)) pw pl es):
    g8 [.ref b,.str x,w] h Q E=match A5s es x xs with
      | some e=> E e h
      | none=> Q (.val .non) (C6 (C6 h pw (.cont (.map (smap ((es++[A8e es x xs]).map Ent.wr))))) pl (.cont (.map (smap ((es++[A8e es x xs]).map Ent.la))))):=by
  show A4q _ _ _ h Q E=_
  unfold A4q
  simp only [↓X5,↓X0,↓C2S,↓C3s,↓B5R,↓C7,↓E8,↓G5,↓F3,↓G4,↓H8,↓L6,↓L5,↓L9,↓K7,↓M1,↓C5,↓A2L]
  rw [O6 B rfl]
  show A2B _ h _ _=_
  rw [C0A lx B]
  unfold A5s
  cases q1:A3e es x with
  | some e=> rfl
  | none=>
    obtain ⟨ok,o,e⟩:=B0g sr
    show A0T _ _ h Q E=_
    rw [e,B0n,B3s (fun p:Sw×Nat=> W.tup [.int (p.2:Int),p.1.w]) (fun p=> A07 es (p.2:Int) p.1) o xs.zipIdx (fun p hp kn kb=> ?_)]
    · unfold B0E
      cases q2:xs.zipIdx.findSome? (fun p=> A07 es (p.2:Int) p.1) with
      | some e=> rfl
      | none=>
        obtain ⟨gw,gt⟩:=B4N q2
        have gl:(l9 xs).length≤1000:=by
          have z:=congrArg List.length gw
          simp only [List.length_map] at z
          omega
        have gh:∀s∈l9 xs,s.ok ss∧s.there es:=fun s hm=> ⟨hx _ (gt s hm).1,(gt s hm).2⟩
        rw [gw] at sr
        have nf:M6 es x=none:=by
          unfold A3e at q1
          split at q1
          · cases q1
          · split at q1
            · cases q1
            · rename_i z
              cases q:M6 es x with
              | none=> rfl
              | some e=> rw [q] at z;exact absurd rfl z
        have e12:es.length < 12:=by
          unfold A3e at q1
          split at q1
          · cases q1
          · split at q1
            · cases q1
            · split at q1
              · cases q1
              · omega
        show W2 _ _ _ _ h Q E=match (if 200 < A3R es xs then some tooLong else none) with
          | some e=> E e h
          | none=> _
        rw [O6 B rfl]
        show A2E _ h _ _=_
        rw [C00 hs ho gh gl sr B]
        show E4 oGt (.val (.int ((A3R es xs:Nat):Int))) _ _ h Q E=_
        rw [B7V]
        by_cases t:200 < A3R es xs
        · rw [decide_eq_true (show (200:Int) < (A3R es xs:Nat) by omega),if_pos t]
          rfl
        · rw [decide_eq_false (show ¬(200:Int) < (A3R es xs:Nat) by omega),if_neg t]
          show cb O2 [.val w] _ h Q E=_
          rw [C3X sr,A1R B,B39 B.wr (by rw [List.length_map,L1];omega)]
          rw [B0A (by rw [A4B,nf];rfl)]
          have hb:(C6 h pw (.cont (.map (smap (es.map Ent.wr++[(x,SV.fz (.own (.seq ((l9 xs).map St.w))))]))))) b=some (.ins "Book" [("casks",.tup (ss.map .int)),("written",.ref pw),("laid",.ref pl)]):=by
            rw [F7 B.nbw]
            exact B.ob
          have hl:(C6 h pw (.cont (.map (smap (es.map Ent.wr++[(x,SV.fz (.own (.seq ((l9 xs).map St.w))))]))))) pl=some (.cont (.map (smap (es.map Ent.la)))):=by
            rw [F7 (fun z=> B.ne z.symm)]
            exact B.la
          have sr1:Src (C6 h pw (.cont (.map (smap (es.map Ent.wr++[(x,SV.fz (.own (.seq ((l9 xs).map St.w))))]))))) w ((l9 xs).map St.w):=by
            rcases sr with r | r | ⟨a,r,z⟩
            · exact .inl r
            · exact .inr (.inl r)
            · exact .inr (.inr ⟨a,r,by rw [F7 (na a r).1];exact z⟩)
          rw [B59 hb rfl]
          show A2C _ _ _ _=_
          rw [B9n hs ho gh gl sr1 hb hl]
          show A12 _ _ _ _ _ Q E=_
          rw [A4J hb rfl,B39 hl (by rw [List.length_map,L1];omega),B0A (by rw [A5w,nf];rfl)]
          rw [List.map_append,List.map_append]
          rfl
    · have hm:p.1∈xs:=by
        obtain ⟨a,b⟩:=p
        exact List.mem_of_getElem? (B3e hp)
      simp only [↓B0c]
      rw [O6 B rfl]
      show A2A _ h _ _=_
      rw [B9Q hs (hx _ hm) B]
      cases A07 es (p.2:Int) p.1 <;> rfl
theorem B8j {ss:List Int} (hs:P9 ss):A20 [.tup (ss.map .int)]=ret (.val .non):=by
  show A40 _=_
  unfold A40
  obtain ⟨l1,l2,s3⟩:=hs
  have e1:decide ((1:Int)≤ss.length)=true:=decide_eq_true (by omega)
  have e2:decide ((ss.length:Int)≤6)=true:=decide_eq_true (by omega)
  simp only [M1,n5,K7,A1I,E8,C7,L9,L5,L6,Z2,List.length_map,p9,E9,e1,e2,if_true,Bool.not_true,Bool.false_eq_true,if_false,A56,B4n,F3,C5,C0s,C0Z,B0n]
  refine C1z _ fun w hw kn=> ?_
  obtain ⟨⟨s,i⟩,hq,rfl⟩:=List.mem_map.mp hw
  obtain ⟨g1,g2⟩:=s3 s (List.mem_of_getElem? (B3e hq))
  simp only [B0c,M1,n5,K7,A1I,E8,C7,p9,E9,decide_eq_true g1,decide_eq_true g2,if_true,Bool.not_true,Bool.false_eq_true,if_false]
theorem B3x {ss:List Int} {a:Addr} (hs:P9 ss) (ha:h a=some (.ins "Book" []))
    (z:∀pw pl h',h pw=none→h pl=none→(∀q,q≠a→q≠pw→q≠pl→h' q=h q)→BookAt h' a (.tup (ss.map .int)) pw pl []→Q (.val .non) h'):P4 [.ref a,.tup (ss.map .int)] h Q E:=by
  show A4s _ _ h Q E
  unfold A4s
  conv=> fun;fun;fun;simp only [↓B4k,↓C2k,↓A8I,↓C7,↓F3,↓G4,↓H8,↓Q9,↓C5,↓U4,B8j hs]
  rw [A50 ha (Nat.le_of_ble_eq_true rfl)]
  have ha1:(C6 h a (.ins "Book" (u6 "casks" (.tup (ss.map .int)) []))) a=some (.ins "Book" [("casks",.tup (ss.map .int))]):=M2
  intro pw npw
  have p1:pw≠a:=fun e=> by rw [e,ha1] at npw;cases npw
  rw [F7 p1] at npw
  have ha2:=(F7 (h:=C6 h a (.ins "Book" (u6 "casks" (.tup (ss.map .int)) []))) (o:= .cont (.map (smap []))) (Ne.symm p1)).trans ha1
  rw [A50 ha2 (Nat.le_of_ble_eq_true rfl)]
  generalize hh2:C6 (C6 h a (.ins "Book" (u6 "casks" (.tup (ss.map .int)) []))) pw (.cont (.map (smap [])))=h2 at ha2 ⊢
  have hp2:h2 pw=some (.cont (.map (smap []))):=by rw [←hh2];exact M2
  intro pl npl
  have p2:pl≠a:=fun e=> by rw [e,M2] at npl;cases npl
  rw [F7 p2] at npl
  have p3:pl≠pw:=fun e=> by rw [e,hp2] at npl;cases npl
  have npl0:h pl=none:=by rw [←hh2,F7 p3,F7 p2] at npl;exact npl
  have ha3:(C6 (C6 h2 a (.ins "Book" (u6 "written" (.ref pw) [("casks",.tup (ss.map .int))]))) pl (.cont (.map (smap [])))) a=some (.ins "Book" [("casks",.tup (ss.map .int)),("written",.ref pw)]):=by
    rw [F7 (Ne.symm p2),M2]
    rfl
  rw [A50 ha3 (Nat.le_of_ble_eq_true rfl)]
  refine z pw pl _ npw npl0 (fun q q1 q2 q3=> ?_) ⟨?_,?_,?_,Ne.symm p3⟩
  · rw [F7 q1,F7 q3,F7 q1,←hh2,F7 q2,F7 q1]
  · rw [M2]
    rfl
  · rw [F7 p1,F7 (Ne.symm p3),F7 p1]
    exact hp2
  · rw [F7 p2,M2]
    rfl
end
end Ab
namespace Ab
open PySem PySem.Spec PyProof.Rows L2 RZ
def B0P:AExc:=⟨"TooMany",initF (W.str "too many") ["most"] [.int 60]⟩
end Ab
namespace Ab
open PySem PySem.Spec PyProof.Rows L2 RZ
def A5G (x_self:W):MC:=
  ((A0 (A1l "Book" P4 (A4 (A0 (U8 "Book" "casks" (eV (.val x_self)))) C0))) fun x_other=> (A3p "Book" "written" (u7 (A6d "Book" "written" (.val x_self) fun x_name x_steps=> (A0 (F6 O2 (D7 (eV (.val x_steps)) E7))))) (eV (.val x_other)) ((A3p "Book" "laid" (u7 (A6d "Book" "laid" (.val x_self) fun x_name x_deeds=> (A0 (F6 O2 (D7 (eV (.val x_deeds)) E7))))) (eV (.val x_other)) (((eV (.val x_other)) ret))))))
def m9:List W→MC
  | [x_self]=> A5G x_self
  | _=> bad
section
variable {Q:RR→AH→Prop} {E:AExc→AH→Prop} {h:AH} {o b pp pl:Addr} {ss st:List Int} {past later:List Pn} {k:SV→MC}
def A9z:AExc:=⟨"NothingLeft",initF (W.str "nothing left") [] []⟩
end
theorem B3f {x:Str}:∀{l:List (Str×W)},x∉l.map (·.1)→l.lookup x=none
  | [],_=> rfl
  | a::l,z=> by
    rw [List.map_cons,List.mem_cons,not_or] at z
    rw [List.lookup_cons,beq_false_of_ne z.1]
    exact B3f z.2
theorem B0k {mv:W→W→CW} {K:List (Str×W)→Prop} {Q:RR→AH→Prop} {E:AExc→AH→Prop} (f:Str×W→W):∀(l acc:List (Str×W)),(∀p∈l,∀k:W→MC,mv (.str p.1) p.2 k (fun _=> none) Q E=k (f p) (fun _=> none) Q E)→acc.length+l.length < 1000→((acc++l).map (·.1)).Nodup→
    W.nodcts ((acc++l.map fun p=> (p.1,f p)).map (·.2))=true→K (acc++l.map fun p=> (p.1,f p))→dcM mv K Q E l acc
  | [],acc,_,_,_,nd,z=> by
    rw [List.map_nil,List.append_nil] at nd z
    exact ⟨nd,z⟩
  | p::l,acc,hb,hl,un,nd,z=> by
    show mv (.str p.1) p.2 _ _ Q E
    rw [List.length_cons] at hl
    rw [hb p (by simp)]
    have nf:acc.lookup p.1=none:=by
      rw [List.map_append,List.map_cons] at un
      have z:=(List.nodup_append.mp un).2.2
      have zz:p.1∉acc.map (·.1):=fun hm=> z p.1 hm p.1 (by simp) rfl
      exact B3f zz
    refine ⟨by rw [L1];omega,?_⟩
    rw [B0A nf]
    refine B0k f l _ (fun q hq=> hb q (by simp [hq])) (by rw [List.length_append];simp;omega) ?_ ?_ ?_
    · rw [List.map_append,List.map_append] at*
      simpa using un
    · rw [List.map_cons] at nd
      simpa using nd
    · rw [List.map_cons] at z
      simpa using z
section
variable {Q:RR→AH→Prop} {E:AExc→AH→Prop} {h:AH} {b pw pl:Addr} {ss:List Int} {es:List Ent}
theorem B0J (hs:P9 ss) (un:(es.map Ent.name).Nodup) (ll:es.length≤100) (ok:∀e∈es,e.steps.length≤1000∧e.deeds.length≤1000) (B:BookAt h b (.tup (ss.map .int)) pw pl es)
    (z:∀b' pw' pl' h',h b'=none→h pw'=none→h pl'=none→Grow h h'→BookAt h' b' (.tup (ss.map .int)) pw' pl' es→Q (.val (.ref b')) h'):m9 [.ref b] h Q E:=by
  show A5G _ h Q E
  unfold A5G
  conv=> fun;fun;fun;simp only [↓X5,↓B4k,↓B0r,↓C5K,↓A8I,↓C7,↓F3,↓G4,↓H8]
  rw [A1W B]
  conv=> fun;fun;fun;simp only [↓C5]
  intro b' nb'
  refine B3x hs M2 fun w0 k0 h1 nw0 nk0 fr B1=> ⟨rfl,?_⟩
  simp only [C5]
  have w0b:w0≠b':=fun z=> by rw [z,M2] at nw0;cases nw0
  have k0b:k0≠b':=fun z=> by rw [z,M2] at nk0;cases nk0
  rw [F7 w0b] at nw0
  rw [F7 k0b] at nk0
  have g1:Grow h h1:=fun q u e=> by
    have q1:q≠b':=fun z=> by rw [z,nb'] at e;cases e
    have q2:q≠w0:=fun z=> by rw [z,nw0] at e;cases e
    have q3:q≠k0:=fun z=> by rw [z,nk0] at e;cases e
    rw [fr q q1 q2 q3,F7 q1];exact e
  have un1:((([]:List (Str×W))++es.map Ent.wr).map (·.1)).Nodup:=by rw [List.nil_append,List.map_map];exact un
  have un2:((([]:List (Str×W))++es.map Ent.la).map (·.1)).Nodup:=by rw [List.nil_append,List.map_map];exact un
  have idm:∀l:List (Str×W),([]:List (Str×W))++(l.map fun p=> (p.1,p.2))=l:=fun l=> by simp
  refine ⟨_,pw,es.map Ent.wr,g1 _ _ B.ob,rfl,g1 _ _ B.wr,B0k (fun p=> p.2) _ [] (fun p hp k=> ?_) (by simp;omega) un1 ?_ ?_⟩
  · obtain ⟨e,he,rfl⟩:=List.mem_map.mp hp
    simp only [Ent.wr,↓C7,↓F3,↓L6,↓L5,↓L9,↓Q2,↓A4I]
  · rw [idm,List.map_map]
    exact A3F fun y hy=> by
      obtain ⟨e,he,rfl⟩:=List.mem_map.mp hy
      exact A3F fun y hy=> by obtain ⟨s,_,rfl⟩:=List.mem_map.mp hy;exact B4I s
  rw [idm]
  intro pw' npw'
  have bb1:pw'≠b':=fun z=> by rw [z,B1.ob] at npw';cases npw'
  rw [A50 ((F7 (Ne.symm bb1)).trans B1.ob) (Nat.le_of_ble_eq_true rfl)]
  have npw0:h pw'=none:=by
    cases q:h pw' with
    | none=> rfl
    | some u=> rw [g1 _ _ q] at npw';cases npw'
  generalize hh2:C6 (C6 h1 pw' (.cont (.map (smap (es.map Ent.wr))))) b' (.ins "Book" (u6 "written" (.ref pw') [("casks",.tup (ss.map .int)),("written",.ref w0),("laid",.ref k0)]))=h2
  have g2:Grow h h2:=fun q u e=> by
    have q1:q≠b':=fun z=> by rw [z,nb'] at e;cases e
    have q2:q≠pw':=fun z=> by rw [z,npw0] at e;cases e
    rw [←hh2,F7 q1,F7 q2];exact g1 _ _ e
  have h2b:h2 b'=some (.ins "Book" [("casks",.tup (ss.map .int)),("written",.ref pw'),("laid",.ref k0)]):=by rw [←hh2,M2];rfl
  have h2w:h2 pw'=some (.cont (.map (smap (es.map Ent.wr)))):=by rw [←hh2,F7 bb1,M2]
  refine ⟨_,pl,es.map Ent.la,g2 _ _ B.ob,rfl,g2 _ _ B.la,B0k (fun p=> p.2) _ [] (fun p hp k=> ?_) (by simp;omega) un2 ?_ ?_⟩
  · obtain ⟨e,he,rfl⟩:=List.mem_map.mp hp
    simp only [Ent.la,↓C7,↓F3,↓L6,↓L5,↓L9,↓Q2,↓A4I]
  · rw [idm,List.map_map]
    exact A3F fun y hy=> by
      obtain ⟨e,he,rfl⟩:=List.mem_map.mp hy
      exact A3F fun y hy=> by obtain ⟨s,_,rfl⟩:=List.mem_map.mp hy;exact B4i s
  rw [idm]
  intro pl' npl'
  have bb2:pl'≠b':=fun z=> by rw [z,h2b] at npl';cases npl'
  have bb3:pl'≠pw':=fun z=> by rw [z,h2w] at npl';cases npl'
  rw [A50 ((F7 (Ne.symm bb2)).trans h2b) (Nat.le_of_ble_eq_true rfl)]
  have npl0:h pl'=none:=by
    cases q:h pl' with
    | none=> rfl
    | some u=> rw [g2 _ _ q] at npl';cases npl'
  refine z b' pw' pl' _ nb' npw0 npl0 (fun q u e=> ?_) ⟨?_,?_,?_,Ne.symm bb3⟩
  · have q1:q≠b':=fun z=> by rw [z,nb'] at e;cases e
    have q2:q≠pl':=fun z=> by rw [z,npl0] at e;cases e
    rw [F7 q1,F7 q2];exact g2 _ _ e
  · rw [M2];rfl
  · rw [F7 bb1,F7 (Ne.symm bb3)];exact h2w
  · rw [F7 bb2,M2]
end
section
variable {Q:RR→AH→Prop} {E:AExc→AH→Prop} {h:AH} {ss st:List Int}
end
section
variable {Q:RR→AH→Prop} {E:AExc→AH→Prop} {h:AH} {ss st:List Int} {o b pw pk pp pl:Addr} {past later:List Pn} {es:List Ent}
theorem Grow.bk {h':AH} {s:W} (g:Grow h h') (B:BookAt h b s pw pk es):BookAt h' b s pw pk es:=⟨g _ _ B.ob,g _ _ B.wr,g _ _ B.la,B.ne⟩
theorem Grow.lo {h':AH} (g:Grow h h') (L:LoftAt h o ss st b pp pl past later):LoftAt h' o ss st b pp pl past later:=⟨g _ _ L.ob,g _ _ L.pa,g _ _ L.la,L.ne⟩
def C4s (i:Int):AExc:=⟨"NoDrop",initF (W.str "no drop") ["rank"] [.int i]⟩
end
end Ab
namespace Ab
open PySem PySem.Spec PyProof.Rows L2 RZ
end Ab
namespace Ab
open PySem PySem.Spec PyProof.Rows L2 RZ
end Ab
namespace Ab
open PySem PySem.Spec PyProof.Rows L2 RZ
theorem C4R {as bs:List Int} {c:Nat} (h:LeL as bs):bs.getD c 0 - as.getD c 0≤bs.sum - as.sum:=by
  by_cases hc:c < as.length
  · have z:LeL (as.set c (bs.getD c 0)) bs:=by
      refine ⟨by rw [List.length_set];exact h.1,fun i=> ?_⟩
      rw [B0G]
      split
      · rename_i e;rw [e.1];exact Int.le_refl _
      · exact h.2 i
    have s:=B0w z
    rw [B5b hc] at s
    omega
  · have:=h.1
    rw [A7p (by omega),A7p (by omega)]
    have:=B0w h
    omega
theorem B5E {as bs:List Int} (hl:as.length=bs.length) (h:∀i,i < as.length→as.getD i 0=bs.getD i 0):as=bs:=by
  refine List.ext_getElem hl fun i h1 h2=> ?_
  have z:=h i h1
  simpa [List.getD_eq_getElem?_getD,h1,h2] using z
theorem C5U {as bs:List Int} (h:LeL as bs) (s:bs.sum≤as.sum):as=bs:=B5E h.1 fun i _=> by
  have a:=h.2 i
  have b:=C4R (c:=i) h
  omega
end Ab
namespace Ab
open PySem PySem.Spec PyProof.Rows L2 RZ
structure Cp (n m:Nat) (A B:List Int):Prop where
  eq:A.take m=B.take m
  la:m≤A.length
  lb:m≤B.length
  le:LeL (cnt n A) (cnt n B)
  gone:(A.length:Int) - (cnt n A).sum≤(B.length:Int) - (cnt n B).sum
end Ab
namespace Ab
open PySem PySem.Spec PyProof.Rows L2 RZ
end Ab
namespace Ab
open PySem PySem.Spec PyProof.Rows L2 RZ
def Dd.isTap:Dd→Bool
  | .tap _ _=> true
  | _=> false
def B1k (ds:List Dd):List Nat:=(List.range ds.length).filter fun i=> (ds[i]?).elim false Dd.isTap
end Ab
namespace Ab
open PySem PySem.Spec PyProof.Rows L2 RZ
section
variable {α:Type} {f:α→α} {x:α}
def it (f:α→α):Nat→α→α
  | 0,x=> x
  | n+1,x=> f (it f n x)
theorem B4b:∀(l u:List α),l.Nodup→(∀a∈l,a∈u)→l.length≤u.length
  | [],_,_,_=> Nat.zero_le _
  | a::l,u,nd,h=> by
    obtain ⟨s,t,rfl⟩:=List.append_of_mem (h a (by simp))
    have nd:=List.nodup_cons.mp nd
    have ih:=B4b l (s++t) nd.2 fun b hb=> by
      have z:=h b (by simp [hb])
      simp only [List.mem_append,List.mem_cons] at z ⊢
      rcases z with z | rfl | z
      · exact .inl z
      · exact absurd hb nd.1
      · exact .inr z
    simp only [List.length_append,List.length_cons] at ih ⊢
    omega
end
section
variable {σ:Type}
end
end Ab
namespace Ab
open PySem PySem.Spec PyProof.Rows L2 RZ
def A1j:List (List Int)→List Int
  | []=> []
  | r::rs=> rs.foldl (List.zipWith min) r
theorem A8C:∀(rs:List (List Int)) (r:List Int),(∀q∈rs,q.length=r.length)→LeL (rs.foldl (List.zipWith min) r) r∧∀q∈rs,LeL (rs.foldl (List.zipWith min) r) q
  | [],r,_=> ⟨.refl,fun _ h=> by cases h⟩
  | q::rs,r,h=> by
    have hq:=h q (by simp)
    have hl:(List.zipWith min r q).length=r.length:=by rw [List.length_zipWith,hq,Nat.min_self]
    obtain ⟨a,b⟩:=A8C rs (List.zipWith min r q) fun x hx=> by rw [hl];exact h x (by simp [hx])
    rw [List.foldl_cons]
    refine ⟨a.trans (B5g hq.symm),fun x hx=> ?_⟩
    rcases List.mem_cons.mp hx with rfl | hx
    · exact a.trans (B1A hq.symm)
    · exact b x hx
theorem B5V {x:List Int}:∀(rs:List (List Int)) (r:List Int),LeL x r→(∀q∈rs,LeL x q)→LeL x (rs.foldl (List.zipWith min) r)
  | [],_,h,_=> h
  | q::rs,r,h,hs=> B5V rs _ (C4n h (hs q (by simp))) fun y hy=> hs y (by simp [hy])
theorem B4z {i:Nat}:∀(rs:List (List Int)) (r:List Int),(∀q∈rs,q.length=r.length)→i < r.length→∃q∈r::rs,(rs.foldl (List.zipWith min) r).getD i 0=q.getD i 0
  | [],r,_,_=> ⟨r,by simp,rfl⟩
  | q::rs,r,h,hi=> by
    have hq:=h q (by simp)
    have hl:(List.zipWith min r q).length=r.length:=by rw [List.length_zipWith,hq,Nat.min_self]
    obtain ⟨x,hx,e⟩:=B4z (i:=i) rs (List.zipWith min r q) (fun x hx=> by rw [hl];exact h x (by simp [hx])) (by omega)
    rw [List.foldl_cons]
    rcases List.mem_cons.mp hx with rfl | hx
    · rw [A5q hi (by omega)] at e
      rcases Int.le_total (r.getD i 0) (q.getD i 0) with z | z
      · exact ⟨r,by simp,by rw [e];omega⟩
      · exact ⟨q,by simp,by rw [e];omega⟩
    · exact ⟨x,by simp [hx],e⟩
def Rows (L:Nat) (T:List (List Int)):Prop:=T≠[]∧∀r∈T,r.length=L
theorem Rows.cons {L:Nat} {T:List (List Int)} (h:Rows L T):∃r rs,T=r::rs∧r.length=L∧∀q∈rs,q.length=r.length:=by
  cases T with
  | nil=> exact absurd rfl h.1
  | cons r rs=>
    have hr:=h.2 r (by simp)
    exact ⟨r,rs,rfl,hr,fun q hq=> by rw [hr];exact h.2 q (by simp [hq])⟩
section
variable {L:Nat} {T:List (List Int)} {x:List Int} {i:Nat}
theorem B30 (h:Rows L T):∀r∈T,LeL (A1j T) r:=by
  obtain ⟨r,rs,rfl,hr,hs⟩:=h.cons
  intro q hq
  rcases List.mem_cons.mp hq with rfl | hq
  · exact (A8C rs _ hs).1
  · exact (A8C rs _ hs).2 q hq
theorem C1H (h:Rows L T) (hx:∀r∈T,LeL x r):LeL x (A1j T):=by
  obtain ⟨r,rs,rfl,hr,hs⟩:=h.cons
  exact B5V rs r (hx r (by simp)) fun q hq=> hx q (by simp [hq])
theorem C1B (h:Rows L T) (hi:i < L):∃q∈T,(A1j T).getD i 0=q.getD i 0:=by
  obtain ⟨r,rs,rfl,hr,hs⟩:=h.cons
  exact B4z rs r hs (by omega)
theorem C0Q (h:Rows L T):(A1j T).length=L:=by
  obtain ⟨r,rs,rfl,hr,hs⟩:=h.cons
  rw [←hr]
  exact (A8C rs r hs).1.1
end
theorem B31 {ss:List Int} {T:List (List Int)} (h:T≠[]) (hc:∀r∈T,Ct ss r):Ct ss (A1j T):=by
  have hR:Rows ss.length T:=⟨h,fun r hr=> (hc r hr).1⟩
  refine ⟨C0Q hR,fun i hi=> ?_⟩
  obtain ⟨q,hq,e⟩:=C1B hR hi
  rw [e]
  exact (hc q hq).2 i hi
structure MG (ss:List Int) (f:List Int→List Int):Prop where
  ct:∀x,Ct ss x→Ct ss (f x)
  mono:∀x y,LeL x y→LeL (f x) (f y)
  gap:∀x y,Ct ss x→Ct ss y→LeL x y→(f y).sum - (f x).sum≤y.sum - x.sum
theorem MG.it {ss:List Int} {f:List Int→List Int} (m:MG ss f):∀n,MG ss (it f n)
  | 0=> ⟨fun _ h=> h,fun _ _ h=> h,fun _ _ _ _ _=> Int.le_refl _⟩
  | n+1=> ⟨fun x h=> m.ct _ ((m.it n).ct x h),fun x y h=> m.mono _ _ ((m.it n).mono x y h),fun x y hx hy h=> Int.le_trans (m.gap _ _ ((m.it n).ct x hx) ((m.it n).ct y hy) ((m.it n).mono x y h)) ((m.it n).gap x y hx hy h)⟩
theorem C3h {ss:List Int} {F:List Int→List Int} {T:List (List Int)} (m:MG ss F) (ne:T≠[]) (hc:∀t∈T,Ct ss t) (hF:∀t∈T,F t=t):F (A1j T)=A1j T:=by
  have hR:Rows ss.length T:=⟨ne,fun r hr=> (hc r hr).1⟩
  have c:=B31 ne hc
  have le:LeL (F (A1j T)) (A1j T):=C1H hR fun t ht=> by
    have z:=m.mono _ _ (B30 hR t ht)
    rwa [hF t ht] at z
  obtain ⟨t,ht⟩:=List.exists_mem_of_ne_nil _ ne
  have g:=m.gap _ _ c (hc t ht) (B30 hR t ht)
  rw [hF t ht] at g
  exact C5U le (by omega)
end Ab
namespace Ab
open PySem PySem.Spec PyProof.Rows L2 RZ
end Ab
namespace Ab
open PySem PySem.Spec PyProof.Rows L2 RZ
section
variable {ss x y:List Int} {f:List Int→List Int} {N:Nat}
theorem C1J (m:MG ss f) (hx:Ct ss x) (hy:Ct ss y) (ex:it f N x=x) (ey:it f N y=y):it f N (List.zipWith min x y)=List.zipWith min x y:=
  C3h (T:=[x,y]) (m.it N) (by simp) (fun t ht=> by simp only [List.mem_cons,List.not_mem_nil,or_false] at ht;rcases ht with rfl | rfl <;> assumption) (fun t ht=> by simp only [List.mem_cons,List.not_mem_nil,or_false] at ht;rcases ht with rfl | rfl <;> assumption)
theorem B0K {α:Type} {f:α→α} {x:α}:∀n,it f n (f x)=f (it f n x)
  | 0=> rfl
  | n+1=> by show f (it f n (f x))=_;rw [B0K n];rfl
theorem C1S {α:Type} {f:α→α} {x:α} {N:Nat} (e:it f N x=x):it f N (f x)=f x:=by rw [B0K,e]
end
end Ab
namespace Ab
open PySem PySem.Spec PyProof.Rows L2 RZ
section
variable {ss x y z:List Int} {f:List Int→List Int} {N:Nat}
def Pe (ss:List Int) (f:List Int→List Int) (N:Nat) (x:List Int):Prop:=Ct ss x∧it f N x=x
theorem Pe.step (m:MG ss f) (p:Pe ss f N x):Pe ss f N (f x):=⟨m.ct _ p.1,C1S p.2⟩
theorem Pe.it (m:MG ss f) (p:Pe ss f N x):∀k,Pe ss f N (Ab.it f k x)
  | 0=> p
  | k+1=> (p.it m k).step m
def Irr (ss:List Int) (f:List Int→List Int) (N:Nat) (x:List Int):Prop:=Pe ss f N x∧∃u,Pe ss f N u∧LeL u x∧u≠x∧∀y,Pe ss f N y→LeL y x→y≠x→LeL y u
theorem C28 (m:MG ss f) (p:Pe ss f N x) (q:Pe ss f N y):Pe ss f N (List.zipWith min x y):=
  ⟨B31 (T:=[x,y]) (by simp) fun r hr=> by simp only [List.mem_cons,List.not_mem_nil,or_false] at hr;rcases hr with rfl | rfl;exact p.1;exact q.1,C1J m p.1 q.1 p.2 q.2⟩
theorem Irr.step (m:MG ss f) (hN:0 < N) (i:Irr ss f N x):Irr ss f N (f x):=by
  obtain ⟨p,u,pu,ux,ne,all⟩:=i
  obtain ⟨k,rfl⟩:∃k,N=k+1:=⟨N - 1,by omega⟩
  have back:∀{v},Pe ss f (k+1) v→it f k (f v)=v:=fun {v} pv=> by rw [B0K];exact pv.2
  refine ⟨p.step m,f u,pu.step m,m.mono _ _ ux,fun e=> ne (by rw [←back pu,e,back p]),fun y py yx yne=> ?_⟩
  have b:=(m.it k).mono _ _ yx
  rw [back p] at b
  have c:=all (it f k y) (py.it m k) b fun e=> yne (by rw [←e];exact py.2.symm)
  have d:=m.mono _ _ c
  rwa [show f (it f k y)=y from py.2] at d
theorem Irr.it (m:MG ss f) (hN:0 < N) (i:Irr ss f N x):∀k,Irr ss f N (Ab.it f k x)
  | 0=> i
  | k+1=> (i.it m hN k).step m hN
theorem Irr.own (m:MG ss f) (i:Irr ss f N x):∃c,c < ss.length∧∀y,Pe ss f N y→x.getD c 0≤y.getD c 0→LeL x y:=by
  obtain ⟨p,u,pu,ux,ne,all⟩:=i
  have:∃c,c < ss.length∧u.getD c 0 < x.getD c 0:=by
    refine Classical.byContradiction fun h=> ne (B5E ux.1 fun c hc=> ?_)
    refine Int.le_antisymm (ux.2 c) (Classical.byContradiction fun g=> h ⟨c,by rw [←pu.1.1];exact hc,by omega⟩)
  obtain ⟨c,hc,lt⟩:=this
  refine ⟨c,hc,fun y py le=> ?_⟩
  have hl:x.length=y.length:=p.1.1.trans py.1.1.symm
  have q:=C28 m p py
  by_cases e:List.zipWith min x y=x
  · rw [←e]
    exact B1A hl
  · exfalso
    have z:=(all _ q (B5g hl) e).2 c
    rw [A5q (by rw [p.1.1];exact hc) (by rw [py.1.1];exact hc)] at z
    omega
end
section
variable {ss x y z:List Int} {f:List Int→List Int} {N L K:Nat}
end
end Ab
namespace Ab
open PySem PySem.Spec PyProof.Rows L2 RZ
section
variable {Q:RR→AH→Prop} {E:AExc→AH→Prop} {h:AH} {p q:Addr} {xs ys:List W} {n:Nat}
theorem Bag.off {o:AO} (b:Bag n h p) (ne:p≠q):Bag n (C6 h q o) p:=by
  obtain ⟨ns,i,x,y,c,a1,a⟩:=b
  exact ⟨ns,i,x,y,c,by unfold C6;rw [if_neg ne];exact a1,a⟩
theorem Bag.ne (b:Bag n h p) (f:h q=none):p≠q:=fun e=> by
  obtain ⟨ns,i,x,y,c,a1,a⟩:=b
  rw [←e,a1] at f
  cases f
end
end Ab
namespace Ab
open PySem PySem.Spec PyProof.Rows L2 RZ
def B7Z:Int:=1000000000000000000000000000000000000000000000000000000000000000000000000000000000000000000000000000000000000000000000000000000000000000000000000000000000000000000000000000000000000000000000000000000000000000000000000000000000000000000000000000000000000000000000000000000000000000000000000000000000000
end Ab
namespace Ab
open PySem PySem.Spec PyProof.Rows L2 RZ
end Ab
namespace Ab
open PySem PySem.Spec PyProof.Rows L2 RZ
def stF (ss:List Int) (ds:List Dd) (st:List Int):List Int:=(A6f ss st ds).getD st
section
variable {ss st:List Int} {ds:List Dd}
end
section
variable {ss st:List Int} {ds:List Dd} {x:W} {n a:Nat}
end
end Ab
namespace Ab
open PySem PySem.Spec PyProof.Rows L2 RZ
section
variable {Q:RR→AH→Prop} {E:AExc→AH→Prop} {h:AH}
end
end Ab
namespace Ab
open PySem PySem.Spec PyProof.Rows L2 RZ
def A5B (x_self x_name:W):MC:=
  ((A0 (R8 "Book" "callers" W4 (eV (.val x_self)) (A4 (A0 (eV (.val x_name))) C0))) fun x_found=> (L7 (F8 (A9 (D4 true) (eV (.val x_found)) (O1 C0))) (A0H "InUse" "in use" ["name"] (A4 (A0 (A9 oIx (eV (.val x_found)) (eC (.int 0)))) C0)) (A8i (U8 "Book" "written" (eV (.val x_self))) (A0 (eV (.val x_name))) ((A8i (U8 "Book" "laid" (eV (.val x_self))) (A0 (eV (.val x_name))) ((ret (.val .non))))))))
def A2G:List W→MC
  | [x_self,x_name]=> A5B x_self x_name
  | _=> bad
def Off (S:List Addr) (h h':AH):Prop:=∀x u,h x=some u→x∉S→h' x=some u
theorem Off.refl {S:List Addr} {h:AH}:Off S h h:=fun _ _ e _=> e
theorem Off.trans {S T:List Addr} {h h1 h2:AH} (a:Off S h h1) (b:Off T h1 h2) (sub:∀x∈T,x∈S∨h x=none):Off S h h2:=fun x u e n=> b x u (a x u e n) fun m=> by
  rcases sub x m with z | z
  · exact n z
  · rw [z] at e;cases e
theorem Grow.off {S:List Addr} {h h':AH} (g:Grow h h'):Off S h h':=fun x u e _=> g x u e
theorem Off.bk {S:List Addr} {h h':AH} {b pw pk:Addr} {s:W} {es:List Ent} (f:Off S h h') (B:BookAt h b s pw pk es) (n1:b∉S) (n2:pw∉S) (n3:pk∉S):BookAt h' b s pw pk es:=⟨f _ _ B.ob n1,f _ _ B.wr n2,f _ _ B.la n3,B.ne⟩
theorem Off.grow {S:List Addr} {h h1 h2:AH} (g:Grow h h1) (f:Off S h1 h2):Off S h h2:=fun x u e n=> f x u (g x u e) n
def A1s (es:List Ent) (x:Str):List Ent:=es.filter fun e=> decide (e.name≠x)
theorem B3u {es:List Ent} {x:Str} {f:Ent→Str×W} (hf:∀e,(f e).1=e.name):x7 (es.map f) x=(A1s es x).map f:=by
  unfold x7 A1s
  rw [List.filter_map]
  congr 1
  refine List.filter_congr fun e _=> ?_
  show decide ((f e).1≠x)=_
  rw [hf]
section
variable {Q:RR→AH→Prop} {E:AExc→AH→Prop} {h:AH} {ss st:List Int} {o b pw pk pp pl:Addr} {past later:List Pn} {es:List Ent}
def B1Y (x:Str):AExc:=⟨"InUse",initF (W.str "in use") ["name"] [.str x]⟩
def A73 (es:List Ent) (x:Str):Option AExc:=match M6 es x with
  | none=> some (A2P x)
  | some _=> match v9 es x with
    | []=> none
    | c::_=> some (B1Y c)
theorem C1R {x:Str} (hs:P9 ss) (hg:∀e∈es,e.steps.length≤1000∧∀s∈e.steps,s.ok ss) (le:es.length≤1000) (B:BookAt h b (.tup (ss.map .int)) pw pk es)
    (z:match A73 es x with
      | some e=> E e h
      | none=> Q (.val .non) (C6 (C6 h pw (.cont (.map (smap ((A1s es x).map Ent.wr))))) pk (.cont (.map (smap ((A1s es x).map Ent.la)))))):A2G [.ref b,.str x] h Q E:=by
  show A5B _ _ h Q E
  unfold A5B
  conv=> fun;fun;fun;simp only [↓X5,↓X0,↓C3G,↓C7,↓E8,↓G5,↓F3,↓G4,↓H8,↓o0,↓K7,↓M1,↓C5,↓A1r,↓A2L,List.length_nil,L1,Nat.reduceLeDiff]
  rw [O6 B rfl]
  unfold A73 at z
  cases q:M6 es x with
  | none=>
    rw [q] at z
    show W4 _ h _ _
    show A2x _ _ h _ _
    unfold A2x
    conv=> fun;fun;fun;simp only [↓X0,↓C7,↓E8,↓G5,↓F3,↓G4,↓H8,↓o0,↓L6,↓L5,↓L9,↓U6,↓K7,↓V7,↓c6,↓A2K,↓M1,↓U0,↓V0,↓C5,↓A1r,if_true,List.length_nil,L1,Nat.reduceLeDiff]
    rw [O6 B rfl]
    show Q3 _ h _ _
    rw [A5o B,q]
    exact z
  | some e=>
    rw [q] at z
    refine A91 hs hg le B q ?_
    conv=> fun;fun;fun;simp only [↓C5,↓Q2,↓B0l,↓y0]
    have pn:(W.lst ((v9 es x).map W.str)).plain:=A2Y 0 (by omega) fun y hy=> by
      obtain ⟨e,_,rfl⟩:=List.mem_map.mp hy
      rfl
    have p0:(Cont.seq []).fz.plain:=(A2Y 0 (by omega) (fun x (hx:x∈([]:List W))=> by cases hx):(W.lst []).plain)
    rw [A6a (sp pn) (so p0)]
    cases q2:v9 es x with
    | nil=>
      rw [q2] at z
      rw [show decide ((SV.val (W.lst (List.map W.str []))).fz=(SV.own (Cont.seq [])).fz)=true from decide_eq_true rfl]
      simp only [Bool.not_true,Bool.false_eq_true,if_false]
      rw [A1R B,B5K B.wr (by rw [A4B,q];rfl)]
      have hb:(C6 h pw (.cont (.map (smap (x7 (es.map Ent.wr) x))))) b=some (.ins "Book" [("casks",.tup (ss.map .int)),("written",.ref pw),("laid",.ref pk)]):=by rw [F7 B.nbw];exact B.ob
      rw [A4J hb rfl,B5K (by rw [F7 (Ne.symm B.ne)];exact B.la) (by rw [A5w,q];rfl),B3u (fun _=> rfl),B3u (fun _=> rfl)]
      exact z
    | cons c r=>
      rw [q2] at z
      rw [decide_eq_false (fun e=> by cases e)]
      simp only [Bool.not_false,if_true,List.map_cons]
      rw [n9]
      exact z
theorem Src.off {h h':AH} {S:List Addr} {x:W} {ws:List W} (f:Off S h h') (s:Src h x ws) (n:∀a,x= .ref a→a∉S):Src h' x ws:=by
  rcases s with rfl | rfl | ⟨a,rfl,e⟩
  · exact .inl rfl
  · exact .inr (.inl rfl)
  · exact .inr (.inr ⟨a,rfl,f _ _ e (n a rfl)⟩)
def B4D:AExc:=⟨"BadTimes",initF (W.str "bad times") [] []⟩
def B45 (k:Nat):AExc:=⟨"Tapped",initF (W.str "tapped") ["step"] [O8 k]⟩
def B6S (ss st:List Int) (row:List Dd) (t:Nat):Option (List Int):=if (B1k row).head?=none then some (it (stF ss row) t st) else if t=0 then some st else A6f ss st row
end
end Ab
namespace Ab
open PySem PySem.Spec PyProof.Rows L2 RZ
section
variable {Q:RR→AH→Prop} {E:AExc→AH→Prop} {h:AH} {p q:Addr} {xs us:List W} {n:Nat}
end
end Ab
namespace Ab
open PySem PySem.Spec PyProof.Rows L2 RZ
section
variable {Q:RR→AH→Prop} {E:AExc→AH→Prop} {h:AH} {p q:Addr} {xs us:List W} {n:Nat}
end
end Ab
namespace Ab
open PySem PySem.Spec PyProof.Rows L2 RZ
def wrT (e:Ent):Str×W:=(e.name,.tup (e.steps.map St.w))
def B5r (es:List Ent):W:=U7 (es.map Ent.la)
def B5j (es:List Ent):W:=U7 (es.map wrT)
structure K3 where
  step:W
  st:List Int
  es:List Ent
def K3.w (k:K3):W:= .tup [k.step,.tup (k.st.map .int),B5r k.es,B5j k.es]
def A9K (ss st:List Int) (es:List Ent) (qp ql:Addr):List (Str×W):=[("sizes",.tup (ss.map .int)),("stand",.tup (st.map .int)),("flats",B5r es),("written",B5j es),("past",.ref qp),("later",.ref ql)]
structure RecAt (h:AH) (m qp ql:Addr) (ss st:List Int) (es:List Ent) (past later:List K3):Prop where
  ob:h m=some (.cont (.map (smap (A9K ss st es qp ql))))
  pa:h qp=some (.cont (.seq (past.map K3.w)))
  la:h ql=some (.cont (.seq (later.map K3.w)))
  ne:qp≠ql
theorem RecAt.same {h h':AH} {m qp ql:Addr} {ss st:List Int} {es:List Ent} {past later:List K3} (R:RecAt h m qp ql ss st es past later) (e1:h' m=h m) (e2:h' qp=h qp) (e3:h' ql=h ql):RecAt h' m qp ql ss st es past later:=⟨e1.trans R.ob,e2.trans R.pa,e3.trans R.la,R.ne⟩
theorem RecAt.grow {h h':AH} {m qp ql:Addr} {ss st:List Int} {es:List Ent} {past later:List K3} (R:RecAt h m qp ql ss st es past later) (g:Grow h h'):RecAt h' m qp ql ss st es past later:=⟨g _ _ R.ob,g _ _ R.pa,g _ _ R.la,R.ne⟩
inductive Ld where
  | undo | redo | write (x:Str) (g:List St) | drop (x:Str) | run (x:Str) (t:Int) | deeds (ds:List Dd)
def Ld.w:Ld→W
  | .undo=> .tup [.str "undo"]
  | .redo=> .tup [.str "redo"]
  | .write x g=> .tup [.str "write",.str x,.tup (g.map St.w)]
  | .drop x=> .tup [.str "drop",.str x]
  | .run x t=> .tup [.str "run",.str x,.int t]
  | .deeds ds=> .tup [.str "do",.tup (ds.map Dd.w)]
def three:List Str:=[("a":Str),("ab":Str),("b":Str)]
def Ld.ok (ss:List Int) (es:List Ent):Ld→Prop
  | .undo=> True
  | .redo=> True
  | .write x g=> x∈three∧g.length≤4∧∀s∈g,s.ok ss∧s.there es
  | .drop x=> x∈three
  | .run x _=> x∈three
  | .deeds ds=> ds.length≤4∧∀d∈ds,d.ok ss
structure GoodEs (ss:List Int) (es:List Ent):Prop where
  un:(es.map Ent.name).Nodup
  nm:∀e∈es,e.name∈three
  ok:A4b es
  st:∀e∈es,∀s∈e.steps,s.ok ss
  dk:∀e∈es,∀d∈e.deeds,d.ok ss
  ln:∀e∈es,e.steps.length≤100
  cl:∀e∈es,∀s∈e.steps,∀n t,s= .call n t→n∈three
theorem GoodEs.le {ss:List Int} {es:List Ent} (G:GoodEs ss es):es.length≤3:=by
  have z:=B4b (es.map Ent.name) three G.un fun x hx=> by
    obtain ⟨e,he,rfl⟩:=List.mem_map.mp hx
    exact G.nm e he
  rw [List.length_map] at z
  exact z
section
variable {Q:RR→AH→Prop} {E:AExc→AH→Prop} {h:AH} {ss st:List Int} {ds:List Dd}
end
section
variable {Q:RR→AH→Prop} {E:AExc→AH→Prop} {h:AH} {ss st:List Int} {m p qp ql:Addr} {es:List Ent} {n:Nat}
theorem C4Z (d:Dd):d.w.dat 59=true:=by
  rw [Dd.w_eq]
  show (W.str d.word::d.rest).all (W.dat 58)=true
  rw [List.all_eq_true]
  intro x hx
  rcases List.mem_cons.mp hx with rfl | hx
  · rfl
  · cases d <;> simp only [Dd.rest,List.mem_cons,List.not_mem_nil,or_false,List.mem_map] at hx
    case swap=> rcases hx with rfl | rfl <;> rfl
    case tap=> rcases hx with rfl | rfl <;> rfl
    case drain=> rcases hx with rfl | rfl <;> rfl
    case over=> rcases hx with rfl | ⟨i,_,rfl⟩ <;> rfl
    case down=> rcases hx with rfl | ⟨i,_,rfl⟩ <;> rfl
theorem C0M {e:Ent} (h:e∈es):(M6 es e.name).isSome=true:=by
  unfold M6
  rw [List.find?_isSome]
  exact ⟨e,h,by simp⟩
end
end Ab
namespace Ab
open PySem PySem.Spec PyProof.Rows L2 RZ
def C41 (ss st:List Int) (es:List Ent) (np nl:Bool):Ld→Option (AExc×Str)
  | .undo=> if np=true then some (A9z,"nothing left") else none
  | .redo=> if nl=true then some (A9z,"nothing left") else none
  | .write x g=> if (M6 es x).isSome=true then some (B1O x,"taken") else if 200 < (g.map (U9 es)).sum then some (tooLong,"too long") else none
  | .drop x=> match M6 es x with
    | none=> some (A2P x,"no round")
    | some _=> match v9 es x with
      | []=> none
      | c::_=> some (B1Y c,"in use")
  | .run x t=> match M6 es x with
    | none=> some (A2P x,"no round")
    | some e=> if 0≤t∧t < B7Z then (match (B1k e.deeds).head?,decide (1 < t) with
        | some k,true=> some (B45 k,"tapped")
        | _,_=> match B6S ss st e.deeds t.toNat with
          | none=> some (B0P,"too many")
          | some _=> none) else some (B4D,"bad times")
  | .deeds ds=> match A6f ss st ds with
    | none=> some (B0P,"too many")
    | some _=> none
section
variable {Q:RR→AH→Prop} {E:AExc→AH→Prop} {h:AH} {ss st:List Int} {m p qp ql:Addr} {es:List Ent} {n:Nat} {past later:List K3}
theorem A99 (un:(es.map Ent.name).Nodup) {e:Ent} (h:e∈es):M6 es e.name=some e:=by
  obtain ⟨f,hf⟩:=Option.isSome_iff_exists.mp (C0M h)
  have fm:=B34 hf
  have fn:f.name=e.name:=by
    have z:=List.find?_some hf
    exact eq_of_beq z
  have:f=e:=by
    obtain ⟨i,hi,rfl⟩:=List.getElem_of_mem fm
    obtain ⟨j,hj,rfl⟩:=List.getElem_of_mem h
    have ij:i=j:=(List.getElem_inj (xs:=es.map Ent.name) (h₀:=by simpa using hi) (h₁:=by simpa using hj) un).mp (by simpa using fn)
    subst ij
    rfl
  rw [hf,this]
def two:St→W
  | .call n _=> .tup [.str "call",.str n]
  | .deed d=> .tup ((W.str d.word::d.rest).take 2)
end
end Ab
namespace Ab
open PySem PySem.Spec PyProof.Rows L2 RZ
section
variable {Q:RR→AH→Prop} {E:AExc→AH→Prop} {h:AH} {ss st:List Int} {m p qp ql:Addr} {es:List Ent} {n:Nat} {past later:List K3}
def nE (es:List Ent) (x:Str) (g:List St):Ent:=⟨x,g,g.flatMap (W0 es)⟩
def C6a (ss st:List Int) (es:List Ent):Ld→List Int
  | .run x t=> (B6S ss st (V5 es x) t.toNat).getD st
  | .deeds ds=> (A6f ss st ds).getD st
  | _=> st
def C6P (es:List Ent):Ld→List Ent
  | .write x g=> es++[nE es x g]
  | .drop x=> A1s es x
  | _=> es
end
end Ab
namespace Ab
open PySem PySem.Spec PyProof.Rows L2 RZ
section
variable {Q:RR→AH→Prop} {E:AExc→AH→Prop} {h:AH} {ss st:List Int} {o b pw pk pp pl:Addr} {es:List Ent} {past later:List Pn}
theorem A94:∀g:List St,l9 (g.map .good)=g
  | []=> rfl
  | s::g=> by rw [List.map_cons,l9,A94 g]
def C5Y (es:List Ent):Ld→W→Int→Prop
  | .write _ _,row,tm=> row= .tup []∧tm=1
  | .drop _,row,tm=> row= .tup []∧tm=1
  | .run x t,row,tm=> row= .tup ((V5 es x).map Dd.w)∧tm=t
  | .deeds ds,row,tm=> row= .tup (ds.map Dd.w)∧tm=1
  | _,_,_=> False
end
end Ab
namespace Ab
open PySem PySem.Spec PyProof.Rows L2 RZ
def z9 (x_self x_other:W):MC:=
  (L7 (tOr (z8 (F8 (B1r "Book" true (eV (.val x_other))))) (F8 (A9 (D4 true) (U8 "Book" "casks" (eV (.val x_self))) (U8 "Book" "casks" (eV (.val x_other)))))) ((eC (.bl false)) ret) ((v4 (A9 (D4 false) (R8 "Book" "names" R5 (eV (.val x_self)) C0) (R8 "Book" "names" R5 (eV (.val x_other)) C0)) (A9 oEqM (U8 "Book" "written" (eV (.val x_self))) (U8 "Book" "written" (eV (.val x_other))))) ret))
def Q1:List W→MC
  | [x_self,x_other]=> z9 x_self x_other
  | _=> bad
section
variable {Q:RR→AH→Prop} {E:AExc→AH→Prop} {h:AH} {ss st:List Int} {a1 a2 b1 b2 pw1 pw2 pk1 pk2 pp1 pp2 pl1 pl2:Addr} {es:List Ent} {s:W} {past1 past2 later1 later2:List Pn}
theorem C36 (s:St):s.w.dat 59=true:=by
  cases s with
  | call n t=> rfl
  | deed d=> exact C4Z d
theorem B5J:u8 (es.map Ent.wr)=true:=by
  unfold u8
  rw [List.all_eq_true]
  intro x hx
  obtain ⟨e,_,rfl⟩:=List.mem_map.mp hx
  show (e.steps.map St.w).all (W.dat 59)=true
  rw [List.all_eq_true]
  intro y hy
  obtain ⟨d,_,rfl⟩:=List.mem_map.mp hy
  exact C36 d
theorem B3y (un:(es.map Ent.name).Nodup):∀l:List Ent,(∀e∈l,e∈es)→A2m (es.map Ent.wr) (l.map Ent.wr)=true
  | [],_=> rfl
  | e::l,h=> by
    rw [List.map_cons]
    unfold A2m
    rw [show (es.map Ent.wr).lookup (Ent.wr e).1=some (.lst (e.steps.map St.w)) by rw [A4B];show (M6 es e.name).map _=_;rw [A99 un (h e (by simp))];rfl]
    show (M8 (.lst (e.steps.map St.w)) (.lst (e.steps.map St.w)) && _)=true
    rw [B3y un l fun x hx=> h x (by simp [hx]),Bool.and_true]
    have p1:(W.lst (e.steps.map St.w)).nb 2=true:=A4L (n:=1) fun y hy=> by
      obtain ⟨s,_,rfl⟩:=List.mem_map.mp hy
      exact s.nb
    exact (eqw_nb 2 _ _ 2 p1 p1).mpr rfl
theorem B4V {f:MC} {K:SV→MC} {v:RR} (e:∀(Q:RR→AH→Prop) (E:AExc→AH→Prop),f h Q E=Q v h):call f K h Q E=K v.sv h Q E:=e _ _
theorem C0U (un:(es.map Ent.name).Nodup) (le:es.length≤100) (sp0:s.plain) (B1:BookAt h b1 s pw1 pk1 es) (B2:BookAt h b2 s pw2 pk2 es) (z:Q (.val (.bl true)) h):Q1 [.ref b1,.ref b2] h Q E:=by
  show z9 _ _ h Q E
  unfold z9
  conv=> fun;fun;fun;simp only [↓X5,↓X0,↓A8n,↓C7,↓E8,↓G5,↓G4,↓K7,↓V8,↓n5,↓V7,↓M1,if_true]
  rw [B0M B2.ob]
  conv=> fun;fun;fun;simp only [↓E9,if_false,Bool.not_true,Bool.false_eq_true]
  rw [A1W B1]
  conv=> fun;fun;fun;simp only []
  rw [A1W B2]
  conv=> fun;fun;fun;simp only []
  rw [A6a (sp sp0) (sp sp0),decide_eq_true rfl,if_neg (by simp),O6 B1 rfl,B4V (fun Q E=> A2J B1),O6 B2 rfl,B4V (fun Q E=> A2J B2)]
  have pn:(Cont.seq (es.map fun e=> W.str e.name)).fz.plain:=(A2Y 0 (by omega) fun x hx=> by
    obtain ⟨e,_,rfl⟩:=List.mem_map.mp hx
    rfl:(W.lst (es.map fun e=> W.str e.name)).plain)
  show (E4 (D4 false) (.own (.seq (es.map fun e=> W.str e.name))) (.own (.seq (es.map fun e=> W.str e.name))) fun r=> V2 r fun c=> _) h Q E
  rw [o4 (Ab.so pn) (Ab.so pn),decide_eq_true rfl,if_pos rfl,A1R B1,A1R B2]
  refine ⟨es.map Ent.wr,es.map Ent.wr,by rw [A3W B1.wr];rfl,by rw [A3W B2.wr];rfl,B5J,B5J,?_⟩
  rw [B3y un es fun e h=> h,beq_self_eq_true]
  exact z
end
end Ab
namespace Ab
open PySem PySem.Spec PyProof.Rows L2 RZ
section
variable {k:SV→MC} {l:List Nat}
end
end Ab
namespace Ab
open PySem PySem.Spec PyProof.Rows L2 RZ
theorem A4K {n:Nat} {i:Int}:(W.int i).sm n=true:=by cases n <;> rfl
theorem A6F {n:Nat} {x:Str}:(W.str x).sm n=true:=by cases n <;> rfl
theorem B5n {d:Dd} {n:Nat} (l:d.rest.length≤1000):d.w.sm (n+1)=true:=by
  rw [Dd.w_eq]
  refine B5q (by rw [List.length_cons];omega) fun x hx=> ?_
  rcases List.mem_cons.mp hx with rfl | hx
  · exact A6F
  · cases d <;> simp only [Dd.rest,List.mem_cons,List.not_mem_nil,or_false,List.mem_map] at hx
    case swap=> rcases hx with rfl | rfl <;> exact A4K
    case tap=> rcases hx with rfl | rfl <;> exact A4K
    case drain=> rcases hx with rfl | rfl <;> exact A4K
    case over=> rcases hx with rfl | ⟨i,_,rfl⟩ <;> exact A4K
    case down=> rcases hx with rfl | ⟨i,_,rfl⟩ <;> exact A4K
theorem C4I {ss:List Int} {s:St} {n:Nat} (hs:P9 ss) (h:s.ok ss):s.w.sm (n+1)=true:=by
  cases s with
  | call c t=>
    refine B5q (by simp) fun x hx=> ?_
    simp only [List.mem_cons,List.not_mem_nil,or_false] at hx
    rcases hx with rfl | rfl | rfl
    · exact A6F
    · exact A6F
    · exact A4K
  | deed d=> exact B5n (Dd.w_len d ss hs h)
structure En where
  step:W
  row:W
  tm:Int
  st:List Int
  bk:Addr
  pw:Addr
  pk:Addr
  es:List Ent
def En.pn (e:En):Pn:=⟨e.step,e.row,e.tm,e.st,e.bk⟩
def En.k3 (e:En):K3:=⟨e.step,e.st,e.es⟩
structure EnAt (h:AH) (ss:List Int) (e:En):Prop where
  bk:BookAt h e.bk (.tup (ss.map .int)) e.pw e.pk e.es
  ge:GoodEs ss e.es
  so:StOk ss e.st
  sm:∀n,e.step.sm (n+3)=true
structure Twin (h:AH) (ss:List Int) (p o m b pw pk pp pl qp ql:Addr) (st:List Int) (es:List Ent) (P F:List En):Prop where
  lo:LoftAt h o ss st b pp pl (P.map En.pn) (F.map En.pn)
  re:RecAt h m qp ql ss st es (P.map En.k3) (F.map En.k3)
  bo:BookAt h b (.tup (ss.map .int)) pw pk es
  so:StOk ss st
  ge:GoodEs ss es
  en:∀e∈P++F,EnAt h ss e
  bg:∃n,Bag n h p
  un:[p,pp,pl,qp,ql].Nodup
def C54 (ss:List Int) (es:List Ent):Ld→Prop
  | .run x t=> (∃e,M6 es x=some e∧((B1k e.deeds).head?≠none→t≤1))∧0≤t∧t < B7Z
  | .deeds ds=> ds.length≤4∧∀d∈ds,d.ok ss
  | _=> True
def RwE (ss st:List Int) (es:List Ent) (st':List Int) (es':List Ent) (step row:W) (tm:Int):Prop:=∃d:Ld,step=d.w∧C5Y es d row tm∧C54 ss es d∧(d≠ .undo∧d≠ .redo)∧d.ok ss es∧C41 ss st es false false d=none∧st'=C6a ss st es d∧es'=C6P es d
inductive ChainP (ss st0:List Int):List En→List Int→List Ent→Prop
  | nil:ChainP ss st0 [] st0 []
  | snoc (P:List En) (e:En) (st:List Int) (es:List Ent):RwE ss e.st e.es st es e.step e.row e.tm→ChainP ss st0 P e.st e.es→ChainP ss st0 (P++[e]) st es
inductive ChainF (ss:List Int):List Int→List Ent→List En→Prop
  | nil (st:List Int) (es:List Ent):ChainF ss st es []
  | snoc (st:List Int) (es:List Ent) (F:List En) (f:En):RwE ss st es f.st f.es f.step f.row f.tm→ChainF ss f.st f.es F→ChainF ss st es (F++[f])
theorem ChainF.last {ss st:List Int} {es:List Ent} {F:List En} {f:En} (c:ChainF ss st es (F++[f])):RwE ss st es f.st f.es f.step f.row f.tm∧ChainF ss f.st f.es F:=by
  generalize e:F++[f]=G at c
  cases c with
  | nil=> simp at e
  | snoc _ _ F' f' r c2=>
    obtain ⟨e1,e2⟩:=List.append_inj' e rfl
    injection e2 with e2
    subst e1 e2
    exact ⟨r,c2⟩
theorem ChainP.last {ss st0 st:List Int} {es:List Ent} {F:List En} {f:En} (c:ChainP ss st0 (F++[f]) st es):RwE ss f.st f.es st es f.step f.row f.tm∧ChainP ss st0 F f.st f.es:=by
  generalize e:F++[f]=G at c
  cases c with
  | nil=> simp at e
  | snoc F' f' _ _ r c2=>
    obtain ⟨e1,e2⟩:=List.append_inj' e rfl
    injection e2 with e2
    subst e1 e2
    exact ⟨r,c2⟩
structure Links (ss st0:List Int) (es:List Ent) (st:List Int) (P F:List En):Prop where
  cp:ChainP ss st0 P st es
  cf:ChainF ss st es F
theorem at_ne {h:AH} {x y:Addr} {u v:AO} (e1:h x=some u) (e2:h y=some v) (n:u≠v):x≠y:=fun e=> n (by rw [e,e2] at e1;exact (Option.some.inj e1).symm)
section
variable {Q:RR→AH→Prop} {E:AExc→AH→Prop} {h h':AH} {ss st:List Int} {p o m b pw pk pp pl qp ql:Addr} {es:List Ent} {P F:List En} {n:Nat}
theorem Off.lo {S:List Addr} {past later:List Pn} (f:Off S h h') (L:LoftAt h o ss st b pp pl past later) (n:o∉S∧pp∉S∧pl∉S):LoftAt h' o ss st b pp pl past later:=⟨f _ _ L.ob n.1,f _ _ L.pa n.2.1,f _ _ L.la n.2.2,L.ne⟩
theorem Off.re {S:List Addr} {past later:List K3} (f:Off S h h') (R:RecAt h m qp ql ss st es past later) (n:m∉S∧qp∉S∧ql∉S):RecAt h' m qp ql ss st es past later:=⟨f _ _ R.ob n.1,f _ _ R.pa n.2.1,f _ _ R.la n.2.2,R.ne⟩
theorem Bag.at_ (B:Bag n h p):∃ws,h p=some (.cont (.seq ws)):=let ⟨ns,i,x,y,c,a1,a⟩:=B;⟨_,a1⟩
theorem Twin.book (T:Twin h ss p o m b pw pk pp pl qp ql st es P F) {c qw qk:Addr} {fs:List Ent} (B:BookAt h c (.tup (ss.map .int)) qw qk fs) (l:fs.length≤3):∀x∈[p,o,m,pp,pl,qp,ql],c≠x∧qw≠x∧qk≠x:=by
  obtain ⟨n,bg⟩:=T.bg
  obtain ⟨ws,ep⟩:=bg.at_
  have o2:(AO.ins "Book" [("casks",.tup (ss.map .int)),("written",.ref qw),("laid",.ref qk)])≠ .ins "Loft" (A8m ss st b pp pl):=fun e=> by
    injection e with e _
    revert e
    show ¬Str.ofString _=Str.ofString _
    rw [A1d];decide
  have m2:∀{f:Ent→Str×W},(AO.cont (.map (smap (fs.map f))))≠ .cont (.map (smap (A9K ss st es qp ql))):=fun {f} e=> by
    injection e with e
    injection e with e
    have z:=congrArg List.length (A3L e)
    rw [List.length_map] at z
    have z:fs.length=6:=z
    omega
  intro x hx
  simp only [List.mem_cons,List.not_mem_nil,or_false] at hx
  rcases hx with rfl | rfl | rfl | rfl | rfl | rfl | rfl
  · exact ⟨at_ne B.ob ep (fun e=> by cases e),at_ne B.wr ep (fun e=> by cases e),at_ne B.la ep (fun e=> by cases e)⟩
  · exact ⟨at_ne B.ob T.lo.ob o2,at_ne B.wr T.lo.ob (fun e=> by cases e),at_ne B.la T.lo.ob (fun e=> by cases e)⟩
  · exact ⟨at_ne B.ob T.re.ob (fun e=> by cases e),at_ne B.wr T.re.ob m2,at_ne B.la T.re.ob m2⟩
  · exact ⟨at_ne B.ob T.lo.pa (fun e=> by cases e),at_ne B.wr T.lo.pa (fun e=> by cases e),at_ne B.la T.lo.pa (fun e=> by cases e)⟩
  · exact ⟨at_ne B.ob T.lo.la (fun e=> by cases e),at_ne B.wr T.lo.la (fun e=> by cases e),at_ne B.la T.lo.la (fun e=> by cases e)⟩
  · exact ⟨at_ne B.ob T.re.pa (fun e=> by cases e),at_ne B.wr T.re.pa (fun e=> by cases e),at_ne B.la T.re.pa (fun e=> by cases e)⟩
  · exact ⟨at_ne B.ob T.re.la (fun e=> by cases e),at_ne B.wr T.re.la (fun e=> by cases e),at_ne B.la T.re.la (fun e=> by cases e)⟩
theorem Twin.bkOff (T:Twin h ss p o m b pw pk pp pl qp ql st es P F) {S:List Addr} (f:Off S h h') (sub:∀x∈S,x∈[p,o,m,pp,pl,qp,ql]) {c qw qk:Addr} {fs:List Ent} (B:BookAt h c (.tup (ss.map .int)) qw qk fs) (l:fs.length≤3):BookAt h' c (.tup (ss.map .int)) qw qk fs:=
  f.bk B (fun z=> (T.book B l _ (sub _ z)).1 rfl) (fun z=> (T.book B l _ (sub _ z)).2.1 rfl) (fun z=> (T.book B l _ (sub _ z)).2.2 rfl)
theorem Twin.enOff (T:Twin h ss p o m b pw pk pp pl qp ql st es P F) {S:List Addr} (f:Off S h h') (sub:∀x∈S,x∈[p,o,m,pp,pl,qp,ql]):∀e∈P++F,EnAt h' ss e:=fun e he=>
  let A:=T.en e he
  ⟨T.bkOff f sub A.bk A.ge.le,A.ge,A.so,A.sm⟩
theorem Twin.all (T:Twin h ss p o m b pw pk pp pl qp ql st es P F):[p,o,m,pp,pl,qp,ql].Nodup:=by
  obtain ⟨n,bg⟩:=T.bg
  obtain ⟨ws,ep⟩:=bg.at_
  have un:=T.un
  have c1:∀{ws:List W},(AO.ins "Loft" (A8m ss st b pp pl))≠ .cont (.seq ws):=fun e=> by cases e
  have c2:∀{ws:List W},(AO.cont (.map (smap (A9K ss st es qp ql))))≠ .cont (.seq ws):=fun e=> by cases e
  have c3:(AO.ins "Loft" (A8m ss st b pp pl))≠ .cont (.map (smap (A9K ss st es qp ql))):=fun e=> by cases e
  simp only [List.nodup_cons,List.mem_cons,List.not_mem_nil,or_false,not_or,List.nodup_nil,and_true,not_false_eq_true] at un ⊢
  obtain ⟨⟨a1,a2,a3,a4⟩,⟨a5,a6,a7⟩,⟨a8,a9⟩,a10⟩:=un
  exact ⟨⟨(at_ne T.lo.ob ep c1).symm,(at_ne T.re.ob ep c2).symm,a1,a2,a3,a4⟩,⟨at_ne T.lo.ob T.re.ob c3,at_ne T.lo.ob T.lo.pa c1,at_ne T.lo.ob T.lo.la c1,at_ne T.lo.ob T.re.pa c1,at_ne T.lo.ob T.re.la c1⟩,
    ⟨at_ne T.re.ob T.lo.pa c2,at_ne T.re.ob T.lo.la c2,at_ne T.re.ob T.re.pa c2,at_ne T.re.ob T.re.la c2⟩,⟨a5,a6,a7⟩,⟨a8,a9⟩,a10⟩
theorem Twin.grow (T:Twin h ss p o m b pw pk pp pl qp ql st es P F) (g:Grow h h'):Twin h' ss p o m b pw pk pp pl qp ql st es P F:=
  ⟨g.lo T.lo,T.re.grow g,g.bk T.bo,T.so,T.ge,fun e he=> let A:=T.en e he;⟨g.bk A.bk,A.ge,A.so,A.sm⟩,let ⟨n,b⟩:=T.bg;⟨n,b.grow g⟩,T.un⟩
theorem Twin.bt (T:Twin h ss p o m b pw pk pp pl qp ql st es P F) (t:Bt p h h') (bg:Bag n h' p):Twin h' ss p o m b pw pk pp pl qp ql st es P F:=by
  have f:Off [p] h h':=fun x u e n=> (t x (by simpa using n)).trans e
  have al:=T.all
  simp only [List.nodup_cons,List.mem_cons,List.not_mem_nil,or_false,not_or] at al
  obtain ⟨⟨a1,a2,a3,a4,a5,a6⟩,_⟩:=al
  have s:∀x∈[p],x∈[p,o,m,pp,pl,qp,ql]:=by simp
  exact ⟨f.lo T.lo ⟨by simpa using Ne.symm a1,by simpa using Ne.symm a3,by simpa using Ne.symm a4⟩,f.re T.re ⟨by simpa using Ne.symm a2,by simpa using Ne.symm a5,by simpa using Ne.symm a6⟩,T.bkOff f s T.bo T.ge.le,T.so,T.ge,T.enOff f s,⟨n,bg⟩,T.un⟩
end
section
variable {ss st:List Int} {es:List Ent} {np nl:Bool}
end
inductive Xw:AExc→Str→Prop
  | nl:Xw A9z "nothing left"
  | tk (x:Str):Xw (B1O x) "taken"
  | tl:Xw tooLong "too long"
  | nr (x:Str):Xw (A2P x) "no round"
  | iu (x:Str):Xw (B1Y x) "in use"
  | bt:Xw B4D "bad times"
  | tp (k:Nat):Xw (B45 k) "tapped"
  | tm:Xw B0P "too many"
  | nd (i:Int):Xw (C4s i) "no drop"
section
variable {Q:RR→AH→Prop} {E:AExc→AH→Prop} {h:AH}
end
end Ab
namespace Ab
open PySem PySem.Spec PyProof.Rows L2 RZ
def A41 (x_mbook:W):MC:=
  ((o6 (w8 (A0 (R8 "Book" "names" R5 (eV (.val x_mbook)) C0))) fun x_mname kk=> o5 tYes (A0 (O1 (A4 (A0 (eV (.val x_mname))) (A4 (A0 (A2Z "Book" "steps" o7 (eV (.val x_mbook)) (A4 (A0 (eV (.val x_mname))) C0))) (A4 (A0 (A2Z "Book" "flat" o9 (eV (.val x_mbook)) (A4 (A0 (eV (.val x_mname))) C0))) (A4 (A0 (A2Z "Book" "callers" W4 (eV (.val x_mbook)) (A4 (A0 (eV (.val x_mname))) C0))) C0)))))) kk) ret)
def o8:List W→MC
  | [x_mbook]=> A41 x_mbook
  | _=> bad
def A4l (x_mbook:W):MC:=
  ((o6 (w8 (A0 (R8 "Book" "names" R5 (eV (.val x_mbook)) C0))) fun x_mname kk=> o5 tYes (A0 (O1 (A4 (A0 (eV (.val x_mname))) (A4 (u7 (A2Z "Book" "steps" o7 (eV (.val x_mbook)) (A4 (A0 (eV (.val x_mname))) C0))) (A4 (u7 (A2Z "Book" "flat" o9 (eV (.val x_mbook)) (A4 (A0 (eV (.val x_mname))) C0))) (A4 (u7 (A2Z "Book" "callers" W4 (eV (.val x_mbook)) (A4 (A0 (eV (.val x_mname))) C0))) C0)))))) kk) ret)
def A2v:List W→MC
  | [x_mbook]=> A4l x_mbook
  | _=> bad
def A4n (x_msizes x_rows:W):MC:=
  ((A0 (A1l "Book" P4 (A4 (A0 (eV (.val x_msizes))) C0))) fun x_mbook=> (A11 (w8 (A0 (eV (.val x_rows)))) () (fun w6 (s1:Unit) kn3 kb4=> un2 w6 fun x_mname x_msteps=> ((R8 "Book" "write" g8 (eV (.val x_mbook)) (A4 (A0 (eV (.val x_mname))) (A4 (A0 (eV (.val x_msteps))) C0))) fun _=> (kn3 ()))) fun (s1:Unit)=> ((eV (.val x_mbook)) ret)))
def d8:List W→MC
  | [x_msizes,x_rows]=> A4n x_msizes x_rows
  | _=> bad
def A6C (x_script:W):MC:=
  ((G6 A28 (A4 (A0 (eV (.val x_script))) C0)) fun x_bag=> (A4a x_bag fun x_bag=> ((A0 (G6 A2y (A4 (A0 (eV (.val x_bag))) C0))) fun x_msizes=> ((A0 (G6 A3C (A4 (A0 (eV (.val x_bag))) (A4 (A0 (eV (.val x_msizes))) (A4 (A0 (eC (.int 4))) (A4 (A0 (eC (.bl true))) C0)))))) fun x_mdeeds=> ((A0 (O1 (A4 (A0 (R1 (A4 (A0 (eC (.str ("ab":Str)))) (A4 (A0 (eV (.val x_mdeeds))) C0)))) (A4 (A0 (R1 (A4 (A0 (eC (.str ("b":Str)))) (A4 (A0 (A9 oAdd (O1 (A4 (A0 (R1 (A4 (A0 (eC (.str ("call":Str)))) (A4 (A0 (eC (.str ("ab":Str)))) (A4 (A0 (eC (.int 2))) C0))))) C0)) (eSl (eV (.val x_mdeeds)) oNo (A1o (eC (.int 1)))))) C0)))) (A4 (A0 (R1 (A4 (A0 (eC (.str ("ba":Str)))) (A4 (A0 (eSl (eV (.val x_mdeeds)) (A1o (eC (.int 1))) oNo)) C0)))) C0))))) fun x_rows=> ((A0 (G6 d8 (A4 (A0 (eV (.val x_msizes))) (A4 (A0 (eV (.val x_rows))) C0)))) fun x_mbook=> ((A0 (O1 (A4 (A0 (eV (.val x_mbook))) (A4 (A0 (R8 "Book" "twin" m9 (eV (.val x_mbook)) C0)) (A4 (A0 (R8 "Book" "twin" m9 (R8 "Book" "twin" m9 (eV (.val x_mbook)) C0) C0)) (A4 (A0 (G6 d8 (A4 (A0 (eV (.val x_msizes))) (A4 (A0 (eV (.val x_rows))) C0)))) C0)))))) fun x_twins=> ((A0 (G6 o8 (A4 (A0 (eV (.val x_mbook))) C0))) fun x_kept=> (A11 (w8 (A0 (eV (.val x_twins)))) () (fun x_mone (s1:Unit) kn3 kb4=> (L7 (tOr (z8 (F8 (F6 A1M (D7 (o6 (w8 (A0 (eV (.val x_twins)))) fun x_mother kk=> o5 tYes (A0 (v4 (A2s "Book" false Q1 (eV (.val x_mone)) (eV (.val x_mother))) (A9G (A2s "Book" true Q1 (eV (.val x_mone)) (eV (.val x_mother)))))) kk) E7)))) (z8 (F8 (G6 (m__law_same 8) (A4 (A0 (G6 o8 (A4 (A0 (eV (.val x_mone))) C0))) (A4 (A0 (eV (.val x_kept))) C0)))))) ((eC (.bl false)) ret) (kn3 ()))) fun (s1:Unit)=> (A11 (w8 (A0 (A9 oAdd (G6 A2v (A4 (A0 (eV (.val x_mbook))) C0)) (O1 (A4 (A0 (O1 (A4 (A0 (eC (.str ("":Str)))) (A4 (u7 (R8 "Book" "names" R5 (eV (.val x_mbook)) C0)) (A4 (u7 (O1 C0)) (A4 (u7 (O1 C0)) C0)))))) C0))))) () (fun x_row_here (s6:Unit) kn8 kb9=> (lmE Q5 (A9 oIx (eV (.val x_row_here)) (eC (.int 1))) (A4 (A0 (eC (.str ("":Str)))) C0) ((lmE Q5 (A9 oIx (eV (.val x_row_here)) (eC (.int 2))) (A4 (A0 (eC (.str ("":Str)))) C0) ((lmE Q5 (A9 oIx (eV (.val x_row_here)) (eC (.int 3))) (A4 (A0 (eC (.str ("":Str)))) C0) ((kn8 ())))))))) fun (s6:Unit)=> (L7 (tOr (z8 (F8 (G6 (m__law_same 8) (A4 (A0 (G6 o8 (A4 (A0 (eV (.val x_mbook))) C0))) (A4 (A0 (eV (.val x_kept))) C0))))) (F8 (A9 (D4 true) (R8 "Book" "names" R5 (eV (.val x_mbook)) C0) (O1 (A4 (A0 (eC (.str ("ab":Str)))) (A4 (A0 (eC (.str ("b":Str)))) (A4 (A0 (eC (.str ("ba":Str)))) C0))))))) ((eC (.bl false)) ret) ((A0 (G6 G7 (A4 (A0 (eV (.val x_bag))) (A4 (A0 (eC (.int 4))) C0)))) fun x_at=> (join (fun (s11:Unit)=> (A11 (A2f (D7 (eC (.int 4)) E7)) () (fun x_k (s13:Unit) kn15 kb16=> (L7 (tOr (F8 (A9 (D4 true) (A9 (D4 false) (G6 o8 (A4 (A0 (A9 oIx (eV (.val x_twins)) (eV (.val x_k)))) C0)) (eV (.val x_kept))) (A9 (D4 true) (eV (.val x_k)) (eV (.val x_at))))) (F8 (A9 (D4 true) (A2s "Book" false Q1 (A9 oIx (eV (.val x_twins)) (eV (.val x_k))) (A9 oIx (eV (.val x_twins)) (eV (.val x_at)))) (A9 (D4 false) (eV (.val x_k)) (eV (.val x_at)))))) ((eC (.bl false)) ret) (kn15 ()))) fun (s13:Unit)=> ((A0 (G6 d8 (A4 (A0 (eV (.val x_msizes))) (A4 (A0 (O1 (A4 (A0 (A9 oIx (eV (.val x_rows)) (eC (.int 0)))) (A4 (A0 (A9 oIx (eV (.val x_rows)) (eC (.int 2)))) (A4 (A0 (A9 oIx (eV (.val x_rows)) (eC (.int 1)))) C0))))) C0)))) fun x_turned=> ((O1 (A4 (A0 (eV (.val x_turned))) (A4 (A0 (G6 d8 (A4 (A0 (eV (.val x_msizes))) (A4 (A0 (eSl (eV (.val x_rows)) oNo (A1o (eC (.int 2))))) C0)))) (A4 (A0 (A1l "Book" P4 (A4 (A0 (eV (.val x_msizes))) C0))) C0)))) fun x_others=> (lmC Q5 x_others (A4 (A0 (G6 d8 (A4 (A0 (A9 oAdd (R1 (A4 (A0 (A9 oAdd (A9 S0 (A9 oIx (eV (.val x_msizes)) (eC (.int 0))) (eC (.int 40))) (eC (.int 1)))) C0)) (eSl (eV (.val x_msizes)) (A1o (eC (.int 1))) oNo))) (A4 (A0 (O1 (A4 (A0 (R1 (A4 (A0 (eC (.str ("a":Str)))) (A4 (A0 (O1 C0)) C0)))) C0))) C0)))) C0) fun x_others _=> (L7 (tOr (F8 (F6 A4Z (D7 (o6 (w8 (A0 (eV (.val (SV.fz x_others))))) fun x_mother kk=> o5 tYes (A0 (A2s "Book" false Q1 (eV (.val x_mother)) (A9 oIx (eV (.val x_twins)) (A9 u9 (eV (.val x_at)) (eC (.int 1)))))) kk) E7))) (F8 (A2s "Book" false Q1 (A1l "Book" P4 (A4 (A0 (R1 (A4 (A0 (eC (.int 1))) (A4 (A0 (eC (.int 2))) C0)))) C0)) (A1l "Book" P4 (A4 (A0 (R1 (A4 (A0 (eC (.int 2))) (A4 (A0 (eC (.int 1))) C0)))) C0))))) ((eC (.bl false)) ret) ((v4 (A2s "Book" false Q1 (B01 "Book" P4 0 1 [0,1] [] C0 (A4 (A0 (eV (.val x_msizes))) C0)) (A1l "Book" P4 (A4 (A0 (eV (.val x_msizes))) C0))) (v4 (A9I "Book" true Q1 (A1l "Book" P4 (A4 (A0 (eV (.val x_msizes))) C0)) (A0 (O1 C0))) (A9I "Book" true Q1 (A9 oIx (eV (.val x_twins)) (A9 u9 (eV (.val x_at)) (eC (.int 1)))) (A0 (eV (.val x_rows)))))) ret))))))) fun kj19=> (L7 (F8 (A9 (D4 false) (G6 G7 (A4 (A0 (eV (.val x_bag))) (A4 (A0 (eC (.int 2))) C0))) (eC (.int 0)))) ((R8 "Book" "write" g8 (A9 oIx (eV (.val x_twins)) (eV (.val x_at))) (A4 (A0 (eC (.str ("c":Str)))) (A4 (A0 (O1 (A4 (A0 (R1 (A4 (A0 (eC (.str ("call":Str)))) (A4 (A0 (eC (.str ("b":Str)))) (A4 (A0 (eC (.int 1))) C0))))) C0))) C0))) fun _=> (kj19 ())) ((R8 "Book" "drop" A2G (A9 oIx (eV (.val x_twins)) (eV (.val x_at))) (A4 (A0 (eC (.str ("b":Str)))) C0)) fun _=> (kj19 ()))))))))))))))))
def m_law:List W→MC
  | [x_script]=> A6C x_script
  | _=> bad
end Ab
namespace Ab
open PySem PySem.Spec PyProof.Rows L2 RZ
def A4S (ss:List Int) (es:List Ent) (g:List St):Prop:=∀s∈g,match s with
  | .call n t=> n∈es.map Ent.name∧t≤3
  | .deed d=> d.ok ss
theorem B3b {es:List Ent}:∀{g:List St} {i:Nat},(∀s∈g,s.there es)→((g.map Sw.good).zipIdx i).findSome? (fun p=> A07 es (p.2:Int) p.1)=none
  | [],_,_=> rfl
  | s::g,i,ht=> by
    rw [List.map_cons,List.zipIdx_cons,List.findSome?_cons]
    have a:A07 es (i:Int) (.good s)=none:=by
      cases s with
      | deed d=> rfl
      | call n t=> show (if (M6 es n).isSome=true then none else some (A2P n))=none;exact if_pos (ht (.call n t) (by simp))
    rw [a]
    exact B3b fun s' h=> ht s' (List.mem_cons_of_mem _ h)
theorem C1e {es:List Ent} {n:Str} (h:n∈es.map Ent.name):(M6 es n).isSome=true:=by
  unfold M6
  rw [List.find?_isSome]
  obtain ⟨e,he,rfl⟩:=List.mem_map.mp h
  exact ⟨e,he,beq_self_eq_true _⟩
theorem C2D {es:List Ent} {n:Str} (h:n∉es.map Ent.name):M6 es n=none:=by
  unfold M6
  rw [List.find?_eq_none]
  exact fun e he z=> h (List.mem_map.mpr ⟨e,he,eq_of_beq z⟩)
theorem C0b {ss:List Int} {es:List Ent} {x:Str} {g:List St} (xi:l7 x=true) (xn:x∉es.map Ent.name) (l5:es.length < 12) (gg:A4S ss es g) (tot:(g.map (U9 es)).sum≤200):A5s es x (g.map Sw.good)=none:=by
  have th:∀s∈g,s.there es:=fun s hs=> by
    have z:=gg s hs
    cases s with
    | deed d=> trivial
    | call n t=> exact C1e z.1
  unfold A5s A3e B0E A3R
  rw [B3b th,A94,xi,C2D xn,if_neg (by simp),if_neg (by simp),if_neg (by omega)]
  show (if 200 < (g.map (U9 es)).sum then some tooLong else none)=none
  rw [if_neg (by omega)]
section
variable {Q:RR→AH→Prop} {E:AExc→AH→Prop} {h:AH} {ss:List Int}
theorem A4C {f:MC} {K:SV→MC} {v:RR} (e:∀(Q:RR→AH→Prop) (E:AExc→AH→Prop),f h Q E=Q v h):call f K h Q E=K v.sv h Q E:=e _ _
theorem A3E {k:SV→MC} (hs:P9 ss) (z:∀a pw pk h',h a=none→h pw=none→h pk=none→Grow h h'→BookAt h' a (.tup (ss.map .int)) pw pk []→k (.val (.ref a)) h' Q E):mkX "Book" (fun a=> P4 [.ref a,.tup (ss.map .int)]) k h Q E:=by
  intro a na
  refine B3x hs M2 fun pw pk h' npw npk fr B=> ⟨rfl,?_⟩
  have un:∀{x:Addr},(C6 h a (.ins "Book" [])) x=none→h x=none:=fun {x} e=> by
    have xa:x≠a:=fun z=> by rw [z,M2] at e;cases e
    rwa [F7 xa] at e
  refine z a pw pk h' na (un npw) (un npk) (fun q u e=> ?_) B
  have ne:∀{x:Addr},h x=none→q≠x:=fun n z=> by rw [z,n] at e;cases e
  rw [fr q (ne na) (ne (un npw)) (ne (un npk)),F7 (ne na)]
  exact e
abbrev Rw:=Str×List St
def Rw.w (r:Rw):W:= .tup [.str r.1,.lst (r.2.map St.w)]
def O4 (es:List Ent) (r:Rw):List Ent:=es++[⟨r.1,r.2,r.2.flatMap (W0 es)⟩]
def A3j (ss:List Int) (es:List Ent):List Rw→Prop
  | []=> True
  | r::rs=> (l7 r.1=true∧r.1.length≤8∧r.1∉es.map Ent.name∧es.length < 12∧A4S ss es r.2∧r.2.length≤100∧(r.2.map (U9 es)).sum≤200)∧A3j ss (O4 es r) rs
structure Gb (ss:List Int) (es:List Ent):Prop where
  un:(es.map Ent.name).Nodup
  ok:A4b es
  st:∀e∈es,e.steps.length≤1000∧∀s∈e.steps,s.ok ss
  le:es.length≤12
theorem B6J:Gb ss []:=⟨List.nodup_nil,(fun e h=> by cases h),(fun e h=> by cases h),by simp⟩
theorem B6U {es:List Ent} {g:List St} (gg:A4S ss es g):∀s∈g,s.ok ss:=fun s hs=> by
  have z:=gg s hs
  cases s with
  | call n t=> exact Nat.le_trans z.2 (by decide)
  | deed d=> exact z
theorem B5h {es:List Ent} {r:Rw} (G:Gb ss es) (hr:l7 r.1=true∧r.1.length≤8∧r.1∉es.map Ent.name∧es.length < 12∧A4S ss es r.2∧r.2.length≤100∧(r.2.map (U9 es)).sum≤200):Gb ss (O4 es r):=by
  obtain ⟨_,_,nn,l12,gg,l100,tot⟩:=hr
  have mem:∀e∈O4 es r,e∈es∨e=⟨r.1,r.2,r.2.flatMap (W0 es)⟩:=fun e he=> by simpa [O4] using he
  refine ⟨?_,fun e he=> ?_,fun e he=> ?_,by unfold O4;rw [List.length_append,List.length_singleton];omega⟩
  · unfold O4
    rw [List.map_append,List.nodup_append]
    refine ⟨G.un,by simp,fun a ha b hb=> ?_⟩
    rw [List.map_singleton,List.mem_singleton] at hb
    subst hb
    exact fun z=> nn (by rw [show a=r.1 from z] at ha;exact ha)
  · rcases mem e he with h | rfl
    · exact G.ok e h
    · refine ⟨?_,by show r.2.length≤1000;omega⟩
      show (r.2.flatMap (W0 es)).length≤200
      rw [List.length_flatMap]
      rw [show (r.2.map fun s=> (W0 es s).length)=r.2.map (U9 es) from List.map_congr_left fun s _=> B5G es s]
      exact tot
  · rcases mem e he with h | rfl
    · exact G.st e h
    · exact ⟨by show r.2.length≤1000;omega,B6U gg⟩
theorem B3p {es:List Ent} {r:Rw} {b pw pk:Addr} (hs:P9 ss) (G:Gb ss es) (hr:l7 r.1=true∧r.1.length≤8∧r.1∉es.map Ent.name∧es.length < 12∧A4S ss es r.2∧r.2.length≤100∧(r.2.map (U9 es)).sum≤200) (B:BookAt h b (.tup (ss.map .int)) pw pk es)
    (z:∀h',(∀q,q≠pw→q≠pk→h' q=h q)→BookAt h' b (.tup (ss.map .int)) pw pk (O4 es r)→Q (.val .non) h'):g8 [.ref b,.str r.1,.lst (r.2.map St.w)] h Q E:=by
  obtain ⟨nm,l8,nn,l12,gg,l100,tot⟩:=hr
  have we:A5s es r.1 (r.2.map Sw.good)=none:=C0b nm nn l12 gg tot
  have ne:A8e es r.1 (r.2.map Sw.good)=⟨r.1,r.2,r.2.flatMap (W0 es)⟩:=by unfold A8e;rw [A94]
  rw [C2C (xs:=r.2.map Sw.good) (by omega) hs G.ok (fun y hy=> by obtain ⟨s,hs',rfl⟩:=List.mem_map.mp hy;exact B6U gg s hs') (by rw [List.length_map];omega) (.inl (by rw [List.map_map];rfl)) (fun a e=> by cases e) B,we,ne]
  refine z _ (fun q q1 q2=> by rw [F7 q2,F7 q1]) ⟨by rw [F7 B.nbl,F7 B.nbw];exact B.ob,by rw [F7 B.ne,M2];rfl,by rw [M2];rfl,B.ne⟩
theorem B5A {K:Unit→MC} {body:W→Unit→(Unit→MC)→(Unit→MC)→MC} {b pw pk:Addr} (hs:P9 ss) (hb:body=fun w6 (s1:Unit) kn3 kb4=> un2 w6 fun x y=> W2 "Book" "write" (.val (.ref b)) fun a=> call (g8 [.ref a,x,y]) fun _=> kn3 ()):
    ∀(rs:List Rw) (es:List Ent) (h:AH),Gb ss es→A3j ss es rs→BookAt h b (.tup (ss.map .int)) pw pk es→(∀h',(∀q,q≠pw→q≠pk→h' q=h q)→BookAt h' b (.tup (ss.map .int)) pw pk (rs.foldl O4 es)→Gb ss (rs.foldl O4 es)→K () h' Q E)→m7 body K (rs.map Rw.w) () h Q E
  | [],es,h,G,_,B,z=> z h (fun _ _ _=> rfl) B G
  | r::rs,es,h,G,hr,B,z=> by
    have G2:=B5h G hr.1
    have e:body r.w () (m7 body K (rs.map Rw.w)) K=W2 "Book" "write" (.val (.ref b)) fun a=> call (g8 [.ref a,.str r.1,.lst (r.2.map St.w)]) fun _=> m7 body K (rs.map Rw.w) ():=by rw [hb];rfl
    show body r.w () (m7 body K (rs.map Rw.w)) K h Q E
    rw [e,O6 B rfl]
    refine B3p hs G hr.1 B fun h1 f1 B1=> ?_
    exact B5A hs hb rs _ h1 G2 hr.2 B1 fun h' f B' G'=> z h' (fun q a b=> (f q a b).trans (f1 q a b)) B' G'
theorem A5i {rs:List Rw} {K:SV→MC} (hs:P9 ss) (hr:A3j ss [] rs) (z:∀a pw pk h',h a=none→h pw=none→h pk=none→Grow h h'→BookAt h' a (.tup (ss.map .int)) pw pk (rs.foldl O4 [])→Gb ss (rs.foldl O4 [])→K (.val (.ref a)) h' Q E):call (d8 [.tup (ss.map .int),.lst (rs.map Rw.w)]) K h Q E:=by
  show A4n _ _ h _ _
  unfold A4n
  conv=> fun;fun;fun;simp only [↓X0,↓B0r,↓C7,↓F3,↓G4,↓H8,↓A2K,↓A56,↓C5,↓A3D]
  refine A3E hs fun a pw pk h1 na npw npk g1 B1=> ?_
  simp only [C5]
  refine B5A hs rfl rs [] h1 B6J hr B1 fun h2 f2 B2 G2=> ?_
  conv=> fun;fun;fun;simp only []
  refine z a pw pk h2 na npw npk (fun q u e=> ?_) B2 G2
  rw [f2 q (fun z=> by rw [z,npw] at e;cases e) (fun z=> by rw [z,npk] at e;cases e)]
  exact g1 _ _ e
end
section
variable {Q:RR→AH→Prop} {E:AExc→AH→Prop} {h:AH} {ss xs ys:List Int} {b1 b2 pw1 pk1 pw2 pk2 b pw pk:Addr} {es es1 es2:List Ent} {neg:Bool} {K:SV→MC}
theorem A8H (G:Gb ss es) (B1:BookAt h b1 (.tup (ss.map .int)) pw1 pk1 es) (B2:BookAt h b2 (.tup (ss.map .int)) pw2 pk2 es) (z:K (.val (.bl (!neg))) h Q E):eqX "Book" neg Q1 (.val (.ref b1)) (.val (.ref b2)) K h Q E:=
  ⟨⟨_,_,B1.ob,B2.ob⟩,C0U G.un (by have:=G.le;omega) (A5y (xs:=ss)) B1 B2 ⟨true,rfl,by cases neg <;> exact z⟩⟩
theorem B4E (ne:xs≠ys) (B1:BookAt h b1 (.tup (xs.map .int)) pw1 pk1 es1) (B2:BookAt h b2 (.tup (ys.map .int)) pw2 pk2 es2) (z:K (.val (.bl neg)) h Q E):eqX "Book" neg Q1 (.val (.ref b1)) (.val (.ref b2)) K h Q E:=by
  refine ⟨⟨_,_,B1.ob,B2.ob⟩,?_⟩
  show z9 _ _ h _ _
  unfold z9
  conv=> fun;fun;fun;simp only [↓X5,↓X0,↓A8n,↓C7,↓E8,↓G5,↓G4,↓K7,↓V8,↓n5,↓V7,↓M1,if_true]
  rw [B0M B2.ob]
  conv=> fun;fun;fun;simp only [↓E9,if_false,Bool.not_true,Bool.false_eq_true]
  rw [A1W B1]
  conv=> fun;fun;fun;simp only []
  rw [A1W B2]
  conv=> fun;fun;fun;simp only [↓E9,↓B6q]
  rw [decide_eq_false ne]
  conv=> fun;fun;fun;simp only [if_true,Bool.not_false]
  refine ⟨false,rfl,?_⟩
  cases neg <;> exact z
theorem B0D {es:List Ent} (l:es.length≤100):(Cont.seq (es.map fun e=> W.str e.name)).fz.plain:=(A2Y 0 (by omega) fun x hx=> by
    obtain ⟨e,_,rfl⟩:=List.mem_map.mp hx
    rfl:(W.lst (es.map fun e=> W.str e.name)).plain)
theorem B49:∀{as bs:List Ent},(as.map fun e=> W.str e.name)=(bs.map fun e=> W.str e.name)→as.map Ent.name=bs.map Ent.name
  | [],[],_=> rfl
  | [],_::_,z=> nomatch z
  | _::_,[],z=> nomatch z
  | a::as,b::bs,z=> by
    rw [List.map_cons,List.map_cons] at z
    injection z with z1 z2
    injection z1 with z1
    rw [List.map_cons,List.map_cons,z1,B49 z2]
theorem A7u (ne:es1.map Ent.name≠es2.map Ent.name) (l1:es1.length≤100) (l2:es2.length≤100) (B1:BookAt h b1 (.tup (ss.map .int)) pw1 pk1 es1) (B2:BookAt h b2 (.tup (ss.map .int)) pw2 pk2 es2) (z:K (.val (.bl neg)) h Q E):eqX "Book" neg Q1 (.val (.ref b1)) (.val (.ref b2)) K h Q E:=by
  refine ⟨⟨_,_,B1.ob,B2.ob⟩,?_⟩
  show z9 _ _ h _ _
  unfold z9
  conv=> fun;fun;fun;simp only [↓X5,↓X0,↓A8n,↓C7,↓E8,↓G5,↓G4,↓K7,↓V8,↓n5,↓V7,↓M1,if_true]
  rw [B0M B2.ob]
  conv=> fun;fun;fun;simp only [↓E9,if_false,Bool.not_true,Bool.false_eq_true]
  rw [A1W B1]
  conv=> fun;fun;fun;simp only []
  rw [A1W B2]
  conv=> fun;fun;fun;simp only [↓E9,↓B6q,if_false,Bool.not_true,Bool.false_eq_true,decide_true]
  rw [O6 B1 rfl,A4C (fun Q E=> A2J B1),O6 B2 rfl,A4C (fun Q E=> A2J B2)]
  show (E4 (D4 false) (.own (.seq (es1.map fun e=> W.str e.name))) (.own (.seq (es2.map fun e=> W.str e.name))) fun r=> V2 r fun c=> _) h _ _
  rw [o4 (Ab.so (B0D l1)) (Ab.so (B0D l2)),decide_eq_false (fun z=> ne (B49 (by injection z)))]
  conv=> fun;fun;fun;simp only [if_false,Bool.false_eq_true]
  refine ⟨false,rfl,?_⟩
  cases neg <;> exact z
def c9 (es:List Ent) (e:Ent):W:= .lst [.str e.name,.lst (e.steps.map St.w),.lst (e.deeds.map Dd.w),.lst ((v9 es e.name).map W.str)]
theorem A8W {α:Type} {body:W→(Option W→MC)→MC} {k:List W→MC} (e:α→W) (g:α→W):∀(l:List α) (acc:List W),acc.length+l.length≤sizeLine→(∀a∈l,∀kk:Option W→MC,kk (some (g a)) h Q E→body (e a) kk h Q E)→k (acc++l.map g) h Q E→V1 body k (l.map e) acc h Q E
  | [],acc,_,_,z=> by simpa [V1] using z
  | a::l,acc,hl,hb,z=> by
    rw [List.length_cons] at hl
    refine hb a (by simp) _ ⟨by omega,?_⟩
    refine A8W e g l (acc++[g a]) (by rw [List.length_append,List.length_singleton];omega) (fun b hb'=> hb b (by simp [hb'])) ?_
    rw [List.append_assoc]
    exact z
theorem A5z (hs:P9 ss) (G:Gb ss es) (B:BookAt h b (.tup (ss.map .int)) pw pk es) (z:K (.own (.seq (es.map (c9 es)))) h Q E):call (o8 [.ref b]) K h Q E:=by
  show A41 (.ref b) h _ _
  unfold A41
  conv=> fun;fun;fun;simp only [↓X0,↓B5Y,↓C7,↓F3,↓G4,↓H8,↓o0,↓U6,↓A2K,↓U0,↓V0,↓C5,↓Q2,↓A1r,if_true,List.length_cons,List.length_nil,L1,Nat.zero_add,Nat.reduceAdd,Nat.reduceLeDiff]
  rw [O6 B rfl,A4C (fun Q E=> A2J B)]
  show (V1 _ _ (es.map fun e=> W.str e.name) []) h _ _
  refine A8W (fun e:Ent=> W.str e.name) (c9 es) es [] (by have:=G.le;rw [sizeLine_eq];simp;omega) (fun e he kk zz=> ?_) z
  have fe:=A99 G.un he
  rw [O6 B rfl]
  show o7 [.ref b,.str e.name] h _ _
  rw [B4Z B fe]
  show (W2 "Book" "flat" (.val (.ref b)) fun a=> _) h _ _
  rw [O6 B rfl]
  show o9 [.ref b,.str e.name] h _ _
  rw [B4q B fe]
  show (W2 "Book" "callers" (.val (.ref b)) fun a=> _) h _ _
  rw [O6 B rfl]
  show W4 [.ref b,.str e.name] h _ _
  exact A91 hs G.st (by have:=G.le;omega) B fe zz
def RowR (n:Nat) (h g:AH) (y:W):Prop:=∃w a b c xa xb xc,y= .lst [w,.ref a,.ref b,.ref c]∧(h a=none∧g a=some (.cont (.seq xa))∧xa.length≤n)∧(h b=none∧g b=some (.cont (.seq xb))∧xb.length≤n)∧(h c=none∧g c=some (.cont (.seq xc))∧xc.length≤n)
theorem RowR.grow {n:Nat} {h g g':AH} {y:W} (r:RowR n h g y) (gr:Grow g g'):RowR n h g' y:=by
  obtain ⟨w,a,b,c,xa,xb,xc,e,⟨a1,a2,a3⟩,⟨b1,b2,b3⟩,c1,c2,c3⟩:=r
  exact ⟨w,a,b,c,xa,xb,xc,e,⟨a1,gr _ _ a2,a3⟩,⟨b1,gr _ _ b2,b3⟩,c1,gr _ _ c2,c3⟩
theorem B4r {body:W→(Option W→MC)→MC} {k:List W→MC}:∀(ws acc:List W) (g:AH),Grow h g→(∀y∈acc,RowR 1000 h g y)→acc.length+ws.length≤sizeLine→(∀w∈ws,∀(g:AH) (kk:Option W→MC),Grow h g→(∀y g',Grow g g'→RowR 1000 h g' y→kk (some y) g' Q E)→body w kk g Q E)→(∀ys g',Grow h g'→ys.length=acc.length+ws.length→(∀y∈ys,RowR 1000 h g' y)→k ys g' Q E)→V1 body k ws acc g Q E
  | [],acc,g,gr,ha,_,_,z=> z acc g gr (by simp) ha
  | w::ws,acc,g,gr,ha,hl,hb,z=> by
    rw [List.length_cons] at hl
    refine hb w (by simp) g _ gr fun y g' gr' r=> ⟨by omega,?_⟩
    refine B4r ws (acc++[y]) g' (fun x u e=> gr' _ _ (gr _ _ e)) (fun q hq=> ?_) (by rw [List.length_append,List.length_singleton];omega) (fun w hw=> hb w (by simp [hw])) fun ys g2 gr2 l2 h2=> z ys g2 gr2 (by rw [l2,List.length_append,List.length_singleton,List.length_cons];omega) h2
    rcases List.mem_append.mp hq with hq | hq
    · exact (ha q hq).grow gr'
    · rw [List.mem_singleton] at hq
      subst hq
      exact r
theorem A4d {g:AH} (gr:Grow h g) {a:Addr} (n:g a=none):h a=none:=by
  cases q:h a with
  | none=> rfl
  | some u=> rw [gr _ _ q] at n;cases n
theorem C19 (hs:P9 ss) (G:Gb ss es) (B:BookAt h b (.tup (ss.map .int)) pw pk es) (z:∀ys g,Grow h g→ys.length=es.length→(∀y∈ys,RowR 1000 h g y)→K (.own (.seq ys)) g Q E):call (A2v [.ref b]) K h Q E:=by
  show A4l (.ref b) h _ _
  unfold A4l
  conv=> fun;fun;fun;simp only [↓X0,↓B5Y,↓A8I,↓C7,↓F3,↓G4,↓H8,↓o0,↓U6,↓A2K,↓U0,↓V0,↓C5,↓Q2,↓A1r,if_true,List.length_cons,List.length_nil,L1,Nat.zero_add,Nat.reduceAdd,Nat.reduceLeDiff]
  rw [O6 B rfl,A4C (fun Q E=> A2J B)]
  show (V1 _ _ (es.map fun e=> W.str e.name) []) h _ _
  refine B4r _ _ h (fun _ _ e=> e) (fun _ hy=> by cases hy) (by have:=G.le;rw [sizeLine_eq];simp;omega) (fun w hw g kk gr zz=> ?_) fun ys g gr l hy=> z ys g gr (by rw [l];simp) hy
  obtain ⟨e,he,rfl⟩:=List.mem_map.mp hw
  have fe:=A99 G.un he
  have B:=gr.bk B
  rw [O6 B rfl]
  show o7 [.ref b,.str e.name] g _ _
  rw [B4Z B fe]
  intro a1 n1
  have g1:Grow g (C6 g a1 (.cont (.seq (e.steps.map St.w)))):=Grow.upd n1
  have e1:(C6 g a1 (.cont (.seq (e.steps.map St.w)))) a1=some (.cont (.seq (e.steps.map St.w))):=M2
  generalize C6 g a1 (.cont (.seq (e.steps.map St.w)))=G1 at g1 e1 ⊢
  have B1:=g1.bk B
  show (W2 "Book" "flat" (.val (.ref b)) fun a=> _) G1 _ _
  rw [O6 B1 rfl]
  show o9 [.ref b,.str e.name] G1 _ _
  rw [B4q B1 fe]
  intro a2 n2
  have g2:Grow G1 (C6 G1 a2 (.cont (.seq (e.deeds.map Dd.w)))):=Grow.upd n2
  have e2:(C6 G1 a2 (.cont (.seq (e.deeds.map Dd.w)))) a2=some (.cont (.seq (e.deeds.map Dd.w))):=M2
  generalize C6 G1 a2 (.cont (.seq (e.deeds.map Dd.w)))=G2 at g2 e2 ⊢
  have B2:=g2.bk B1
  show (W2 "Book" "callers" (.val (.ref b)) fun a=> _) G2 _ _
  rw [O6 B2 rfl]
  show W4 [.ref b,.str e.name] G2 _ _
  refine A91 hs G.st (by have:=G.le;omega) B2 fe ?_
  intro a3 n3
  have g3:Grow G2 (C6 G2 a3 (.cont (.seq ((v9 es e.name).map W.str)))):=Grow.upd n3
  have gr1:Grow h G1:=fun x u e=> g1 _ _ (gr _ _ e)
  have gr2:Grow h G2:=fun x u e=> g2 _ _ (gr1 _ _ e)
  have ok:=G.ok e he
  have cl:(v9 es e.name).length≤1000:=by
    unfold v9
    rw [List.length_map]
    have:=List.length_filter_le (fun e':Ent=> e'.steps.any (Z3 e.name)) es
    have:=G.le
    omega
  exact zz _ _ (fun x u e=> g3 _ _ (g2 _ _ (g1 _ _ e))) ⟨_,a1,a2,a3,_,_,_,rfl,⟨A4d gr n1,g3 _ _ (g2 _ _ e1),by rw [List.length_map];omega⟩,⟨A4d gr1 n2,g3 _ _ e2,by rw [List.length_map];omega⟩,A4d gr2 n3,M2,by rw [List.length_map];omega⟩
end
theorem RowR.app {n:Nat} {h g:AH} {y w:W} {a:Addr} {xs:List W} (r:RowR n h g y) (e:g a=some (.cont (.seq xs))) (l:xs.length≤n):RowR (n+1) h (C6 g a (.cont (.seq (xs++[w])))) y:=by
  obtain ⟨w',a1,a2,a3,xa,xb,xc,ey,⟨p1,p2,p3⟩,⟨q1,q2,q3⟩,r1,r2,r3⟩:=r
  have one:∀{b:Addr} {zs:List W},g b=some (.cont (.seq zs))→zs.length≤n→∃us,(C6 g a (.cont (.seq (xs++[w])))) b=some (.cont (.seq us))∧us.length≤n+1:=fun {b zs} e2 l2=> by
    by_cases c:b=a
    · subst c
      exact ⟨_,M2,by rw [List.length_append,List.length_singleton];omega⟩
    · exact ⟨zs,by rw [F7 c];exact e2,by omega⟩
  obtain ⟨u1,v1,l1⟩:=one p2 p3
  obtain ⟨u2,v2,l2⟩:=one q2 q3
  obtain ⟨u3,v3,l3⟩:=one r2 r3
  exact ⟨w',a1,a2,a3,u1,u2,u3,ey,⟨p1,v1,l1⟩,⟨q1,v2,l2⟩,r1,v3,l3⟩
theorem RowR.le {n m:Nat} {h g:AH} {y:W} (r:RowR n h g y) (l:n≤m):RowR m h g y:=by
  obtain ⟨w',a1,a2,a3,xa,xb,xc,ey,⟨p1,p2,p3⟩,⟨q1,q2,q3⟩,r1,r2,r3⟩:=r
  exact ⟨w',a1,a2,a3,xa,xb,xc,ey,⟨p1,p2,by omega⟩,⟨q1,q2,by omega⟩,r1,r2,by omega⟩
theorem B0a {h g:AH} {a:Addr} {o:AO} (gr:Grow h g) (n:h a=none):Grow h (C6 g a o):=fun x u e=> by
  rw [F7 (fun z=> by rw [z,n] at e;cases e)]
  exact gr _ _ e
theorem C1p {Q:RR→AH→Prop} {E:AExc→AH→Prop} {h g:AH} {K:Unit→MC} {ws:List W} (gr:Grow h g) (l:ws.length≤1000) (hw:∀y∈ws,RowR 1000 h g y) (z:∀g',Grow h g'→K () g' Q E):
    m7 (fun x_row_here (s6:Unit) kn8 kb9=> E4 oIx (.val x_row_here) (.val (.int 1)) fun x=> lmR Q5 x (A4 (A0 (eC (.str ""))) C0) (E4 oIx (.val x_row_here) (.val (.int 2)) fun x=> lmR Q5 x (A4 (A0 (eC (.str ""))) C0) (E4 oIx (.val x_row_here) (.val (.int 3)) fun x=> lmR Q5 x (A4 (A0 (eC (.str ""))) C0) (kn8 ())))) K ws () g Q E:=by
  refine A8S (fun ws _ g=> Grow h g∧ws.length≤1000∧∀y∈ws,RowR (1000+3*(1000 - ws.length)) h g y) (fun _ g i=> z g i.1) (fun w ws _ g kn i hk=> ?_) _ _ _ ⟨gr,l,fun y hy=> (hw y hy).le (by omega)⟩
  obtain ⟨gr,l,hr⟩:=i
  rw [List.length_cons] at l hr
  generalize hn:1000+3*(1000 - (ws.length+1))=n at hr
  have hn2:n≤4000:=by omega
  obtain ⟨w0,a,b,c,xa,xb,xc,rfl,⟨a1,a2,a3⟩,⟨b1,b2,b3⟩,c1,c2,c3⟩:=hr w (by simp)
  have hr:∀y∈W.lst [w0,.ref a,.ref b,.ref c]::ws,RowR n h g y:=hr
  have ap:∀{a:Addr} {xs:List W} {g:AH} {k:MC},g a=some (.cont (.seq xs))→xs.length≤5000→lmR Q5 (.val (.ref a)) (A4 (A0 (eC (.str ""))) C0) k g Q E=k (C6 g a (.cont (.seq (xs++[.str ""])))) Q E:=fun e l=> C2p e (by rw [sizeLine_eq];omega) fun K=> by simp only [↓E8,↓F3,↓G4,↓H8,↓C5]
  conv=> fun;fun;fun;simp only [↓y0,↓A1K,↓A2a,↓A83]
  rw [ap a2 (by omega)]
  have G1:=B0a (o:= .cont (.seq (xa++[.str ""]))) gr a1
  have hr1:∀y∈W.lst [w0,.ref a,.ref b,.ref c]::ws,RowR (n+1) h (C6 g a (.cont (.seq (xa++[.str ""])))) y:=fun y hy=> (hr y hy).app a2 a3
  generalize C6 g a (.cont (.seq (xa++[.str ""])))=g1 at G1 hr1 ⊢
  obtain ⟨_,_,b',_,_,xb1,_,ey,_,⟨_,b2,b3⟩,_⟩:=hr1 (W.lst [w0,.ref a,.ref b,.ref c]) (by simp)
  have eb:b=b':=by simp only [W.lst.injEq,List.cons.injEq,W.ref.injEq,and_true] at ey;exact ey.2.2.1
  subst eb
  rw [ap b2 (by omega)]
  have G2:=B0a (o:= .cont (.seq (xb1++[.str ""]))) G1 b1
  have hr2:∀y∈W.lst [w0,.ref a,.ref b,.ref c]::ws,RowR (n+2) h (C6 g1 b (.cont (.seq (xb1++[.str ""])))) y:=fun y hy=> (hr1 y hy).app b2 b3
  generalize C6 g1 b (.cont (.seq (xb1++[.str ""])))=g2 at G2 hr2 ⊢
  obtain ⟨_,_,_,c',_,_,xc1,ey,_,_,_,c2,c3⟩:=hr2 (W.lst [w0,.ref a,.ref b,.ref c]) (by simp)
  have ec:c=c':=by simp only [W.lst.injEq,List.cons.injEq,W.ref.injEq,and_true] at ey;exact ey.2.2.2
  subst ec
  rw [ap c2 (by omega)]
  have G3:=B0a (o:= .cont (.seq (xc1++[.str ""]))) G2 c1
  exact hk _ _ ⟨G3,by omega,fun y hy=> ((hr2 y (by simp [hy])).app c2 c3).le (by omega)⟩
theorem C2t {ss:List Int} {es:List Ent} (hs:P9 ss) (G:Gb ss es) (hd:∀e∈es,∀d∈e.deeds,d.ok ss):(W.lst (es.map (c9 es))).sm 7=true:=by
  have l12:=G.le
  refine A6I (n:=6) (by rw [List.length_map];omega) fun y hy=> ?_
  obtain ⟨e,he,rfl⟩:=List.mem_map.mp hy
  have ok:=G.ok e he
  refine A6I (n:=5) (by simp) fun y hy=> ?_
  simp only [List.mem_cons,List.not_mem_nil,or_false] at hy
  rcases hy with rfl | rfl | rfl | rfl
  · exact A6F
  · exact A6I (n:=4) (by rw [List.length_map];omega) fun y hy=> by
      obtain ⟨s,hs',rfl⟩:=List.mem_map.mp hy
      exact C4I (n:=3) hs ((G.st e he).2 s hs')
  · exact A6I (n:=4) (by rw [List.length_map];omega) fun y hy=> by
      obtain ⟨d,hd',rfl⟩:=List.mem_map.mp hy
      exact B5n (n:=3) (d.w_len ss hs (hd e he d hd'))
  · refine A6I (n:=4) ?_ fun y hy=> by
      obtain ⟨x,_,rfl⟩:=List.mem_map.mp hy
      exact A6F
    unfold v9
    rw [List.length_map,List.length_map]
    have:=List.length_filter_le (fun e':Ent=> e'.steps.any (Z3 e.name)) es
    omega
def rA (ds:List Dd):Rw:=(("ab":Str),ds.map .deed)
def rB (ds:List Dd):Rw:=(("b":Str),.call ("ab":Str) 2::(ds.take 1).map .deed)
def rC (ds:List Dd):Rw:=(("ba":Str),(ds.drop 1).map .deed)
theorem A3I:l7 ("ab":Str)=true∧l7 ("b":Str)=true∧l7 ("ba":Str)=true∧l7 ("a":Str)=true∧l7 ("c":Str)=true∧("ab":Str).length≤8∧("b":Str).length≤8∧("ba":Str).length≤8∧("a":Str).length≤8∧("c":Str).length≤8∧("ab":Str)≠"b"∧("ab":Str)≠"ba"∧("b":Str)≠"ba"∧("c":Str)≠"ab"∧("c":Str)≠"b"∧("c":Str)≠"ba":=by decide+kernel
abbrev B1g (ss:List Int) (es:List Ent) (r:Rw):Prop:=l7 r.1=true∧r.1.length≤8∧r.1∉es.map Ent.name∧es.length < 12∧A4S ss es r.2∧r.2.length≤100∧(r.2.map (U9 es)).sum≤200
theorem A93 {es:List Ent}:∀ds:List Dd,((ds.map St.deed).map (U9 es)).sum=ds.length
  | []=> rfl
  | d::ds=> by rw [List.map_cons,List.map_cons,List.sum_cons,A93 ds,List.length_cons];show 1+_=_;omega
theorem A7m {es:List Ent}:∀ds:List Dd,(ds.map St.deed).flatMap (W0 es)=ds
  | []=> rfl
  | d::ds=> by rw [List.map_cons,List.flatMap_cons,A7m ds];rfl
theorem A5t {ss:List Int} {es:List Ent} {x:Str} {ds:List Dd} (xi:l7 x=true) (l8:x.length≤8) (nn:x∉es.map Ent.name) (l12:es.length < 12) (hd:∀d∈ds,d.ok ss) (ld:ds.length≤4):B1g ss es (x,ds.map .deed):=
  ⟨xi,l8,nn,l12,fun s hs=> by obtain ⟨d,hm,rfl⟩:=List.mem_map.mp hs;exact hd d hm,by show (ds.map St.deed).length≤100;rw [List.length_map];omega,by rw [A93];omega⟩
theorem B4j {ss:List Int} {es:List Ent} {ds fs:List Dd} (nn:("b":Str)∉es.map Ent.name) (l12:es.length < 12) (hf:V5 es ("ab":Str)=fs) (hm:("ab":Str)∈es.map Ent.name) (lf:fs.length≤4) (hd:∀d∈ds,d.ok ss):B1g ss es (rB ds):=by
  have f:=A3I
  have l1:(ds.take 1).length≤1:=by rw [List.length_take];omega
  refine ⟨f.2.1,f.2.2.2.2.2.2.1,nn,l12,fun s hs=> ?_,?_,?_⟩
  · rcases List.mem_cons.mp hs with rfl | hs
    · exact ⟨hm,by decide⟩
    · obtain ⟨d,hm,rfl⟩:=List.mem_map.mp hs
      exact hd d (List.mem_of_mem_take hm)
  · show (St.call ("ab":Str) 2::(ds.take 1).map St.deed).length≤100
    rw [List.length_cons,List.length_map];omega
  · show ((St.call ("ab":Str) 2::(ds.take 1).map St.deed).map (U9 es)).sum≤200
    rw [List.map_cons,List.sum_cons,A93]
    show 2*(V5 es ("ab":Str)).length+_≤200
    rw [hf];omega
def eA (ds:List Dd):Ent:=⟨"ab",ds.map .deed,ds⟩
def eB (ds:List Dd):Ent:=⟨"b",.call ("ab":Str) 2::(ds.take 1).map .deed,ds++ds++ds.take 1⟩
def eC_ (ds:List Dd):Ent:=⟨"ba",(ds.drop 1).map .deed,ds.drop 1⟩
theorem B1a {ds:List Dd} {es:List Ent}:O4 es (rA ds)=es++[eA ds]:=by unfold O4 rA eA;rw [A7m]
theorem B6a {ds:List Dd} {es:List Ent}:O4 es (rC ds)=es++[eC_ ds]:=by unfold O4 rC eC_;rw [A7m]
theorem B1Q {ds:List Dd} {es:List Ent} (hf:V5 es ("ab":Str)=ds):O4 es (rB ds)=es++[eB ds]:=by
  unfold O4 rB eB
  dsimp only
  rw [List.flatMap_cons,A7m]
  show es++[⟨_,_,(List.replicate 2 (V5 es ("ab":Str))).flatten++_⟩]=_
  rw [hf]
  simp [List.replicate]
theorem A6Z {ds:List Dd} {es:List Ent}:V5 (eA ds::es) ("ab":Str)=ds:=by
  unfold V5 M6
  rw [List.find?_cons_of_pos (by exact beq_self_eq_true _)]
  rfl
def E3 (ds:List Dd):List Ent:=[eA ds,eB ds,eC_ ds]
def E3' (ds:List Dd):List Ent:=[eA ds,eC_ ds,eB ds]
theorem B6M {ss:List Int} {ds:List Dd} (hd:∀d∈ds,d.ok ss) (ld:ds.length≤4):A3j ss [] [rA ds,rB ds,rC ds]∧[rA ds,rB ds,rC ds].foldl O4 []=E3 ds:=by
  have f:=A3I
  have r1:O4 [] (rA ds)=[eA ds]:=B1a
  have r2:O4 [eA ds] (rB ds)=[eA ds,eB ds]:=B1Q A6Z
  have r3:O4 [eA ds,eB ds] (rC ds)=E3 ds:=B6a
  refine ⟨⟨A5t f.1 f.2.2.2.2.2.1 (by simp) (by simp) hd ld,?_⟩,by simp only [List.foldl_cons,List.foldl_nil,r1,r2,r3]⟩
  rw [r1]
  refine ⟨B4j (fs:=ds) (by simpa using fun z=> f.2.2.2.2.2.2.2.2.2.2.1 z.symm) (by simp) A6Z (by simp [eA]) ld hd,?_⟩
  rw [r2]
  refine ⟨A5t f.2.2.1 f.2.2.2.2.2.2.2.1 ?_ (by simp) (fun d h=> hd d (List.mem_of_mem_drop h)) (by rw [List.length_drop];omega),trivial⟩
  simp only [List.map_cons,List.map_nil,List.mem_cons,List.not_mem_nil,or_false,not_or]
  exact ⟨fun z=> f.2.2.2.2.2.2.2.2.2.2.2.1 z.symm,fun z=> f.2.2.2.2.2.2.2.2.2.2.2.2.1 z.symm⟩
theorem C4q {ss:List Int} {ds:List Dd} (hd:∀d∈ds,d.ok ss) (ld:ds.length≤4):A3j ss [] [rA ds,rC ds,rB ds]∧[rA ds,rC ds,rB ds].foldl O4 []=E3' ds:=by
  have f:=A3I
  have r1:O4 [] (rA ds)=[eA ds]:=B1a
  have r2:O4 [eA ds] (rC ds)=[eA ds,eC_ ds]:=B6a
  have r3:O4 [eA ds,eC_ ds] (rB ds)=E3' ds:=B1Q A6Z
  refine ⟨⟨A5t f.1 f.2.2.2.2.2.1 (by simp) (by simp) hd ld,?_⟩,by simp only [List.foldl_cons,List.foldl_nil,r1,r2,r3]⟩
  rw [r1]
  refine ⟨A5t f.2.2.1 f.2.2.2.2.2.2.2.1 (by simpa using fun z=> f.2.2.2.2.2.2.2.2.2.2.2.1 z.symm) (by simp) (fun d h=> hd d (List.mem_of_mem_drop h)) (by rw [List.length_drop];omega),?_⟩
  rw [r2]
  refine ⟨B4j (fs:=ds) ?_ (by simp) A6Z (by simp [eA]) ld hd,trivial⟩
  simp only [List.map_cons,List.map_nil,List.mem_cons,List.not_mem_nil,or_false,not_or]
  exact ⟨fun z=> f.2.2.2.2.2.2.2.2.2.2.1 z.symm,fun z=> f.2.2.2.2.2.2.2.2.2.2.2.2.1 z⟩
theorem C4m {ss:List Int} {ds:List Dd} (hd:∀d∈ds,d.ok ss) (ld:ds.length≤4):A3j ss [] [rA ds,rB ds]∧[rA ds,rB ds].foldl O4 []=[eA ds,eB ds]:=by
  have g:=(B6M hd ld).1
  have r1:O4 [] (rA ds)=[eA ds]:=B1a
  have r2:O4 [eA ds] (rB ds)=[eA ds,eB ds]:=B1Q A6Z
  exact ⟨⟨g.1,g.2.1,trivial⟩,by simp only [List.foldl_cons,List.foldl_nil,r1,r2]⟩
theorem good_4 {ss:List Int}:A3j ss [] [(("a":Str),[])]∧[(("a":Str),([]:List St))].foldl O4 []=[⟨"a",[],[]⟩]:=by
  have f:=A3I
  exact ⟨⟨A5t (ds:=[]) f.2.2.2.1 f.2.2.2.2.2.2.2.2.1 (by simp) (by simp) (fun d h=> by cases h) (by simp),trivial⟩,rfl⟩
theorem C1r {ss:List Int} {ds:List Dd} (hd:∀d∈ds,d.ok ss):∀e∈E3 ds,∀d∈e.deeds,d.ok ss:=fun e he d h=> by
  simp only [E3,List.mem_cons,List.not_mem_nil,or_false] at he
  rcases he with rfl | rfl | rfl
  · exact hd d h
  · rcases List.mem_append.mp (show d∈ds++ds++ds.take 1 from h) with h | h
    · rcases List.mem_append.mp h with h | h <;> exact hd d h
    · exact hd d (List.mem_of_mem_take h)
  · exact hd d (List.mem_of_mem_drop h)
theorem C6I {P:Nat→Nat→Prop} (sy:∀i j,P i j→P j i) (a:P 0 1) (b:P 0 2) (c:P 0 3) (d:P 1 2) (e:P 1 3) (f:P 2 3):∀i j,i < 4→j < 4→i≠j→P i j:=fun i j hi hj ne=> by
  have h1:i=0∨i=1∨i=2∨i=3:=by omega
  have h2:j=0∨j=1∨j=2∨j=3:=by omega
  rcases h1 with rfl | rfl | rfl | rfl <;> rcases h2 with rfl | rfl | rfl | rfl <;> first | exact absurd rfl ne | assumption | (apply sy;assumption)
def T2 (a b c d:Addr):Nat→Addr
  | 0=> a
  | 1=> b
  | 2=> c
  | _=> d
theorem C6G {P:Nat→Prop} (a:P 0) (b:P 1) (c:P 2) (d:P 3):∀i,i < 4→P i:=fun i hi=> by
  have h1:i=0∨i=1∨i=2∨i=3:=by omega
  rcases h1 with rfl | rfl | rfl | rfl <;> assumption
structure Bk4 (h:AH) (ss:List Int) (A W K:Nat→Addr) (es:Nat→List Ent):Prop where
  at_:∀i,i < 4→BookAt h (A i) (.tup (ss.map .int)) (W i) (K i) (es i)
  un:∀i j,i < 4→j < 4→i≠j→W i≠W j∧W i≠K j∧K i≠W j∧K i≠K j
theorem Bk4.grow {h h':AH} {ss:List Int} {A W K:Nat→Addr} {es:Nat→List Ent} (B:Bk4 h ss A W K es) (g:Grow h h'):Bk4 h' ss A W K es:=⟨fun i hi=> g.bk (B.at_ i hi),B.un⟩
theorem Bk4.upd {h h':AH} {ss:List Int} {A W K:Nat→Addr} {es:Nat→List Ent} {k:Nat} {fs:List Ent} (B:Bk4 h ss A W K es) (hk:k < 4) (f:∀q,q≠W k→q≠K k→h' q=h q) (Bk:BookAt h' (A k) (.tup (ss.map .int)) (W k) (K k) fs):Bk4 h' ss A W K fun i=> if i=k then fs else es i:=
  ⟨fun i hi=> by
    by_cases c:i=k
    · subst c
      rw [if_pos rfl]
      exact Bk
    · have b:=B.at_ i hi
      have bk:=B.at_ k hk
      obtain ⟨u1,u2,u3,u4⟩:=B.un i k hi hk c
      rw [if_neg c]
      have na:∀{x:Addr} {u:AO},h x=some u→(∀m,u≠ .cont m)→x≠W k∧x≠K k:=fun e n=> ⟨fun z=> by rw [z,bk.wr] at e;injection e with e;exact n _ e.symm,fun z=> by rw [z,bk.la] at e;injection e with e;exact n _ e.symm⟩
      have n1:=na b.ob fun m z=> by cases z
      exact ⟨(f _ n1.1 n1.2).trans b.ob,(f _ u1 u2).trans b.wr,(f _ u3 u4).trans b.la,b.ne⟩,B.un⟩
theorem Q8 {h:AH} {a b:Addr} {u:AO} (e:h a=some u) (n:h b=none):a≠b:=fun z=> by rw [z,n] at e;cases e
theorem A7y {xs:List W} {k:SV→MC} {i:Nat} {w:W} (e:xs[i]? =some w):E4 oIx (.val (.lst xs)) (.val (O8 i)) k=k (.val w):=by
  obtain ⟨l,rfl⟩:=List.getElem?_eq_some_iff.mp e
  show (E4 oIx (.val (.lst xs)) (.val (.int (i:Int))) k)=_
  simp only [↓y0]
  rw [A39 l]
theorem ix4 {a b c d:Addr} {k:SV→MC} {i:Nat} (hi:i < 4):E4 oIx (.val (.lst [.ref a,.ref b,.ref c,.ref d])) (.val (O8 i)) k=k (.val (.ref (T2 a b c d i))):=by
  have h1:i=0∨i=1∨i=2∨i=3:=by omega
  rcases h1 with rfl | rfl | rfl | rfl
  · exact A7y (i:=0) rfl
  · exact A7y (i:=1) rfl
  · exact A7y (i:=2) rfl
  · exact A7y (i:=3) rfl
theorem C3S {es:List Ent} {e:Ent}:(c9 es e).nb 3=true:=by
  refine A4L (n:=2) fun y hy=> ?_
  simp only [List.mem_cons,List.not_mem_nil,or_false] at hy
  rcases hy with rfl | rfl | rfl | rfl
  · exact B5v
  · exact A4L (n:=1) fun y hy=> by obtain ⟨s,_,rfl⟩:=List.mem_map.mp hy;exact s.nb
  · exact A4L (n:=1) fun y hy=> by obtain ⟨d,_,rfl⟩:=List.mem_map.mp hy;exact (St.deed d).nb
  · exact A4L (n:=1) fun y hy=> by obtain ⟨d,_,rfl⟩:=List.mem_map.mp hy;exact B5v
theorem B0d (es:List Ent):(W.lst (es.map (c9 es))).plain:=A2Y 3 (by omega) fun y hy=> by obtain ⟨e,_,rfl⟩:=List.mem_map.mp hy;exact C3S
theorem at4 {a b c d:Addr} {k:W→MC} {i:Nat} (hi:i < 4):W3 [W.ref a,.ref b,.ref c,.ref d] (i:Int) k=k (.ref (T2 a b c d i)):=by
  rw [A39 (by exact hi)]
  have h1:i=0∨i=1∨i=2∨i=3:=by omega
  rcases h1 with rfl | rfl | rfl | rfl <;> rfl
def A2b (k:Nat):Nat:=if k=0 then 3 else k - 1
theorem C6S {a b c d:Addr} {k:W→MC} {i:Nat} (hi:i < 4):W3 [W.ref a,.ref b,.ref c,.ref d] ((i:Int) - 1) k=k (.ref (T2 a b c d (A2b i))):=by
  have h1:i=0∨i=1∨i=2∨i=3:=by omega
  rcases h1 with rfl | rfl | rfl | rfl
  · exact A3K rfl
  · exact at4 (i:=0) (by omega)
  · exact at4 (i:=1) (by omega)
  · exact at4 (i:=2) (by omega)
theorem C20 {ss:List Int} {es:List Ent} {x:Str} (G:Gb ss es):Gb ss (A1s es x):=by
  have sub:∀e∈A1s es x,e∈es:=fun e he=> (List.mem_filter.mp he).1
  exact ⟨(List.Sublist.map Ent.name (List.filter_sublist (l:=es))).nodup G.un,fun e he=> G.ok e (sub e he),fun e he=> G.st e (sub e he),Nat.le_trans (List.length_filter_le _ _) G.le⟩
theorem A9t {ds:List Dd} {x:Str}:(ds.map St.deed).any (Z3 x)=false:=by
  rw [List.any_eq_false]
  intro s hs
  obtain ⟨d,_,rfl⟩:=List.mem_map.mp hs
  exact Bool.false_ne_true
theorem C0n {ds:List Dd}:A73 (E3 ds) ("b":Str)=none∧A1s (E3 ds) ("b":Str)=[eA ds,eC_ ds]:=by
  have f:=A3I
  have nab:("ab":Str)≠"b":=f.2.2.2.2.2.2.2.2.2.2.1
  have nbb:("b":Str)≠"ba":=f.2.2.2.2.2.2.2.2.2.2.2.2.1
  have cl:v9 (E3 ds) ("b":Str)=[]:=by
    have c1:(eA ds).steps.any (Z3 ("b":Str))=false:=A9t
    have c2:(eB ds).steps.any (Z3 ("b":Str))=false:=by
      show (Z3 ("b":Str) (.call ("ab":Str) 2) || ((ds.take 1).map St.deed).any (Z3 ("b":Str)))=false
      rw [A9t,Bool.or_false]
      exact beq_false_of_ne nab
    have c3:(eC_ ds).steps.any (Z3 ("b":Str))=false:=A9t
    unfold v9 E3
    simp only [List.filter_cons,c1,c2,c3,Bool.false_eq_true,if_false,List.filter_nil,List.map_nil]
  have fb:M6 (E3 ds) ("b":Str)=some (eB ds):=by
    unfold M6 E3
    rw [List.find?_cons_of_neg (by simpa [eA] using nab),List.find?_cons_of_pos (by exact beq_self_eq_true _)]
  refine ⟨by unfold A73;rw [fb,cl],?_⟩
  unfold A1s E3
  have d1:decide ((eA ds).name≠("b":Str))=true:=decide_eq_true nab
  have d2:decide ((eB ds).name≠("b":Str))=false:=decide_eq_false fun z=> z rfl
  have d3:decide ((eC_ ds).name≠("b":Str))=true:=decide_eq_true (Ne.symm nbb)
  simp only [List.filter_cons,d1,d2,d3,if_true,Bool.false_eq_true,if_false,List.filter_nil]
theorem A8u {a b:Bool} {k:SV→MC} {h:AH} {Q:RR→AH→Prop} {E:AExc→AH→Prop} (z:k (.val (.bl (a !=b))) h Q E):E4 (D4 true) (.val (.bl a)) (.val (.bl b)) k h Q E:=by
  cases a <;> cases b <;> exact ⟨rfl,rfl,z⟩
theorem C4Q {ns:List Int} (hn:ns.length≤63) (h:AH) (Q:RR→AH→Prop) (E:AExc→AH→Prop) (q:∀h',Q (.val (.bl true)) h'):m_law [.lst (ns.map .int)] h Q E:=by
  show A6C _ h Q E
  unfold A6C
  generalize hBS:m__law_same 8=BS
  conv=> fun;fun;fun;simp only [↓X0,↓B0r,↓C2Z,↓C5q,↓A8I,↓C43,↓C7,↓E8,↓G5,↓F3,↓G4,↓H8,↓A4Q,↓o0,↓A8r,↓A74,↓A9F,↓L6,↓L5,↓L9,↓U6,↓K7,↓V8,↓n5,↓V7,↓A0N,↓Q9,↓A2K,↓k9,↓M1,↓U0,↓V0,↓A56,↓C5,↓Q2,↓p9,↓A3D,↓A1S,↓A1r,↓U4,↓y0,↓n9,↓A1K,↓A2a,↓A8z,↓A8g,↓A7c,↓C46,if_true,List.length_cons,List.length_nil,L1,Nat.zero_add,Nat.reduceAdd,Nat.reduceLeDiff,↓C3c hn]
  intro p hp
  refine any_sizes_dr.call C3Z (by omega) fun r h1 hr b1 t1=> ?_
  obtain ⟨ss,rfl,sz⟩:=hr
  conv=> fun;fun;fun;simp only [↓C5,↓U5,↓A8G,↓Z4,↓C5Z,List.length_cons,List.length_nil,L1,Nat.zero_add]
  refine (C32 sz (by omega) (by omega)).call b1 (by omega) fun r h2 hr b2 t2=> ?_
  obtain ⟨ds,rfl,ld,hd⟩:=hr
  conv=> fun;fun;fun;simp only [↓Q2,↓B0l,↓B5a,↓A8z,List.length_cons,List.length_nil,L1,Nat.zero_add]
  have c1:V9 (ds.map Dd.w) none (some 1)=(ds.take 1).map Dd.w:=by rw [show (1:Int)=((1:Nat):Int) from rfl,A8T,List.map_take]
  have c2:V9 (ds.map Dd.w) (some 1) none=(ds.drop 1).map Dd.w:=by rw [show (1:Int)=((1:Nat):Int) from rfl,B4S,List.map_drop]
  have dw:∀ds:List Dd,(ds.map St.deed).map St.w=ds.map Dd.w:=fun ds=> by rw [List.map_map];rfl
  have wA:(rA ds).w= .tup [.str "ab",.lst (ds.map Dd.w)]:=by unfold Rw.w rA;rw [dw]
  have wB:(rB ds).w= .tup [.str "b",.lst ([.tup [.str "call",.str "ab",.int 2]]++(ds.take 1).map Dd.w)]:=by
    unfold Rw.w rB
    rw [List.map_cons,dw]
    rfl
  have wC:(rC ds).w= .tup [.str "ba",.lst ((ds.drop 1).map Dd.w)]:=by unfold Rw.w rC;rw [dw]
  rw [c1,c2,←wA,←wB,←wC,F9 (by rw [List.length_map,List.length_take];omega)]
  have ld4:ds.length≤4:=by omega
  have hd:∀d∈ds,d.ok ss:=fun d h=> (hd d h).1
  have g1:=B6M hd ld4
  refine A5i (rs:=[rA ds,rB ds,rC ds]) sz g1.1 fun a0 w0 k0 h3 na0 nw0 nk0 gr3 B0 G0=> ?_
  rw [g1.2] at B0 G0
  have tw:∀e∈E3 ds,e.steps.length≤1000∧e.deeds.length≤1000:=fun e he=> ⟨(G0.ok e he).2,by have:=(G0.ok e he).1;omega⟩
  have l100:(E3 ds).length≤100:=by simp [E3]
  simp only [C5]
  rw [O6 B0 rfl]
  show m9 [.ref a0] h3 _ E
  refine B0J sz G0.un l100 tw B0 fun a1 w1 k1 h4 na1 nw1 nk1 gr4 B1=> ?_
  have B04:=gr4.bk B0
  simp only [U5,C5]
  rw [O6 B04 rfl]
  show m9 [.ref a0] h4 _ E
  refine B0J sz G0.un l100 tw B04 fun ax wx kx h5 _ _ _ gr5 Bx=> ?_
  simp only [U5,C5]
  rw [O6 Bx rfl]
  show m9 [.ref ax] h5 _ E
  refine B0J sz G0.un l100 tw Bx fun a2 w2 k2 h6 na2 nw2 nk2 gr6 B2=> ?_
  simp only [U5,C5]
  refine A5i (rs:=[rA ds,rB ds,rC ds]) sz g1.1 fun a3 w3 k3 h7 na3 nw3 nk3 gr7 B3 _=> ?_
  rw [g1.2] at B3
  have B14:=B1
  have B15:=gr5.bk B1
  have B05:=gr5.bk B04
  have B06:=gr6.bk B05
  have B16:=gr6.bk B15
  have B4:Bk4 h7 ss (T2 a0 a1 a2 a3) (T2 w0 w1 w2 w3) (T2 k0 k1 k2 k3) fun _=> E3 ds:=⟨C6G (gr7.bk B06) (gr7.bk B16) (gr7.bk B2) B3,C6I (fun i j ⟨a,b,c,d⟩=> ⟨Ne.symm a,Ne.symm c,Ne.symm b,Ne.symm d⟩)
    ⟨Q8 B0.wr nw1,Q8 B0.wr nk1,Q8 B0.la nw1,Q8 B0.la nk1⟩ ⟨Q8 B05.wr nw2,Q8 B05.wr nk2,Q8 B05.la nw2,Q8 B05.la nk2⟩ ⟨Q8 B06.wr nw3,Q8 B06.wr nk3,Q8 B06.la nw3,Q8 B06.la nk3⟩
    ⟨Q8 B15.wr nw2,Q8 B15.wr nk2,Q8 B15.la nw2,Q8 B15.la nk2⟩ ⟨Q8 B16.wr nw3,Q8 B16.wr nk3,Q8 B16.la nw3,Q8 B16.la nk3⟩ ⟨Q8 B2.wr nw3,Q8 B2.wr nk3,Q8 B2.la nw3,Q8 B2.la nk3⟩⟩
  have b7:=(((((b2.grow gr3).grow gr4).grow gr5).grow gr6).grow gr7)
  clear B0 B1 B2 B3 B04 B05 B06 B14 B15 B16 Bx nw1 nk1 nw2 nk2 nw3 nk3 na0 nw0 nk0 na1 na2 na3 gr3 gr4 gr5 gr6 gr7 b1 b2 t1 t2 hp
  simp only [C5]
  have t0:BookAt h7 a0 (.tup (ss.map .int)) w0 k0 (E3 ds):=B4.at_ 0 (by omega)
  refine A5z sz G0 t0 ?_
  subst hBS
  have sm3:=C2t sz G0 (C1r hd)
  refine A8S (fun ws _ g=> g=h7∧∀w∈ws,∃i,i < 4∧w= .ref (T2 a0 a1 a2 a3 i)) (fun _ g i=> ?_) (fun w ws _ g kn i hk=> ?_) _ _ _ ⟨rfl,fun w hw=> ?_⟩
  rotate_left
  · obtain ⟨rfl,hw⟩:=i
    obtain ⟨i,hi,rfl⟩:=hw w (by simp)
    refine A8W (fun j:Nat=> W.ref (T2 a0 a1 a2 a3 j)) (fun _=> .bl true) [0,1,2,3] [] (by simp [L1]) (fun j hj kk zz=> ?_) ?_
    · have hj4:j < 4:=by simp at hj;omega
      refine A8H G0 (B4.at_ i hi) (B4.at_ j hj4) ?_
      conv=> fun;fun;fun;simp only [↓E9,if_true,Bool.not_false]
      refine A8H G0 (B4.at_ i hi) (B4.at_ j hj4) ?_
      conv=> fun;fun;fun;simp only [↓E9,Bool.not_true,Bool.not_false]
      exact zz
    · show (cb A1M [.own (.seq (([true,true,true,true]:List Bool).map W.bl))] _:MC) g Q E
      rw [A8X,show ([true,true,true,true]:List Bool).all id=true from rfl]
      conv=> fun;fun;fun;simp only [↓Q2,↓E9,if_false,Bool.not_true,Bool.false_eq_true]
      refine A5z sz G0 (B4.at_ i hi) ?_
      show call (m__law_same 8 [W.lst ((E3 ds).map (c9 (E3 ds))),W.lst ((E3 ds).map (c9 (E3 ds)))]) _ g Q E
      rw [B5L 7 _ sm3,U4]
      conv=> fun;fun;fun;simp only [↓E9,if_false,Bool.not_true,Bool.false_eq_true]
      exact hk _ _ ⟨rfl,fun w hw'=> hw w (by simp [hw'])⟩
  · simp only [List.mem_cons,List.not_mem_nil,or_false] at hw
    rcases hw with rfl | rfl | rfl | rfl
    · exact ⟨0,by omega,rfl⟩
    · exact ⟨1,by omega,rfl⟩
    · exact ⟨2,by omega,rfl⟩
    · exact ⟨3,by omega,rfl⟩
  obtain ⟨rfl,_⟩:=i
  refine C19 sz G0 t0 fun ys g1 gr1 ly hy=> ?_
  have ly3:ys.length=3:=ly
  have t1:=gr1.bk t0
  rw [O6 t1 rfl,A4C (fun Q E=> A2J t1)]
  intro n1 nn1
  have gr2:=Grow.upd (o:= .cont (.seq ((E3 ds).map fun e=> W.str e.name))) nn1
  have e1:(C6 g1 n1 (.cont (.seq ((E3 ds).map fun e=> W.str e.name)))) n1=_:=M2
  generalize C6 g1 n1 (.cont (.seq ((E3 ds).map fun e=> W.str e.name)))=g2 at gr2 e1 ⊢
  intro n2 nn2
  have gr3:=Grow.upd (o:= .cont (.seq [])) nn2
  have e2:(C6 g2 n2 (.cont (.seq []))) n2=_:=M2
  show A4a (.own (.seq [])) _ (C6 g2 n2 (.cont (.seq []))) Q E
  generalize C6 g2 n2 (.cont (.seq []))=g3 at gr3 e2 ⊢
  intro n3 nn3
  have gr4:=Grow.upd (o:= .cont (.seq [])) nn3
  have e3:(C6 g3 n3 (.cont (.seq []))) n3=_:=M2
  show (E4 oAdd (.own (.seq ys)) (.own (.seq [.lst [.str "",.ref n1,.ref n2,.ref n3]])) fun x=> _) (C6 g3 n3 (.cont (.seq []))) Q E
  generalize C6 g3 n3 (.cont (.seq []))=g4 at gr4 e3 ⊢
  have G12:Grow g g2:=fun x u e=> gr2 _ _ (gr1 _ _ e)
  have G13:Grow g g3:=fun x u e=> gr3 _ _ (G12 _ _ e)
  have G14:Grow g g4:=fun x u e=> gr4 _ _ (G13 _ _ e)
  have hy4:∀y∈ys++[.lst [.str ("":Str),.ref n1,.ref n2,.ref n3]],RowR 1000 g g4 y:=fun y h=> by
    rcases List.mem_append.mp h with h | h
    · exact (hy y h).grow fun x u e=> gr4 _ _ (gr3 _ _ (gr2 _ _ e))
    · rw [List.mem_singleton] at h
      subst h
      exact ⟨_,n1,n2,n3,_,_,_,rfl,⟨A4d gr1 nn1,gr4 _ _ (gr3 _ _ e1),by simp [E3]⟩,⟨A4d G12 nn2,gr4 _ _ e2,by simp⟩,A4d G13 nn3,e3,by simp⟩
  conv=> fun;fun;fun;simp only [↓Q2,↓A3D,↓B5a,List.length_cons,List.length_nil,L1,Nat.zero_add,Nat.reduceLeDiff]
  rw [F9 (by rw [ly3];decide)]
  show m7 _ _ (ys++[.lst [.str ("":Str),.ref n1,.ref n2,.ref n3]]) () g4 Q E
  refine C1p G14 (by rw [List.length_append,ly3,List.length_singleton];decide) hy4 fun g5 gr5=> ?_
  have b5:=b7.grow gr5
  have B5:=B4.grow gr5
  clear gr1 gr2 gr3 gr4 e1 e2 e3 G12 G13 G14 hy4 hy nn1 nn2 nn3 t1 B4 b7 t0
  have t0:BookAt g5 a0 (.tup (ss.map .int)) w0 k0 (E3 ds):=B5.at_ 0 (by omega)
  refine A5z sz G0 t0 ?_
  show call (m__law_same 8 [W.lst ((E3 ds).map (c9 (E3 ds))),W.lst ((E3 ds).map (c9 (E3 ds)))]) _ g5 Q E
  rw [B5L 7 _ sm3,U4]
  conv=> fun;fun;fun;simp only [↓E9,if_false,Bool.not_true,Bool.false_eq_true]
  rw [O6 t0 rfl,A4C (fun Q E=> A2J t0)]
  have en3:((E3 ds).map fun e=> W.str e.name)=[.str ("ab":Str),.str ("b":Str),.str ("ba":Str)]:=rfl
  have pn3:(SV.own (.seq [W.str ("ab":Str),.str ("b":Str),.str ("ba":Str)])).pl:=Ab.so (B0D (es:=E3 ds) l100)
  rw [en3,show (RR.own (Cont.seq [W.str ("ab":Str),.str ("b":Str),.str ("ba":Str)])).sv=SV.own (.seq [W.str ("ab":Str),.str ("b":Str),.str ("ba":Str)]) from rfl,A6a pn3 pn3,decide_eq_true rfl]
  conv=> fun;fun;fun;simp only [if_false,Bool.not_true,Bool.false_eq_true]
  refine (n4 (s:=4) (by omega) (by omega)).call b5 (by omega) fun r g6 hr b6 t6=> ?_
  obtain ⟨at_,rfl,a0',a4'⟩:=hr
  obtain ⟨k,rfl⟩:∃k:Nat,at_=k:=⟨at_.toNat,by omega⟩
  have hk4:k < 4:=by omega
  have B6:Bk4 g6 ss (T2 a0 a1 a2 a3) (T2 w0 w1 w2 w3) (T2 k0 k1 k2 k3) fun _=> E3 ds:=⟨fun i hi=> by
    obtain ⟨_,ep⟩:=b5.at_
    have bi:=B5.at_ i hi
    have ne:∀{x:Addr} {u:AO},g5 x=some u→(∀ws,u≠ .cont (.seq ws))→x≠p:=fun e n z=> by
      rw [z,ep] at e
      injection e with e
      exact n _ e.symm
    exact ⟨(t6 _ (ne bi.ob fun _ z=> (by cases z))).trans bi.ob,(t6 _ (ne bi.wr fun _ z=> (by cases z))).trans bi.wr,(t6 _ (ne bi.la fun _ z=> (by cases z))).trans bi.la,bi.ne⟩,B5.un⟩
  clear t0 B5 b5
  have plL:(SV.val (.lst ((E3 ds).map (c9 (E3 ds))))).pl:=sp (B0d (E3 ds))
  refine B4v (fun (_:Unit) g=> ∃E1,Gb ss E1∧E1.map Ent.name≠(E3 ds).map Ent.name∧E1.length≠3∧Bk4 g ss (T2 a0 a1 a2 a3) (T2 w0 w1 w2 w3) (T2 k0 k1 k2 k3) fun i=> if i=k then E1 else E3 ds) (fun _ g i=> ?_) (fun kk hkk=> ?_)
  rotate_left
  · refine (n4 (s:=2) (by omega) (by omega)).call b6 (by omega) fun r g7 hr b7 t7=> ?_
    obtain ⟨c,rfl,c0,c2'⟩:=hr
    have B7:Bk4 g7 ss (T2 a0 a1 a2 a3) (T2 w0 w1 w2 w3) (T2 k0 k1 k2 k3) fun _=> E3 ds:=⟨fun i hi=> by
      obtain ⟨_,ep⟩:=b6.at_
      have bi:=B6.at_ i hi
      have ne:∀{x:Addr} {u:AO},g6 x=some u→(∀ws,u≠ .cont (.seq ws))→x≠p:=fun e n z=> by
        rw [z,ep] at e
        injection e with e
        exact n _ e.symm
      exact ⟨(t7 _ (ne bi.ob fun _ z=> (by cases z))).trans bi.ob,(t7 _ (ne bi.wr fun _ z=> (by cases z))).trans bi.wr,(t7 _ (ne bi.la fun _ z=> (by cases z))).trans bi.la,bi.ne⟩,B6.un⟩
    have bk:=B7.at_ k hk4
    conv=> fun;fun;fun;simp only [↓C5,↓U5,↓E9,↓y0,↓A6Q,decide_eq_true_eq]
    have lE3:(E3 ds).length=3:=rfl
    by_cases hc:c=0
    · rw [if_pos hc,at4 hk4,O6 bk rfl]
      have f:=A3I
      have r1:B1g ss (E3 ds) (("c":Str),[.call ("b":Str) 1]):=by
        refine ⟨f.2.2.2.2.1,f.2.2.2.2.2.2.2.2.2.1,?_,by simp [E3],fun s hs=> ?_,by simp,?_⟩
        · simp only [E3,eA,eB,eC_,List.map_cons,List.map_nil,List.mem_cons,List.not_mem_nil,or_false,not_or]
          exact ⟨f.2.2.2.2.2.2.2.2.2.2.2.2.2.1,f.2.2.2.2.2.2.2.2.2.2.2.2.2.2.1,f.2.2.2.2.2.2.2.2.2.2.2.2.2.2.2⟩
        · rw [List.mem_singleton] at hs
          subst hs
          exact ⟨by simp [E3,eA,eB,eC_],by decide⟩
        · show (1*(V5 (E3 ds) ("b":Str)).length+0)≤200
          have:=A7r G0.ok ("b":Str)
          omega
      show g8 [.ref (T2 a0 a1 a2 a3 k),.str ("c":Str),.lst [.tup [.str ("call":Str),.str ("b":Str),.int 1]]] g7 _ E
      refine B3p (r:=(("c":Str),[.call ("b":Str) 1])) sz G0 r1 bk fun h8 f8 B8=> ?_
      refine hkk _ _ ⟨_,B5h G0 r1,fun z=> ?_,?_,B7.upd hk4 f8 B8⟩
      · have z:=congrArg List.length z
        simp [O4,E3] at z
      · simp [O4,E3]
    · rw [if_neg hc,at4 hk4,O6 bk rfl]
      obtain ⟨d1,d2⟩:=C0n (ds:=ds)
      show A2G [.ref (T2 a0 a1 a2 a3 k),.str ("b":Str)] g7 _ E
      refine C1R sz G0.st (by rw [lE3];decide) bk ?_
      rw [d1,d2]
      refine hkk _ _ ⟨_,d2▸C20 (x:=("b":Str)) G0,fun z=> ?_,?_,B7.upd hk4 (fun q q1 q2=> by rw [F7 q2,F7 q1]) ⟨by rw [F7 bk.nbl,F7 bk.nbw];exact bk.ob,by rw [F7 bk.ne,M2],by rw [M2],bk.ne⟩⟩
      · have z:=congrArg List.length z
        simp [E3] at z
      · simp
  obtain ⟨E1,G1,nn,l3,B⟩:=i
  conv=> fun;fun;fun;simp only [↓C5,↓U5,↓B1M,↓y0]
  have lE3:(E3 ds).length=3:=rfl
  rw [F9 (by decide)]
  refine A8S (fun ws _ g'=> g'=g∧∀w∈ws,∃i:Nat,w=O8 i∧i < 4) (fun _ g' i=> ?_) (fun w ws _ g' kn i hkn=> ?_) _ _ _ ⟨rfl,fun w hw=> by obtain ⟨i,hi,rfl⟩:=C1w hw;exact ⟨i,rfl,hi⟩⟩
  rotate_left
  · obtain ⟨rfl,hw⟩:=i
    obtain ⟨i,rfl,hi⟩:=hw w (by simp)
    have kn':=hkn () g' ⟨rfl,fun w hw'=> hw w (by simp [hw'])⟩
    have bi:=B.at_ i hi
    have bk:=B.at_ k hk4
    rw [if_pos rfl] at bk
    rw [ix4 hi]
    simp only [C5]
    by_cases c:i=k
    · subst c
      rw [if_pos rfl] at bi
      refine A5z sz G1 bi ?_
      rw [A4R (Ab.so (show (Cont.seq (E1.map (c9 E1))).fz.plain from B0d E1)) plL,decide_eq_false (fun z=> l3 (by
        have z:W.lst (E1.map (c9 E1))=W.lst ((E3 ds).map (c9 (E3 ds))):=z
        injection z with z
        have z:=congrArg List.length z
        rw [List.length_map,List.length_map] at z
        exact z))]
      conv=> fun;fun;fun;simp only [B0L,↓y0,↓A6Q,↓A3k,Bool.not_true,decide_true]
      refine A8u ?_
      conv=> fun;fun;fun;simp only [↓E9,if_false,Bool.false_eq_true,bne_self_eq_false]
      rw [at4 hi,at4 hi]
      refine A8H G1 bi bi ?_
      refine A8u ?_
      conv=> fun;fun;fun;simp only [↓E9,if_false,Bool.not_false,Bool.false_eq_true,Bool.not_false,bne_self_eq_false]
      exact kn'
    · rw [if_neg c] at bi
      refine A5z sz G0 bi ?_
      rw [A4R (Ab.so (show (Cont.seq ((E3 ds).map (c9 (E3 ds)))).fz.plain from B0d (E3 ds))) plL,decide_eq_true (show (SV.own (Cont.seq ((E3 ds).map (c9 (E3 ds))))).fz=(SV.val (W.lst ((E3 ds).map (c9 (E3 ds))))).fz from rfl)]
      conv=> fun;fun;fun;simp only [B0L,↓y0,↓A6Q,↓A3k]
      rw [decide_eq_false (show ¬((i:Nat):Int)=k by omega)]
      refine A8u ?_
      conv=> fun;fun;fun;simp only [↓E9,if_false,Bool.not_false,Bool.false_eq_true,Bool.not_false,bne_self_eq_false]
      rw [at4 hi,at4 hk4]
      refine A7u (Ne.symm nn) l100 (by have:=G1.le;omega) bi bk ?_
      refine A8u ?_
      conv=> fun;fun;fun;simp only [↓E9,if_false,Bool.false_eq_true,bne_self_eq_false]
      exact kn'
  obtain ⟨rfl,_⟩:=i
  have hp4:A2b k < 4:=by unfold A2b;split <;> omega
  have bp:=B.at_ (A2b k) hp4
  rw [if_neg (by unfold A2b;split <;> omega)] at bp
  conv=> fun;fun;fun;simp only [C6S hk4]
  generalize T2 a0 a1 a2 a3 (A2b k)=ap at bp ⊢
  generalize T2 w0 w1 w2 w3 (A2b k)=wp at bp
  generalize T2 k0 k1 k2 k3 (A2b k)=kp at bp
  clear B
  have g2:=C4q hd ld4
  have g3:=C4m hd ld4
  refine A5i (rs:=[rA ds,rC ds,rB ds]) sz g2.1 fun x1 xw1 xk1 q1 _ _ _ gr1 X1 GX1=> ?_
  rw [g2.2] at X1 GX1
  have c3:V9 [(rA ds).w,(rB ds).w,(rC ds).w] none (some 2)=[(rA ds).w,(rB ds).w]:=rfl
  rw [c3]
  refine A5i (rs:=[rA ds,rB ds]) sz g3.1 fun x2 xw2 xk2 q2 _ _ _ gr2 X2 GX2=> ?_
  rw [g3.2] at X2 GX2
  refine A3E sz fun x3 xw3 xk3 q3 _ _ _ gr3 X3=> ?_
  obtain ⟨s0,xs,rfl⟩:∃s0 xs,ss=s0::xs:=by
    cases ss with
    | nil=> exact absurd sz.1 (by simp)
    | cons a l=> exact ⟨a,l,rfl⟩
  have c4:V9 ((s0::xs).map W.int) (some 1) none=xs.map W.int:=by rw [show (1:Int)=((1:Nat):Int) from rfl,B4S];rfl
  have l6:=sz.2.1
  have sr:=sz.2.2
  have b0:=sr s0 (by simp)
  rw [c4]
  conv=> fun;fun;fun;simp only [List.map_cons,↓C5,↓A6L,↓t5,↓n9,List.length_map]
  rw [F9 (by decide),F9 (by simp at l6;omega),show [W.int (s0 % 40+1)]++xs.map W.int=((s0 % 40+1)::xs).map W.int from rfl]
  have szo:P9 ((s0 % 40+1)::xs):=⟨by simp,by simpa using l6,fun s hs=> by
    rcases List.mem_cons.mp hs with rfl | hs
    · omega
    · exact sr s (by simp [hs])⟩
  refine A5i (rs:=[(("a":Str),[])]) szo good_4.1 fun x4 xw4 xk4 q4 _ _ _ gr4 X4 GX4=> ?_
  have bp4:=gr4.bk (gr3.bk (gr2.bk (gr1.bk bp)))
  rw [F9 (by decide)]
  have odd:(s0 % 40+1)::xs≠s0::xs:=fun z=> by injection z with z _;omega
  have f:=A3I
  refine A8W W.ref (fun _=> .bl false) [x1,x2,x3,x4] [] (by simp [L1]) (fun x hx kk zz=> ?_) ?_
  · simp only [List.mem_cons,List.not_mem_nil,or_false] at hx
    rcases hx with rfl | rfl | rfl | rfl
    · refine A7u (es1:=E3' ds) (fun z=> ?_) (by simp [E3']) l100 (gr4.bk (gr3.bk (gr2.bk X1))) bp4 zz
      simp only [E3',E3,List.map_cons,List.map_nil,List.cons.injEq] at z
      exact f.2.2.2.2.2.2.2.2.2.2.2.2.1 z.2.1.symm
    · refine A7u (fun z=> ?_) (by simp) l100 (gr4.bk (gr3.bk X2)) bp4 zz
      have z:=congrArg List.length z
      simp [E3] at z
    · refine A7u (es1:=[]) (fun z=> ?_) (by simp) l100 (gr4.bk X3) bp4 zz
      have z:=congrArg List.length z
      simp [E3] at z
    · exact B4E odd X4 bp4 zz
  · show (cb A4Z [.own (.seq (([false,false,false,false]:List Bool).map W.bl))] _:MC) q4 Q E
    rw [B6G,show ([false,false,false,false]:List Bool).any id=false from rfl]
    conv=> fun;fun;fun;simp only [↓E9,if_false,Bool.false_eq_true]
    have s12:P9 [1,2]:=⟨by simp,by simp,fun s hs=> by simp only [List.mem_cons,List.not_mem_nil,or_false] at hs;omega⟩
    have s21:P9 [2,1]:=⟨by simp,by simp,fun s hs=> by simp only [List.mem_cons,List.not_mem_nil,or_false] at hs;omega⟩
    refine A3E s12 fun y1 _ _ q5 _ _ _ gr5 Y1=> ?_
    refine A3E s21 fun y2 _ _ q6 _ _ _ gr6 Y2=> ?_
    refine B4E (by decide) (gr6.bk Y1) Y2 ?_
    conv=> fun;fun;fun;simp only [↓E9,if_false,Bool.false_eq_true]
    refine ⟨⟨trivial,trivial⟩,?_⟩
    refine A3E sz fun y3 _ _ q7 _ _ _ gr7 Y3=> ?_
    refine A3E sz fun y4 _ _ q8 _ _ _ gr8 Y4=> ?_
    refine A8H B6J (gr8.bk Y3) Y4 ?_
    conv=> fun;fun;fun;simp only [↓E9,if_true,Bool.not_false]
    refine A3E sz fun y5 _ _ q9 _ _ _ gr9 Y5=> ?_
    have cm:∀{a pw pk:Addr} {ws:List W} {g:AH} {es:List Ent} {K:SV→MC},BookAt g a (.tup ((s0::xs).map .int)) pw pk es→K (.val (.bl true)) g Q E→A9C "Book" true Q1 (.val (.ref a)) (.lst ws) K g Q E:=fun {a pw pk ws g es K} B z=> by
      refine ⟨⟨_,B.ob⟩,trivial,?_⟩
      show z9 _ _ g _ _
      unfold z9
      conv=> fun;fun;fun;simp only [↓X5,↓X0,↓A8n,↓C1o,↓C7,↓E8,↓G5,↓G4,↓K7,↓V8,↓n5,↓V7,↓M1,↓E9,if_true,Bool.not_false]
      exact ⟨false,rfl,z⟩
    refine cm Y5 ?_
    conv=> fun;fun;fun;simp only [↓E9,if_true]
    exact cm (gr9.bk (gr8.bk (gr7.bk (gr6.bk (gr5.bk bp4))))) (q _)
theorem law_says:∀ns:List Int,ns.length≤63→upc m_law [W.lst (ns.map .int)] (fun _=> none) (fun r _=> r= .val (.bl true)) fun _ _=> False:=fun ns h=> ⟨_,_,fun _ _ z=> z,fun _ _ z=> z,C4Q h _ _ _ fun _=> rfl⟩
end Ab
namespace Ab
open PySem PySem.Spec PyProof.Rows L2 RZ
def A65 (E:AExc→A1→AH→Prop):D1:=
  (aSeq (M4 (aNotT (aTst (aChn (fun i j=> decide (i≤j)) (fun i j=> decide (i≤j)) (aC (.int 1)) (aCB E5 (F0 (aVar 0) G9)) (aC (.int 6))))) (w9 E "BadSizes" "bad sizes" ["cask"] (aCons (aFz (A6h (aC (.int 1)))) aNil)) N5) (A1y (iEn (aFz (aVar 0))) (gTp 2 (A0E (K4 1) (A0E (K4 2) A4V))) (M4 (aNotT (aTst (aChn (fun i j=> decide (i≤j)) (fun i j=> decide (i≤j)) (aC (.int 1)) (aVar 2) (aC (.int 40))))) (w9 E "BadSizes" "bad sizes" ["cask"] (aCons (aFz (aVar 1)) aNil)) N5)))
def A7S (E:AExc→A1→AH→Prop):D1:=
  (I5 (aIfE (aTst (aOp2 (Z6 false) (aVar 0) (aC (.tup [.str ("over":Str),.str ("down":Str)])))) (aChn (fun i j=> decide (i≤j)) (fun i j=> decide (i≤j)) (aC (.int 4)) (aVar 1) (aOp2 oAdd (aC (.int 2)) (aVar 2))) (aOp2 (D4 false) (aVar 1) (aC (.int 3)))))
def A7R (E:AExc→A1→AH→Prop):D1:=
  (aSeq (A1y (iEn (aFz (aVar 0))) (gTp 2 (A0E (K4 3) (A0E (K4 4) A4V))) (M4 (aOrT (aNotT (aTst (aChn (fun i j=> decide (i≤j)) (fun i j=> decide (i < j)) (aC (.int 0)) (aVar 4) (aVar 2)))) (aTst (aOp2 (Z6 false) (aVar 4) (aSl (aVar 0) A1a (A1u (aVar 3)))))) (I5 (aOp2 oAdd (aVar 1) (aVar 3))) N5)) (I5 (aC .non)))
def A7X (E:AExc→A1→AH→Prop):D1:=
  (aSeq (M4 (aOrT (aTst (aOp2 (D4 false) (aCB E5 (F0 (aVar 1) G9)) (aC (.int 0)))) (aTst (aOp2 (Z6 true) (aOp2 oIx (aVar 1) (aC (.int 0))) (aOp2 oAdd (aC (.tup [.str ("over":Str),.str ("down":Str)])) (aC (.tup [.str ("swap":Str),.str ("tap":Str),.str ("drain":Str)])))))) (I5 (aC (.int 0))) N5) (aSeq (M4 (aNotT (aTst (aCall E (upc A29) (aCons (aFz (aOp2 oIx (aVar 1) (aC (.int 0)))) (aCons (aFz (aCB E5 (F0 (aVar 1) G9))) (aCons (aFz (aCB E5 (F0 (aVar 0) G9))) aNil)))))) (I5 (A6h (aC (.int 1)))) N5) (aSeq (aStar 2 3 (aFz (aVar 1))) (aSeq (M4 (aTst (aOp2 (D4 false) (aVar 2) (aC (.str ("swap":Str))))) (aSeq (aFrz 3 (N4 (aFz (aCall E (upc A0i) (aCons (aFz (aVar 3)) (aCons (aFz (aC (.int 1))) (aCons (aFz (aCB E5 (F0 (aVar 0) G9))) aNil))))) (K4 4))) (aSeq (M4 (aTst (aOp2 (O3 true) (aVar 4) (aC .non))) (I5 (aVar 4)) N5) (I5 (aIfE (aTst (aOp2 (D4 false) (aOp2 oIx (aVar 0) (aOp2 oIx (aVar 3) (aC (.int 0)))) (aOp2 oIx (aVar 0) (aOp2 oIx (aVar 3) (aC (.int 1)))))) (aC .non) (aC (.int 2)))))) N5) (aSeq (aFrz 3 (aStar 5 6 (aFz (aVar 3)))) (aSeq (M4 (aNotT (aTst (aChn (fun i j=> decide (i≤j)) (fun i j=> decide (i < j)) (aC (.int 0)) (aVar 5) (aC (.int 1000000000000000000000000000000))))) (I5 (aC (.int 1))) N5) (aFrz 6 (I5 (aCall E (upc A0i) (aCons (aFz (aVar 6)) (aCons (aFz (aC (.int 2))) (aCons (aFz (aCB E5 (F0 (aVar 0) G9))) aNil))))))))))))
def A7g (E:AExc→A1→AH→Prop):D1:=
  (I5 (t9 (aChn (fun i j=> decide (i≤j)) (fun i j=> decide (i≤j)) (aC (.int 1)) (aCB E5 (F0 (aVar 0) G9)) (aC (.int 8))) (aCB A1M (F0 (W1 [1] (B1s (aVar 0)) (K4 1) m8 (aFz (aOp2 (oInS false) (aVar 1) (aC (.str ("abcdefghijklmnopqrstuvwxyz":Str)))))) G9))))
def A7i (E:AExc→A1→AH→Prop):D1:=
  (I5 (t9 (aOp2 oGt (aCB E5 (F0 (aVar 0) G9)) (aC (.int 0))) (aOp2 (D4 false) (aOp2 oIx (aVar 0) (aC (.int 0))) (aC (.str ("call":Str))))))
def A7J (E:AExc→A1→AH→Prop):D1:=
  (aSeq (M4 (aTst (aOp2 (D4 true) (aCB E5 (F0 (aVar 0) G9)) (aC (.int 3)))) (I5 (A6h (aC (.int 1)))) N5) (I5 (aIfE (aTst (aChn (fun i j=> decide (i≤j)) (fun i j=> decide (i≤j)) (aC (.int 0)) (aOp2 oIx (aVar 0) (aC (.int 2))) (aC (.int 9)))) (aC .non) (aC (.int 2)))))
def A7P (E:AExc→A1→AH→Prop):D1:=
  (I5 (aLst (aCons (aFz (aCB O2 (F0 (aSl (aVar 0) A1a (A1u (aC (.int 63)))) G9))) (aCons (aFz (aC (.int 0))) (aCons (aFz (aC (.int 0))) (aCons (aFz (aC (.int 9465))) (aCons (aFz (aC (.int 0))) aNil)))))))
def A7Q (E:AExc→A1→AH→Prop):D1:=
  (aSeq (M4 (aAndT (aTst (aOp2 oLt (aOp2 oIx (aVar 0) (aC (.int 2))) (aVar 1))) (aTst (aOp2 oLt (aOp2 oIx (aVar 0) (aC (.int 1))) (aCB E5 (F0 (aOp2 oIx (aVar 0) (aC (.int 0))) G9))))) (aSeq (N4 (aFz (aOp2 oIx (aOp2 oIx (aVar 0) (aC (.int 0))) (aOp2 oIx (aVar 0) (aC (.int 1))))) (K4 2)) (aSeq (N4 (aFz (aOp2 oAdd (aOp2 oIx (aVar 0) (aC (.int 1))) (aC (.int 1)))) (A1v (aVar 0) (aC (.int 1)))) (aSeq (N4 (aFz (aC (.int 0))) (A1v (aVar 0) (aC (.int 2)))) (M4 (aTst (aOp2 oGe (aVar 2) (aOp2 A2k (aC (.int 10)) (aC (.int 18))))) (N4 (aFz (aVar 2)) (A1v (aVar 0) (aC (.int 2)))) (N4 (aFz (aOp2 S0 (aOp2 oAdd (aOp2 oAdd (aOp2 oMulT (aOp2 oIx (aVar 0) (aC (.int 3))) (aC (.int 48271))) (aOp2 oMulT (aOp2 S0 (aVar 2) (aC (.int 2147483629))) (aC (.int 69621)))) (aC (.int 12345))) (aC (.int 2147483647)))) (A1v (aVar 0) (aC (.int 3)))))))) N5) (aSeq (M4 (aTst (aOp2 oGe (aOp2 oIx (aVar 0) (aC (.int 2))) (aVar 1))) (aSeq (N4 (aFz (aOp2 S0 (aOp2 oIx (aVar 0) (aC (.int 2))) (aVar 1))) (K4 3)) (aSeq (N4 (aFz (aOp2 s8 (aOp2 oIx (aVar 0) (aC (.int 2))) (aVar 1))) (A1v (aVar 0) (aC (.int 2)))) (I5 (aVar 3)))) N5) (aSeq (N4 (aFz (aOp2 oAdd (aOp2 oIx (aVar 0) (aC (.int 4))) (aC (.int 1)))) (A1v (aVar 0) (aC (.int 4)))) (aSeq (N4 (aFz (aOp2 oIx (aVar 0) (aC (.int 3)))) (K4 4)) (aSeq (N4 (aFz (aOp2 S0 (aOp2 oAdd (aOp2 oAdd (aOp2 oAdd (aOp2 oMulT (aOp2 S0 (aOp2 oMulT (aVar 4) (aVar 4)) (aC (.int 2147483629))) (aC (.int 5))) (aOp2 oMulT (aVar 4) (aC (.int 16811)))) (aOp2 oMulT (aC (.int 7919)) (aOp2 oIx (aVar 0) (aC (.int 4))))) (aC (.int 2531011))) (aC (.int 2147483647)))) (A1v (aVar 0) (aC (.int 3)))) (I5 (aOp2 S0 (aOp2 oAdd (aOp2 s8 (aOp2 oIx (aVar 0) (aC (.int 3))) (aC (.int 61))) (aOp2 oMulT (aOp2 S0 (aOp2 oIx (aVar 0) (aC (.int 3))) (aC (.int 8191))) (aC (.int 31)))) (aVar 1))))))))
def A7V (E:AExc→A1→AH→Prop):D1:=
  (I5 (aOp2 oIx (aVar 1) (aCall E (upc G7) (aCons (aFz (aVar 0)) (aCons (aFz (aCB E5 (F0 (aVar 1) G9))) aNil)))))
def A7M (d:Nat) (E:AExc→A1→AH→Prop):D1:=
  (aSeq (M4 (aTst (aOp2 (O3 false) (aVar 1) (aC .non))) (I5 (aOp2 (O3 false) (aVar 0) (aC .non))) N5) (aSeq (M4 (aTst (aCB G8 (F0 (aVar 1) (F0 (aC (.ty "bool")) G9)))) (I5 (t9 (aCB G8 (F0 (aVar 0) (F0 (aC (.ty "bool")) G9))) (aOp2 (D4 false) (aVar 0) (aVar 1)))) N5) (aSeq (M4 (aTst (aCB G8 (F0 (aVar 1) (F0 (aC (.ty "int")) G9)))) (I5 (t9 (aCB G8 (F0 (aVar 0) (F0 (aC (.ty "int")) G9))) (t9 (A87 (aCB G8 (F0 (aVar 0) (F0 (aC (.ty "bool")) G9)))) (aOp2 (D4 false) (aVar 0) (aVar 1))))) N5) (aSeq (M4 (aTst (aCB G8 (F0 (aVar 1) (F0 (aC (.ty "str")) G9)))) (I5 (t9 (aCB G8 (F0 (aVar 0) (F0 (aC (.ty "str")) G9))) (aOp2 (D4 false) (aVar 0) (aVar 1)))) N5) (aSeq (M4 (aOrT (aTst (aOp2 (D4 true) (aCB G8 (F0 (aVar 1) (F0 (aC (.ty "tuple")) G9))) (aCB G8 (F0 (aVar 0) (F0 (aC (.ty "tuple")) G9))))) (aTst (aOp2 (D4 true) (aCB G8 (F0 (aVar 1) (F0 (aC (.ty "list")) G9))) (aCB G8 (F0 (aVar 0) (F0 (aC (.ty "list")) G9)))))) (I5 (aC (.bl false))) N5) (aSeq (M4 (aTst (aOp2 (D4 true) (aCB E5 (F0 (aVar 0) G9)) (aCB E5 (F0 (aVar 1) G9)))) (I5 (aC (.bl false))) N5) (I5 (aCB A1M (F0 (W1 [2] (A2n (F0 (aCB E5 (F0 (aVar 1) G9)) G9)) (K4 2) m8 (aFz (aCall E0 (upc (m__law_same d)) (aCons (aFz (aOp2 oIx (aVar 0) (aVar 2))) (aCons (aFz (aOp2 oIx (aVar 1) (aVar 2))) aNil))))) G9)))))))))
def A7F (E:AExc→A1→AH→Prop):D1:=
  (I5 (aCB Z5 (F0 (W1 [3] (A2n (F0 (aOp2 oAdd (aC (.int 1)) (aCall E (upc G7) (aCons (aFz (aVar 0)) (aCons (aFz (aVar 1)) aNil)))) G9)) (K4 3) m8 (aFz (aOp2 oAdd (aC (.int 1)) (aCall E0 (upc G7) (aCons (aFz (aVar 0)) (aCons (aFz (aVar 2)) aNil)))))) G9)))
def A60 (E:AExc→A1→AH→Prop):D1:=
  (I5 (aCall E (upc A27) (aCons (aFz (aVar 0)) (aCons (aFz (aC (.int 6))) (aCons (aFz (aCall E (upc W5) (aCons (aFz (aVar 0)) (aCons (aFz (aLst (aCons (aFz (aC (.int 40))) (aCons (aFz (aC (.int 9))) (aCons (aFz (aC (.int 4))) (aCons (aFz (aC (.int 2))) aNil)))))) aNil)))) aNil)))))
def A7D (E:AExc→A1→AH→Prop):D1:=
  (aSeq (N4 (aFz (aLst (aCons (aFz (aC (.int 0))) (aCons (aFz (aC (.int 1))) (aCons (aFz (aC (.int 2))) (aCons (aFz (aC (.int 3))) (aCons (aFz (aOp2 oAdd (aC (.int 1)) (aCall E (upc G7) (aCons (aFz (aVar 0)) (aCons (aFz (aC (.int 9))) aNil))))) (aCons (aFz (aCall E (upc G7) (aCons (aFz (aVar 0)) (aCons (aFz (aC (.int 45))) aNil)))) (aCons (aFz (aOp2 u9 (aOp2 A2k (aC (.int 10)) (aC (.int 30))) (aC (.int 1)))) (aCons (aFz (aCall E (upc G7) (aCons (aFz (aVar 0)) (aCons (aFz (aOp2 A2k (aC (.int 10)) (aC (.int 30)))) aNil)))) aNil)))))))))) (K4 1)) (I5 (aCall E (upc W5) (aCons (aFz (aVar 0)) (aCons (aFz (aVar 1)) aNil)))))
def A68 (E:AExc→A1→AH→Prop):D1:=
  (aSeq (A2r 2 (aCB O2 (F0 (aVar 1) G9))) (I5 (W1 [3] (iSq (aFz (aVar 1))) (K4 3) m8 (aFz (aLm A2T (aVar 2) (aCons (aFz (aCall E0 (upc G7) (aCons (aFz (aVar 0)) (aCons (aFz (aCB E5 (F0 (aVar 2) G9))) aNil)))) aNil))))))
def A6v (E:AExc→A1→AH→Prop):D1:=
  (I5 (aCB Z5 (F0 (aSl (aCall E (upc A2z) (aCons (aFz (aVar 0)) (aCons (aFz (B1J (aVar 1))) aNil))) A1a (A1u (aVar 2))) G9)))
def A7K (E:AExc→A1→AH→Prop):D1:=
  (aSeq (A2r 1 (aLst aNil)) (aSeq (A1y (A2n (F0 (aCB E5 (F0 (aVar 0) G9)) G9)) (K4 2) (aSeq (B1E 3 (W1 [4] (A2n (F0 (aCB E5 (F0 (aVar 0) G9)) G9)) (K4 4) (aAndT (aTst (aOp2 (D4 true) (aVar 4) (aVar 2))) (aTst (aOp2 (D4 false) (aOp2 oIx (aVar 0) (aVar 4)) (aOp2 oIx (aVar 0) (aVar 2))))) (aFz (aVar 4)))) (aFrz 3 (T1 (aExt (aVar 1) (W1 [4] (iSq (aFz (aVar 3))) (K4 4) m8 (aFz (aTup (aCons (aFz (aVar 2)) (aCons (aFz (aVar 4)) aNil)))))))))) (I5 (aVar 1))))
def A7N (E:AExc→A1→AH→Prop):D1:=
  (aSeq (N4 (aFz (aCall E (upc G7) (aCons (aFz (aVar 0)) (aCons (aFz (aC (.int 12))) aNil)))) (K4 4)) (aSeq (N4 (aFz (aCall E (upc A24) (aCons (aFz (aVar 1)) aNil))) (K4 5)) (aSeq (M4 (aAndT (aTst (aOp2 (D4 false) (aVar 4) (aC (.int 0)))) (aTst (aOp2 (D4 true) (aVar 5) (aLst aNil)))) (I5 (aOp2 oAdd (aTup (aCons (aFz (aC (.str ("swap":Str)))) aNil)) (aCall E (upc W5) (aCons (aFz (aVar 0)) (aCons (aFz (aVar 5)) aNil))))) N5) (aSeq (M4 (aAndT (aTst (aOp2 oLt (aVar 4) (aC (.int 3)))) (aTst (aVar 3))) (I5 (aTup (aCons (aFz (aC (.str ("tap":Str)))) (aCons (aFz (aCall E (upc W5) (aCons (aFz (aVar 0)) (aCons (aFz (aLst (aCons (aFz (aC (.int 1))) (aCons (aFz (aC (.int 1))) (aCons (aFz (aC (.int 2))) (aCons (aFz (aC (.int 3))) (aCons (aFz (aVar 2)) aNil))))))) aNil)))) (aCons (aFz (aCall E (upc G7) (aCons (aFz (aVar 0)) (aCons (aFz (aCB E5 (F0 (aVar 1) G9))) aNil)))) aNil))))) N5) (aSeq (M4 (aOrT (aTst (aOp2 (D4 false) (aVar 4) (aC (.int 3)))) (aTst (aOp2 (D4 false) (aCB E5 (F0 (aVar 1) G9)) (aC (.int 1))))) (I5 (aTup (aCons (aFz (aC (.str ("drain":Str)))) (aCons (aFz (aVar 2)) (aCons (aFz (aCall E (upc G7) (aCons (aFz (aVar 0)) (aCons (aFz (aCB E5 (F0 (aVar 1) G9))) aNil)))) aNil))))) N5) (aSeq (N4 (aFz (aOp2 oAdd (aC (.int 2)) (aCall E (upc G7) (aCons (aFz (aVar 0)) (aCons (aFz (aOp2 u9 (aCB E5 (F0 (aVar 1) G9)) (aC (.int 1)))) aNil))))) (K4 6)) (aSeq (N4 (aFz (aOp2 oIx (aLst (aCons (aFz (aC (.str ("over":Str)))) (aCons (aFz (aC (.str ("down":Str)))) aNil))) (aOp2 s8 (aCall E (upc G7) (aCons (aFz (aVar 0)) (aCons (aFz (aC (.int 3))) aNil))) (aC (.int 2))))) (K4 7)) (I5 (aOp2 oAdd (aTup (aCons (aFz (aVar 7)) (aCons (aFz (aVar 2)) aNil))) (aCall E (upc A0X) (aCons (aFz (aVar 0)) (aCons (aFz (aCB E5 (F0 (aVar 1) G9))) (aCons (aFz (aVar 6)) aNil)))))))))))))
def A7b (E:AExc→A1→AH→Prop):D1:=
  (I5 (W1 [4] (A2n (F0 (aCall E (upc G7) (aCons (aFz (aVar 0)) (aCons (aFz (aOp2 oAdd (aVar 2) (aC (.int 1)))) aNil))) G9)) (K4 4) m8 (aFz (aCall E0 (upc A3A) (aCons (aFz (aVar 0)) (aCons (aFz (aVar 1)) (aCons (aFz (aCall E0 (upc A22) (aCons (aFz (aVar 0)) aNil))) (aCons (aFz (aVar 3)) aNil))))))))
def A6z (E:AExc→A1→AH→Prop):D1:=
  (aSeq (M4 (aTst (aInM true (aFz (aVar 1)) (aFld "Book" "written" (aVar 0)))) (w9 E "NoRound" "no round" ["name"] (aCons (aFz (aVar 1)) aNil)) N5) (I5 (aGetM (aFld "Book" "written" (aVar 0)) (aFz (aVar 1)))))
def A63 (E:AExc→A1→AH→Prop):D1:=
  (I5 (aCB O2 (F0 (aMeth "Book" "there" E (upc Q3) (aVar 0) (aCons (aFz (aVar 1)) aNil)) G9)))
def A7L (E:AExc→A1→AH→Prop):D1:=
  (aSeq (T1 (aMeth "Book" "there" E (upc Q3) (aVar 0) (aCons (aFz (aVar 1)) aNil))) (I5 (aCB O2 (F0 (aGetM (aFld "Book" "laid" (aVar 0)) (aFz (aVar 1))) G9))))
def A66 (E:AExc→A1→AH→Prop):D1:=
  (aSeq (T1 (aMeth "Book" "there" E (upc Q3) (aVar 0) (aCons (aFz (aVar 1)) aNil))) (aSeq (A2r 2 (aLst aNil)) (aSeq (B1F 0 "Book" "written" 3 4 (M4 (aTst (aCB A4Z (F0 (W1 [5] (iSq (aFz (aVar 4))) (K4 5) m8 (aFz (t9 (aCall E0 (upc O0) (aCons (aFz (aVar 5)) aNil)) (aOp2 (D4 false) (aOp2 oIx (aVar 5) (aC (.int 1))) (aVar 1))))) G9))) (T1 (aLm Q5 (aVar 2) (aCons (aFz (aVar 3)) aNil))) N5)) (I5 (aVar 2)))))
def A7E (E:AExc→A1→AH→Prop):D1:=
  (I5 (aCB A1i (F0 (aFld "Book" "written" (aVar 0)) G9)))
def A64 (E:AExc→A1→AH→Prop):D1:=
  (I5 (W1 [1] (iSq (aFz (aMeth "Book" "names" E (upc R5) (aVar 0) aNil))) (K4 1) m8 (aFz (aLst (aCons (aFz (aVar 1)) (aCons (aFz (aMeth "Book" "steps" E0 (upc o7) (aVar 0) (aCons (aFz (aVar 1)) aNil))) (aCons (aFz (aMeth "Book" "flat" E0 (upc o9) (aVar 0) (aCons (aFz (aVar 1)) aNil))) (aCons (aFz (aMeth "Book" "callers" E0 (upc W4) (aVar 0) (aCons (aFz (aVar 1)) aNil))) aNil))))))))
def A6x (E:AExc→A1→AH→Prop):D1:=
  (I5 (W1 [1] (iSq (aFz (aMeth "Book" "names" E (upc R5) (aVar 0) aNil))) (K4 1) m8 (aFz (aLst (aCons (aFz (aVar 1)) (aCons (aPrm (aMeth "Book" "steps" E0 (upc o7) (aVar 0) (aCons (aFz (aVar 1)) aNil))) (aCons (aPrm (aMeth "Book" "flat" E0 (upc o9) (aVar 0) (aCons (aFz (aVar 1)) aNil))) (aCons (aPrm (aMeth "Book" "callers" E0 (upc W4) (aVar 0) (aCons (aFz (aVar 1)) aNil))) aNil))))))))
def A62 (E:AExc→A1→AH→Prop):D1:=
  (aSeq (T1 (aCall E (upc A20) (aCons (aFz (aVar 1)) aNil))) (aSeq (N4 (aFz (aVar 1)) (A3r "Book" "casks" (aVar 0))) (aSeq (N4 (aPrm A8J) (A3r "Book" "written" (aVar 0))) (N4 (aPrm A8J) (A3r "Book" "laid" (aVar 0))))))
def A6t (E:AExc→A1→AH→Prop):D1:=
  (aSeq (M4 (aNotT (aTst (aCall E (upc A3G) (aCons (aFz (aVar 1)) aNil)))) (w9 E "BadName" "bad name" [] aNil) N5) (aSeq (M4 (aTst (aInM false (aFz (aVar 1)) (aFld "Book" "written" (aVar 0)))) (w9 E "Taken" "taken" ["name"] (aCons (aFz (aVar 1)) aNil)) N5) (M4 (aTst (aOp2 oGe (aCB A1n (F0 (aFld "Book" "written" (aVar 0)) G9)) (aC (.int 12)))) (w9 E "TooMany" "too many" ["most"] (aCons (aFz (aC (.int 12))) aNil)) N5)))
def A61 (E:AExc→A1→AH→Prop):D1:=
  (aSeq (A2r 2 (aLst aNil)) (aSeq (A8l (iLive (aVar 1)) (K4 3) (M4 (aTst (aCall E (upc O0) (aCons (aFz (aVar 3)) aNil))) (T1 (aExt (aVar 2) (aOp2 oMulX (aGetM (aFld "Book" "laid" (aVar 0)) (aFz (aOp2 oIx (aVar 3) (aC (.int 1))))) (aOp2 oIx (aVar 3) (aC (.int 2)))))) (T1 (aLm Q5 (aVar 2) (aCons (aFz (aVar 3)) aNil))))) (I5 (aVar 2))))
def A6s (E:AExc→A1→AH→Prop):D1:=
  (aSeq (N4 (aFz (aIfE (aTst (aCall E (upc O0) (aCons (aFz (aVar 2)) aNil))) (aCall E (upc A2F) (aCons (aFz (aVar 2)) aNil)) (aCall E (upc A2I) (aCons (aFz (aFld "Book" "casks" (aVar 0))) (aCons (aFz (aVar 2)) aNil))))) (K4 3)) (aSeq (M4 (aTst (aOp2 (O3 true) (aVar 3) (aC .non))) (w9 E "BadRow" "bad row" ["step","place"] (aCons (aFz (aVar 1)) (aCons (aFz (aVar 3)) aNil))) N5) (M4 (aTst (aCall E (upc O0) (aCons (aFz (aVar 2)) aNil))) (T1 (aMeth "Book" "there" E (upc Q3) (aVar 0) (aCons (aFz (aOp2 oIx (aVar 2) (aC (.int 1)))) aNil))) N5)))
def A7B (E:AExc→A1→AH→Prop):D1:=
  (I5 (aCB y7 (F0 (A6Y [2] (iLive (aVar 1)) (K4 2) m8 (aFz (aIfE (aTst (aCall E0 (upc O0) (aCons (aFz (aVar 2)) aNil))) (aOp2 oMulT (aOp2 oIx (aVar 2) (aC (.int 2))) (aCB E5 (F0 (aGetM (aFld "Book" "laid" (aVar 0)) (aFz (aOp2 oIx (aVar 2) (aC (.int 1))))) G9))) (aC (.int 1))))) G9)))
def A6y (E:AExc→A1→AH→Prop):D1:=
  (aSeq (T1 (aMeth "Book" "look_new" E (upc A2B) (aVar 0) (aCons (aFz (aVar 1)) aNil))) (aSeq (A8l (iLvE (aVar 2)) (gTp 2 (A0E (K4 3) (A0E (K4 4) A4V))) (T1 (aMeth "Book" "look_step" E (upc A2A) (aVar 0) (aCons (aFz (aVar 3)) (aCons (aFz (aVar 4)) aNil))))) (aSeq (M4 (aTst (aOp2 oGt (aMeth "Book" "length" E (upc A2E) (aVar 0) (aCons (aFz (aVar 2)) aNil)) (aC (.int 200)))) (w9 E "TooLong" "too long" ["most"] (aCons (aFz (aC (.int 200))) aNil)) N5) (aSeq (A8h (aFz (aCB O2 (F0 (aVar 2) G9))) (aFld "Book" "written" (aVar 0)) (aFz (aVar 1))) (A8h (aFz (aMeth "Book" "laid_out" E (upc A2C) (aVar 0) (aCons (aFz (aVar 2)) aNil))) (aFld "Book" "laid" (aVar 0)) (aFz (aVar 1)))))))
def A6u (E:AExc→A1→AH→Prop):D1:=
  (aSeq (N4 (aFz (aMake "Book" E (upc P4) (aCons (aFz (aVar 0)) aNil))) (K4 2)) (aSeq (A1y (iSq (aFz (aVar 1))) (gTp 2 (A0E (K4 3) (A0E (K4 4) A4V))) (T1 (aMeth "Book" "write" E (upc g8) (aVar 2) (aCons (aFz (aVar 3)) (aCons (aFz (aVar 4)) aNil))))) (I5 (aVar 2))))
def A7H (E:AExc→A1→AH→Prop):D1:=
  (aSeq (N4 (aFz (aMake "Book" E (upc P4) (aCons (aFz (aFld "Book" "casks" (aVar 0))) aNil))) (K4 1)) (aSeq (N4 (aPrm (A6j [2,3] 0 "Book" "written" 2 3 (aFz (aVar 2)) (aFz (aCB O2 (F0 (aVar 3) G9))))) (A3r "Book" "written" (aVar 1))) (aSeq (N4 (aPrm (A6j [2,4] 0 "Book" "laid" 2 4 (aFz (aVar 2)) (aFz (aCB O2 (F0 (aVar 4) G9))))) (A3r "Book" "laid" (aVar 1))) (I5 (aVar 1)))))
def A7I (E:AExc→A1→AH→Prop):D1:=
  (aSeq (N4 (aFz (aMeth "Book" "callers" E (upc W4) (aVar 0) (aCons (aFz (aVar 1)) aNil))) (K4 2)) (aSeq (M4 (aTst (aOp2 (D4 true) (aVar 2) (aLst aNil))) (w9 E "InUse" "in use" ["name"] (aCons (aFz (aOp2 oIx (aVar 2) (aC (.int 0)))) aNil)) N5) (aSeq (A81 (aFld "Book" "written" (aVar 0)) (aFz (aVar 1))) (A81 (aFld "Book" "laid" (aVar 0)) (aFz (aVar 1))))))
def A6w (E:AExc→A1→AH→Prop):D1:=
  (aSeq (M4 (aOrT (aNotT (aTst (B1o "Book" true (aVar 1)))) (aTst (aOp2 (D4 true) (aFld "Book" "casks" (aVar 0)) (aFld "Book" "casks" (aVar 1))))) (I5 (aC (.bl false))) N5) (I5 (t9 (aOp2 (D4 false) (aMeth "Book" "names" E (upc R5) (aVar 0) aNil) (aMeth "Book" "names" E (upc R5) (aVar 1) aNil)) (aOp2 oEqM (aFld "Book" "written" (aVar 0)) (aFld "Book" "written" (aVar 1))))))
def A8o (E:AExc→A1→AH→Prop):D1:=
  (aSeq (A2r 1 (aCall E (upc A28) (aCons (aFz (aVar 0)) aNil))) (aSeq (A4U 1 (N4 (aFz (aCall E (upc A2y) (aCons (aFz (aVar 1)) aNil))) (K4 2))) (aSeq (N4 (aFz (aCall E (upc A3C) (aCons (aFz (aVar 1)) (aCons (aFz (aVar 2)) (aCons (aFz (aC (.int 4))) (aCons (aFz (aC (.bl true))) aNil)))))) (K4 3)) (aSeq (N4 (aFz (aLst (aCons (aFz (aTup (aCons (aFz (aC (.str ("ab":Str)))) (aCons (aFz (aVar 3)) aNil)))) (aCons (aFz (aTup (aCons (aFz (aC (.str ("b":Str)))) (aCons (aFz (aOp2 oAdd (aLst (aCons (aFz (aTup (aCons (aFz (aC (.str ("call":Str)))) (aCons (aFz (aC (.str ("ab":Str)))) (aCons (aFz (aC (.int 2))) aNil))))) aNil)) (aSl (aVar 3) A1a (A1u (aC (.int 1)))))) aNil)))) (aCons (aFz (aTup (aCons (aFz (aC (.str ("ba":Str)))) (aCons (aFz (aSl (aVar 3) (A1u (aC (.int 1))) A1a)) aNil)))) aNil))))) (K4 4)) (aSeq (N4 (aFz (aCall E (upc d8) (aCons (aFz (aVar 2)) (aCons (aFz (aVar 4)) aNil)))) (K4 5)) (aSeq (N4 (aFz (aLst (aCons (aFz (aVar 5)) (aCons (aFz (aMeth "Book" "twin" E (upc m9) (aVar 5) aNil)) (aCons (aFz (aMeth "Book" "twin" E (upc m9) (aMeth "Book" "twin" E (upc m9) (aVar 5) aNil) aNil)) (aCons (aFz (aCall E (upc d8) (aCons (aFz (aVar 2)) (aCons (aFz (aVar 4)) aNil)))) aNil)))))) (K4 6)) (aSeq (N4 (aFz (aCall E (upc o8) (aCons (aFz (aVar 5)) aNil))) (K4 7)) (aSeq (A1y (iSq (aFz (aVar 6))) (K4 8) (M4 (aOrT (aNotT (aTst (aCB A1M (F0 (W1 [9] (iSq (aFz (aVar 6))) (K4 9) m8 (aFz (t9 (aEqO "Book" false (upc Q1) (aVar 8) (aVar 9)) (A87 (aEqO "Book" true (upc Q1) (aVar 8) (aVar 9)))))) G9)))) (aNotT (aTst (aCall E (upc (m__law_same 8)) (aCons (aFz (aCall E (upc o8) (aCons (aFz (aVar 8)) aNil))) (aCons (aFz (aVar 7)) aNil)))))) (I5 (aC (.bl false))) N5)) (aSeq (A1y (iSq (aFz (aOp2 oAdd (aCall E (upc A2v) (aCons (aFz (aVar 5)) aNil)) (aLst (aCons (aFz (aLst (aCons (aFz (aC (.str ("":Str)))) (aCons (aPrm (aMeth "Book" "names" E (upc R5) (aVar 5) aNil)) (aCons (aPrm (aLst aNil)) (aCons (aPrm (aLst aNil)) aNil)))))) aNil))))) (K4 10) (aSeq (T1 (aLm Q5 (aOp2 oIx (aVar 10) (aC (.int 1))) (aCons (aFz (aC (.str ("":Str)))) aNil))) (aSeq (T1 (aLm Q5 (aOp2 oIx (aVar 10) (aC (.int 2))) (aCons (aFz (aC (.str ("":Str)))) aNil))) (T1 (aLm Q5 (aOp2 oIx (aVar 10) (aC (.int 3))) (aCons (aFz (aC (.str ("":Str)))) aNil)))))) (aSeq (M4 (aOrT (aNotT (aTst (aCall E (upc (m__law_same 8)) (aCons (aFz (aCall E (upc o8) (aCons (aFz (aVar 5)) aNil))) (aCons (aFz (aVar 7)) aNil))))) (aTst (aOp2 (D4 true) (aMeth "Book" "names" E (upc R5) (aVar 5) aNil) (aLst (aCons (aFz (aC (.str ("ab":Str)))) (aCons (aFz (aC (.str ("b":Str)))) (aCons (aFz (aC (.str ("ba":Str)))) aNil))))))) (I5 (aC (.bl false))) N5) (aSeq (N4 (aFz (aCall E (upc G7) (aCons (aFz (aVar 1)) (aCons (aFz (aC (.int 4))) aNil)))) (K4 11)) (aSeq (M4 (aTst (aOp2 (D4 false) (aCall E (upc G7) (aCons (aFz (aVar 1)) (aCons (aFz (aC (.int 2))) aNil))) (aC (.int 0)))) (T1 (aMeth "Book" "write" E (upc g8) (aOp2 oIx (aVar 6) (aVar 11)) (aCons (aFz (aC (.str ("c":Str)))) (aCons (aFz (aLst (aCons (aFz (aTup (aCons (aFz (aC (.str ("call":Str)))) (aCons (aFz (aC (.str ("b":Str)))) (aCons (aFz (aC (.int 1))) aNil))))) aNil))) aNil)))) (T1 (aMeth "Book" "drop" E (upc A2G) (aOp2 oIx (aVar 6) (aVar 11)) (aCons (aFz (aC (.str ("b":Str)))) aNil)))) (aSeq (A1y (A2n (F0 (aC (.int 4)) G9)) (K4 12) (M4 (aOrT (aTst (aOp2 (D4 true) (aOp2 (D4 false) (aCall E (upc o8) (aCons (aFz (aOp2 oIx (aVar 6) (aVar 12))) aNil)) (aVar 7)) (aOp2 (D4 true) (aVar 12) (aVar 11)))) (aTst (aOp2 (D4 true) (aEqO "Book" false (upc Q1) (aOp2 oIx (aVar 6) (aVar 12)) (aOp2 oIx (aVar 6) (aVar 11))) (aOp2 (D4 false) (aVar 12) (aVar 11))))) (I5 (aC (.bl false))) N5)) (aSeq (N4 (aFz (aCall E (upc d8) (aCons (aFz (aVar 2)) (aCons (aFz (aLst (aCons (aFz (aOp2 oIx (aVar 4) (aC (.int 0)))) (aCons (aFz (aOp2 oIx (aVar 4) (aC (.int 2)))) (aCons (aFz (aOp2 oIx (aVar 4) (aC (.int 1)))) aNil))))) aNil)))) (K4 13)) (aSeq (A2r 14 (aLst (aCons (aFz (aVar 13)) (aCons (aFz (aCall E (upc d8) (aCons (aFz (aVar 2)) (aCons (aFz (aSl (aVar 4) A1a (A1u (aC (.int 2))))) aNil)))) (aCons (aFz (aMake "Book" E (upc P4) (aCons (aFz (aVar 2)) aNil))) aNil))))) (aSeq (T1 (aLm Q5 (aVar 14) (aCons (aFz (aCall E (upc d8) (aCons (aFz (aOp2 oAdd (aTup (aCons (aFz (aOp2 oAdd (aOp2 S0 (aOp2 oIx (aVar 2) (aC (.int 0))) (aC (.int 40))) (aC (.int 1)))) aNil)) (aSl (aVar 2) (A1u (aC (.int 1))) A1a))) (aCons (aFz (aLst (aCons (aFz (aTup (aCons (aFz (aC (.str ("a":Str)))) (aCons (aFz (aLst aNil)) aNil)))) aNil))) aNil)))) aNil))) (aSeq (aFrz 14 (M4 (aOrT (aTst (aCB A4Z (F0 (W1 [9] (iSq (aFz (aVar 14))) (K4 9) m8 (aFz (aEqO "Book" false (upc Q1) (aVar 9) (aOp2 oIx (aVar 6) (aOp2 u9 (aVar 11) (aC (.int 1))))))) G9))) (aTst (aEqO "Book" false (upc Q1) (aMake "Book" E (upc P4) (aCons (aFz (aTup (aCons (aFz (aC (.int 1))) (aCons (aFz (aC (.int 2))) aNil)))) aNil)) (aMake "Book" E (upc P4) (aCons (aFz (aTup (aCons (aFz (aC (.int 2))) (aCons (aFz (aC (.int 1))) aNil)))) aNil))))) (I5 (aC (.bl false))) N5)) (I5 (t9 (aEqO "Book" false (upc Q1) (aMakeM "Book" E (upc P4) 2 (gMx 1 1 [0,1] []) aNil (aCons (aFz (aVar 2)) aNil)) (aMake "Book" E (upc P4) (aCons (aFz (aVar 2)) aNil))) (t9 (aCmG "Book" true (upc Q1) (aMake "Book" E (upc P4) (aCons (aFz (aVar 2)) aNil)) (aFz (aLst aNil))) (aCmG "Book" true (upc Q1) (aOp2 oIx (aVar 6) (aOp2 u9 (aVar 11) (aC (.int 1)))) (aFz (aVar 4)))))))))))))))))))))))
theorem B8Y {Q:RR→AH→Prop} {E:AExc→AH→Prop} {Q':RR→AH→Prop} {E':AExc→AH→Prop} (hQ:∀r h,Q r h→Q' r h) (hE:∀x h,E x h→E' x h) (x_sizes:W):∀h,A40 x_sizes h Q E→A65 (E2 E') (C4 Q') [some (.val x_sizes),none,none] h:=by
  have hr_:=M9 hQ
  have he:=N1 hE
  unfold A40 A65
  exact (D8 (N3 (A1D (I0 (SN.se (A3h (SN.se A8) (SN.se (J8 R6 (F5 (SN.se (A3 rfl)) H9))) (SN.se A8))))) (A1V (he _) (A7 (A6 (B1B (SN.se A8))) C2)) (N7 (D9 (A3g (fun (s10:Unit) (j11:Option SV×Option SV)=> [some (.val x_sizes),j11.1,j11.2]) () (none,none) rfl (B41 (A6 (A3 rfl))) (fun s10 j11=> (A3c hQ _)) (fun R18 w15 s10 j11 kn12 _ N14 h z=> by obtain ⟨x_cask,x_size,rfl,z17⟩:=A8P z;refine A1e [some (.val x_sizes),some (.val x_cask),some (.val x_size)] (A9L P7 P7) rfl h _ ?_;exact A1p h z17 (N3 (A1D (I0 (SN.se (A3h (SN.se A8) (SN.se (A3 rfl)) (SN.se A8))))) (A1V (he _) (A7 (A6 (A3 rfl)) C2)) (N7 (fun h z=> N14 () (some (.val x_cask),some (.val x_size)) h z)))))))))
theorem B8g (ws:List W) (h:AH) (Qa:RR→AH→Prop) (Ea:AExc→AH→Prop) (hl:ws.length=1) (z:upc A20 ws h Qa Ea):A65 (E2 Ea) (C4 Qa) (L0 3 ws) h:=by
  obtain ⟨Q0,E0,hQ,hE,z⟩:=z
  match ws,hl with
  | [x_sizes],_=> exact B8Y hQ hE x_sizes h z
theorem B9x {Q:RR→AH→Prop} {E:AExc→AH→Prop} {Q':RR→AH→Prop} {E':AExc→AH→Prop} (hQ:∀r h,Q r h→Q' r h) (hE:∀x h,E x h→E' x h) (x_word x_many x_casks:W):∀h,A5W x_word x_many x_casks h Q E→A7S (E2 E') (C4 Q') [some (.val x_word),some (.val x_many),some (.val x_casks)] h:=by
  have hr_:=M9 hQ
  generalize C4 Q'=D0 at hr_ ⊢
  obtain ⟨nx0,rt0,bk0,ct0⟩:=D0
  have hr_:∀r s env h,Rl env r s→Q s.rr h→rt0 r env h:=hr_
  have he:=N1 hE
  unfold A5W A7S
  exact (J0 hr_ (SN.se (A6M (I0 (SN.se (C1 B0m (SN.se (A3 rfl)) (SN.se A8)))) (A3h (SN.se A8) (SN.se (A3 rfl)) (SN.se (C1 T0 (SN.se A8) (SN.se (A3 rfl))))) (C1 O7 (SN.se (A3 rfl)) (SN.se A8)))))
theorem B97 (ws:List W) (h:AH) (Qa:RR→AH→Prop) (Ea:AExc→AH→Prop) (hl:ws.length=3) (z:upc A29 ws h Qa Ea):A7S (E2 Ea) (C4 Qa) (L0 3 ws) h:=by
  obtain ⟨Q0,E0,hQ,hE,z⟩:=z
  match ws,hl with
  | [x_word,x_many,x_casks],_=> exact B9x hQ hE x_word x_many x_casks h z
theorem B9k {Q:RR→AH→Prop} {E:AExc→AH→Prop} {Q':RR→AH→Prop} {E':AExc→AH→Prop} (hQ:∀r h,Q r h→Q' r h) (hE:∀x h,E x h→E' x h) (x_things x_start x_casks:W):∀h,A5K x_things x_start x_casks h Q E→A7R (E2 E') (C4 Q') [some (.val x_things),some (.val x_start),some (.val x_casks),none,none] h:=by
  have hr_:=M9 hQ
  generalize C4 Q'=D0 at hr_ ⊢
  obtain ⟨nx0,rt0,bk0,ct0⟩:=D0
  have hr_:∀r s env h,Rl env r s→Q s.rr h→rt0 r env h:=hr_
  have he:=N1 hE
  unfold A5K A7R
  exact (D8 (A3g (fun (s10:Unit) (j11:Option SV×Option SV)=> [some (.val x_things),some (.val x_start),some (.val x_casks),j11.1,j11.2]) () (none,none) rfl (B41 (A6 (A3 rfl))) (fun s10 j11=> (D9 (J0 hr_ (SN.se A8)))) (fun R18 w15 s10 j11 kn12 _ N14 h z=> by obtain ⟨x_at,x_cask,rfl,z17⟩:=A8P z;refine A1e [some (.val x_things),some (.val x_start),some (.val x_casks),some (.val x_at),some (.val x_cask)] (A9L P7 P7) rfl h _ ?_;exact A1p h z17 (N3 (A1t (A1D (I0 (SN.se (A3h (SN.se A8) (SN.se (A3 rfl)) (SN.se (A3 rfl)))))) (I0 (SN.se (C1 B0m (SN.se (A3 rfl)) (SN.se (A3q (SN.se (A3 rfl)) A3m (A3P (SN.se (A3 rfl))))))))) (J0 hr_ (SN.se (C1 T0 (SN.se (A3 rfl)) (SN.se (A3 rfl))))) (N7 (fun h z=> N14 () (some (.val x_at),some (.val x_cask)) h z))))))
theorem B9i (ws:List W) (h:AH) (Qa:RR→AH→Prop) (Ea:AExc→AH→Prop) (hl:ws.length=3) (z:upc A0i ws h Qa Ea):A7R (E2 Ea) (C4 Qa) (L0 5 ws) h:=by
  obtain ⟨Q0,E0,hQ,hE,z⟩:=z
  match ws,hl with
  | [x_things,x_start,x_casks],_=> exact B9k hQ hE x_things x_start x_casks h z
theorem C0V {Q:RR→AH→Prop} {E:AExc→AH→Prop} {Q':RR→AH→Prop} {E':AExc→AH→Prop} (hQ:∀r h,Q r h→Q' r h) (hE:∀x h,E x h→E' x h) (x_sizes x_deed:W):∀h,A5d x_sizes x_deed h Q E→A7X (E2 E') (C4 Q') [some (.val x_sizes),some (.val x_deed),none,none,none,none,none] h:=by
  have hr_:=M9 hQ
  generalize C4 Q'=D0 at hr_ ⊢
  obtain ⟨nx0,rt0,bk0,ct0⟩:=D0
  have hr_:∀r s env h,Rl env r s→Q s.rr h→rt0 r env h:=hr_
  have he:=N1 hE
  unfold A5d A7X
  exact (D8 (N3 (A1t (I0 (SN.se (C1 O7 (SN.se (J8 R6 (F5 (SN.se (A3 rfl)) H9))) (SN.se A8)))) (I0 (SN.se (C1 B0m (SN.se (C1 K2 (SN.se (A3 rfl)) (SN.se A8))) (SN.se (C1 T0 (SN.se A8) (SN.se A8))))))) (J0 hr_ (SN.se A8)) (N7 (D9 (D8 (N3 (A1D (I0 (SN.se (L4 (he _) (A7 (A6 (C1 K2 (SN.se (A3 rfl)) (SN.se A8))) (A7 (A6 (J8 R6 (F5 (SN.se (A3 rfl)) H9))) (A7 (A6 (J8 R6 (F5 (SN.se (A3 rfl)) H9))) C2))))))) (J0 hr_ (SN.se (B1B (SN.se A8)))) (N7 (D9 (D8 (B5U (fun x_word x_things=> [some (.val x_sizes),some (.val x_deed),some (.val x_word),some x_things,none,none,none]) (fun _ _=> rfl) (A6 (A3 rfl)) (fun x_word x_things=> (D9 (D8 (N3 (I0 (SN.se (C1 O7 (SN.se (A3 rfl)) (SN.se A8)))) (D8 (A54 [some (.val x_sizes),some (.val x_deed),some (.val x_word),some (.val (SV.fz x_things)),none,none,none] rfl rfl (T8 (fun x_bad=> [some (.val x_sizes),some (.val x_deed),some (.val x_word),some (.val (SV.fz x_things)),some (.val x_bad),none,none]) (fun _=> rfl) (A6 (L4 (he _) (A7 (A6 (A3 rfl)) (A7 (A6 A8) (A7 (A6 (J8 R6 (F5 (SN.se (A3 rfl)) H9))) C2))))) (fun x_bad=> (D9 (D8 (N3 (I0 (SN.se (C1 A8M (SN.se (A3 rfl)) (SN.se A8)))) (J0 hr_ (SN.se (A3 rfl))) (N7 (D9 (J0 hr_ (SN.se (A6M (I0 (SN.se (C1 O7 (SN.se (C1 K2 (SN.se (A3 rfl)) (SN.se (C1 K2 (SN.se (A3 rfl)) (SN.se A8))))) (SN.se (C1 K2 (SN.se (A3 rfl)) (SN.se (C1 K2 (SN.se (A3 rfl)) (SN.se A8)))))))) A8 A8)))))))))))) (N7 (D9 (D8 (A54 [some (.val x_sizes),some (.val x_deed),some (.val x_word),some (.val (SV.fz x_things)),none,none,none] rfl rfl (B5U (fun x_many x_casks=> [some (.val x_sizes),some (.val x_deed),some (.val x_word),some (.val (SV.fz x_things)),none,some (.val x_many),some x_casks]) (fun _ _=> rfl) (A6 (A3 rfl)) (fun x_many x_casks=> (D9 (D8 (N3 (A1D (I0 (SN.se (A3h (SN.se A8) (SN.se (A3 rfl)) (SN.se A8))))) (J0 hr_ (SN.se A8)) (N7 (D9 (A54 [some (.val x_sizes),some (.val x_deed),some (.val x_word),some (.val (SV.fz x_things)),none,some (.val x_many),some (.val (SV.fz x_casks))] rfl rfl (J0 hr_ (SN.se (L4 (he _) (A7 (A6 (A3 rfl)) (A7 (A6 A8) (A7 (A6 (J8 R6 (F5 (SN.se (A3 rfl)) H9))) C2))))))))))))))))))))))))))))))))
theorem C0e (ws:List W) (h:AH) (Qa:RR→AH→Prop) (Ea:AExc→AH→Prop) (hl:ws.length=2) (z:upc A2I ws h Qa Ea):A7X (E2 Ea) (C4 Qa) (L0 7 ws) h:=by
  obtain ⟨Q0,E0,hQ,hE,z⟩:=z
  match ws,hl with
  | [x_sizes,x_deed],_=> exact C0V hQ hE x_sizes x_deed h z
theorem C1F {Q:RR→AH→Prop} {E:AExc→AH→Prop} {Q':RR→AH→Prop} {E':AExc→AH→Prop} (hQ:∀r h,Q r h→Q' r h) (hE:∀x h,E x h→E' x h) (x_text:W):∀h,A5j x_text h Q E→A7g (E2 E') (C4 Q') [some (.val x_text),none] h:=by
  have hr_:=M9 hQ
  generalize C4 Q'=D0 at hr_ ⊢
  obtain ⟨nx0,rt0,bk0,ct0⟩:=D0
  have hr_:∀r s env h,Rl env r s→Q s.rr h→rt0 r env h:=hr_
  have he:=N1 hE
  unfold A5j A7g
  exact (J0 hr_ (SN.se (A0L (SN.se (A3h (SN.se A8) (SN.se (J8 R6 (F5 (SN.se (A3 rfl)) H9))) (SN.se A8))) (J8 A55 (F5 (SN.se (A1J (C1q (SN.se (A3 rfl))) (fun x_sign h kk K1 K0 h1 h0 z=> by exact w4 (e1:=[some (.val x_text),some (.val x_sign)]) P7 A0M (A6 (C1 C3w (SN.se (A3 rfl)) (SN.se A8))) rfl h1 h0 z))) H9)))))
theorem C1N (ws:List W) (h:AH) (Qa:RR→AH→Prop) (Ea:AExc→AH→Prop) (hl:ws.length=1) (z:upc A3G ws h Qa Ea):A7g (E2 Ea) (C4 Qa) (L0 2 ws) h:=by
  obtain ⟨Q0,E0,hQ,hE,z⟩:=z
  match ws,hl with
  | [x_text],_=> exact C1F hQ hE x_text h z
theorem C0y {Q:RR→AH→Prop} {E:AExc→AH→Prop} {Q':RR→AH→Prop} {E':AExc→AH→Prop} (hQ:∀r h,Q r h→Q' r h) (hE:∀x h,E x h→E' x h) (x_step:W):∀h,A5h x_step h Q E→A7i (E2 E') (C4 Q') [some (.val x_step)] h:=by
  have hr_:=M9 hQ
  generalize C4 Q'=D0 at hr_ ⊢
  obtain ⟨nx0,rt0,bk0,ct0⟩:=D0
  have hr_:∀r s env h,Rl env r s→Q s.rr h→rt0 r env h:=hr_
  have he:=N1 hE
  unfold A5h A7i
  exact (J0 hr_ (SN.se (A0L (SN.se (C1 B63 (SN.se (J8 R6 (F5 (SN.se (A3 rfl)) H9))) (SN.se A8))) (C1 O7 (SN.se (C1 K2 (SN.se (A3 rfl)) (SN.se A8))) (SN.se A8)))))
theorem C09 (ws:List W) (h:AH) (Qa:RR→AH→Prop) (Ea:AExc→AH→Prop) (hl:ws.length=1) (z:upc O0 ws h Qa Ea):A7i (E2 Ea) (C4 Qa) (L0 1 ws) h:=by
  obtain ⟨Q0,E0,hQ,hE,z⟩:=z
  match ws,hl with
  | [x_step],_=> exact C0y hQ hE x_step h z
theorem B9Z {Q:RR→AH→Prop} {E:AExc→AH→Prop} {Q':RR→AH→Prop} {E':AExc→AH→Prop} (hQ:∀r h,Q r h→Q' r h) (hE:∀x h,E x h→E' x h) (x_step:W):∀h,A5C x_step h Q E→A7J (E2 E') (C4 Q') [some (.val x_step)] h:=by
  have hr_:=M9 hQ
  generalize C4 Q'=D0 at hr_ ⊢
  obtain ⟨nx0,rt0,bk0,ct0⟩:=D0
  have hr_:∀r s env h,Rl env r s→Q s.rr h→rt0 r env h:=hr_
  have he:=N1 hE
  unfold A5C A7J
  exact (D8 (N3 (I0 (SN.se (C1 O7 (SN.se (J8 R6 (F5 (SN.se (A3 rfl)) H9))) (SN.se A8)))) (J0 hr_ (SN.se (B1B (SN.se A8)))) (N7 (D9 (J0 hr_ (SN.se (A6M (I0 (SN.se (A3h (SN.se A8) (SN.se (C1 K2 (SN.se (A3 rfl)) (SN.se A8))) (SN.se A8)))) A8 A8)))))))
theorem B9W (ws:List W) (h:AH) (Qa:RR→AH→Prop) (Ea:AExc→AH→Prop) (hl:ws.length=1) (z:upc A2F ws h Qa Ea):A7J (E2 Ea) (C4 Qa) (L0 1 ws) h:=by
  obtain ⟨Q0,E0,hQ,hE,z⟩:=z
  match ws,hl with
  | [x_step],_=> exact B9Z hQ hE x_step h z
theorem B9o {Q:RR→AH→Prop} {E:AExc→AH→Prop} {Q':RR→AH→Prop} {E':AExc→AH→Prop} (hQ:∀r h,Q r h→Q' r h) (hE:∀x h,E x h→E' x h) (x_script:W):∀h,A5V x_script h Q E→A7P (E2 E') (C4 Q') [some (.val x_script)] h:=by
  have hr_:=M9 hQ
  generalize C4 Q'=D0 at hr_ ⊢
  obtain ⟨nx0,rt0,bk0,ct0⟩:=D0
  have hr_:∀r s env h,Rl env r s→Q s.rr h→rt0 r env h:=hr_
  have he:=N1 hE
  unfold A5V A7P
  exact (J0 hr_ (SN.se (P6 (A7 (A6 (J8 A3N (F5 (SN.se (A3q (SN.se (A3 rfl)) A3m (A3P (SN.se A8)))) H9))) (A7 (A6 A8) (A7 (A6 A8) (A7 (A6 A8) (A7 (A6 A8) C2))))))))
theorem C0L (ws:List W) (h:AH) (Qa:RR→AH→Prop) (Ea:AExc→AH→Prop) (hl:ws.length=1) (z:upc A28 ws h Qa Ea):A7P (E2 Ea) (C4 Qa) (L0 1 ws) h:=by
  obtain ⟨Q0,E0,hQ,hE,z⟩:=z
  match ws,hl with
  | [x_script],_=> exact B9o hQ hE x_script h z
theorem C0J {Q:RR→AH→Prop} {E:AExc→AH→Prop} {Q':RR→AH→Prop} {E':AExc→AH→Prop} (hQ:∀r h,Q r h→Q' r h) (hE:∀x h,E x h→E' x h) (x_bag x_sides:W):∀h,A5J x_bag x_sides h Q E→A7Q (E2 E') (C4 Q') [some (.val x_bag),some (.val x_sides),none,none,none] h:=by
  have hr_:=M9 hQ
  generalize C4 Q'=D0 at hr_ ⊢
  obtain ⟨nx0,rt0,bk0,ct0⟩:=D0
  have hr_:∀r s env h,Rl env r s→Q s.rr h→rt0 r env h:=hr_
  have he:=N1 hE
  unfold A5J A7Q
  exact (B5B (fun (s5:SV) (j6:Option SV)=> [some s5,some (.val x_sides),j6,none,none]) (fun s5 j6=> (D8 (N3 (I0 (SN.se (C1 B1c (SN.se (C1 K2 (s4 rfl) (SN.se A8))) (SN.se (A3 rfl))))) (D8 (T8 (fun x_side=> [some s5,some (.val x_sides),j6,some (.val x_side),none]) (fun _=> rfl) (A6 (C1 A2R (SN.se (C1 K2 (s4 rfl) (SN.se A8))) (SN.se (A3 rfl)))) (fun x_side=> (D9 (D8 (A3H (fun x_bag=> [some x_bag,some (.val x_sides),j6,some (.val x_side),none]) (fun _=> rfl) (A6 (C1 B0R (SN.se (C1 K2 (s4 rfl) (SN.se A8))) (SN.se (A3 rfl)))) rfl (SN.se A8) (fun x_bag=> (D9 (J0 hr_ (SN.se (A3 rfl))))))))))) (N7 (D9 (D8 (A3H (fun x_bag=> [some x_bag,some (.val x_sides),j6,none,none]) (fun _=> rfl) (A6 (C1 T0 (SN.se (C1 K2 (s4 rfl) (SN.se A8))) (SN.se A8))) rfl (SN.se A8) (fun x_bag=> (D9 (D8 (T8 (fun x_mix=> [some x_bag,some (.val x_sides),j6,none,some (.val x_mix)]) (fun _=> rfl) (A6 (C1 K2 (s4 rfl) (SN.se A8))) (fun x_mix=> (D9 (D8 (A3H (fun x_bag=> [some x_bag,some (.val x_sides),j6,none,some (.val x_mix)]) (fun _=> rfl) (A6 (C1 A2R (SN.se (C1 T0 (SN.se (C1 T0 (SN.se (C1 T0 (SN.se (C1 A2Q (SN.se (C1 A2R (SN.se (C1 A2Q (SN.se (A3 rfl)) (SN.se (A3 rfl)))) (SN.se A8))) (SN.se A8))) (SN.se (C1 A2Q (SN.se (A3 rfl)) (SN.se A8))))) (SN.se (C1 A2Q (SN.se A8) (SN.se (C1 K2 (s4 rfl) (SN.se A8))))))) (SN.se A8))) (SN.se A8))) rfl (SN.se A8) (fun x_bag=> (D9 (J0 hr_ (SN.se (C1 A2R (SN.se (C1 T0 (SN.se (C1 B0R (SN.se (C1 K2 (s4 rfl) (SN.se A8))) (SN.se A8))) (SN.se (C1 A2Q (SN.se (C1 A2R (SN.se (C1 K2 (s4 rfl) (SN.se A8))) (SN.se A8))) (SN.se A8))))) (SN.se (A3 rfl)))))))))))))))))))))) (fun N8=> (N3 (A8Y (I0 (SN.se (C1 B1d (SN.se (C1 K2 (SN.se (A3 rfl)) (SN.se A8))) (SN.se (A3 rfl))))) (I0 (SN.se (C1 B1d (SN.se (C1 K2 (SN.se (A3 rfl)) (SN.se A8))) (SN.se (J8 R6 (F5 (SN.se (C1 K2 (SN.se (A3 rfl)) (SN.se A8))) H9))))))) (D8 (T8 (fun x_cell=> [some (.val x_bag),some (.val x_sides),some (.val x_cell),none,none]) (fun _=> rfl) (A6 (C1 K2 (SN.se (C1 K2 (SN.se (A3 rfl)) (SN.se A8))) (SN.se (C1 K2 (SN.se (A3 rfl)) (SN.se A8))))) (fun x_cell=> (D9 (D8 (A3H (fun x_bag=> [some x_bag,some (.val x_sides),some (.val x_cell),none,none]) (fun _=> rfl) (A6 (C1 T0 (SN.se (C1 K2 (SN.se (A3 rfl)) (SN.se A8))) (SN.se A8))) rfl (SN.se A8) (fun x_bag=> (D9 (D8 (A3H (fun x_bag=> [some x_bag,some (.val x_sides),some (.val x_cell),none,none]) (fun _=> rfl) (A6 A8) rfl (SN.se A8) (fun x_bag=> (D9 (N3 (I0 (SN.se (C1 B1c (SN.se (A3 rfl)) (SN.se (C1 B0s (SN.se A8) (SN.se A8)))))) (A3H (fun x_bag=> [some x_bag,some (.val x_sides),some (.val x_cell),none,none]) (fun _=> rfl) (A6 (A3 rfl)) rfl (SN.se A8) (fun x_bag=> (fun h z=> N8 x_bag (some (.val x_cell)) h z))) (A3H (fun x_bag=> [some x_bag,some (.val x_sides),some (.val x_cell),none,none]) (fun _=> rfl) (A6 (C1 A2R (SN.se (C1 T0 (SN.se (C1 T0 (SN.se (C1 A2Q (SN.se (C1 K2 (s4 rfl) (SN.se A8))) (SN.se A8))) (SN.se (C1 A2Q (SN.se (C1 A2R (SN.se (A3 rfl)) (SN.se A8))) (SN.se A8))))) (SN.se A8))) (SN.se A8))) rfl (SN.se A8) (fun x_bag=> (fun h z=> N8 x_bag (some (.val x_cell)) h z)))))))))))))))) (N7 (fun h z=> N8 (.val x_bag) (none) h z)))))
theorem C0H (ws:List W) (h:AH) (Qa:RR→AH→Prop) (Ea:AExc→AH→Prop) (hl:ws.length=2) (z:upc G7 ws h Qa Ea):A7Q (E2 Ea) (C4 Qa) (L0 5 ws) h:=by
  obtain ⟨Q0,E0,hQ,hE,z⟩:=z
  match ws,hl with
  | [x_bag,x_sides],_=> exact C0J hQ hE x_bag x_sides h z
theorem B92 {Q:RR→AH→Prop} {E:AExc→AH→Prop} {Q':RR→AH→Prop} {E':AExc→AH→Prop} (hQ:∀r h,Q r h→Q' r h) (hE:∀x h,E x h→E' x h) (x_bag x_row_here:W):∀h,A5Q x_bag x_row_here h Q E→A7V (E2 E') (C4 Q') [some (.val x_bag),some (.val x_row_here)] h:=by
  have hr_:=M9 hQ
  generalize C4 Q'=D0 at hr_ ⊢
  obtain ⟨nx0,rt0,bk0,ct0⟩:=D0
  have hr_:∀r s env h,Rl env r s→Q s.rr h→rt0 r env h:=hr_
  have he:=N1 hE
  unfold A5Q A7V
  exact (J0 hr_ (SN.se (C1 K2 (SN.se (A3 rfl)) (SN.se (L4 (he _) (A7 (A6 (A3 rfl)) (A7 (A6 (J8 R6 (F5 (SN.se (A3 rfl)) H9))) C2)))))))
theorem B96 (ws:List W) (h:AH) (Qa:RR→AH→Prop) (Ea:AExc→AH→Prop) (hl:ws.length=2) (z:upc W5 ws h Qa Ea):A7V (E2 Ea) (C4 Qa) (L0 2 ws) h:=by
  obtain ⟨Q0,E0,hQ,hE,z⟩:=z
  match ws,hl with
  | [x_bag,x_row_here],_=> exact B92 hQ hE x_bag x_row_here h z
theorem B9v (d:Nat) {Q:RR→AH→Prop} {E:AExc→AH→Prop} {Q':RR→AH→Prop} {E':AExc→AH→Prop} (hQ:∀r h,Q r h→Q' r h) (hE:∀x h,E x h→E' x h) (x_found x_due:W):∀h,A26 (m__law_same d) x_found x_due h Q E→A7M d (E2 E') (C4 Q') [some (.val x_found),some (.val x_due),none] h:=by
  have hr_:=M9 hQ
  generalize C4 Q'=D0 at hr_ ⊢
  obtain ⟨nx0,rt0,bk0,ct0⟩:=D0
  have hr_:∀r s env h,Rl env r s→Q s.rr h→rt0 r env h:=hr_
  have he:=N1 hE
  unfold A26 A7M
  exact (D8 (N3 (I0 (SN.se (C1 A8M (SN.se (A3 rfl)) (SN.se A8)))) (J0 hr_ (SN.se (C1 A8M (SN.se (A3 rfl)) (SN.se A8)))) (N7 (D9 (D8 (N3 (I0 (SN.se (J8 A0I (F5 (SN.se (A3 rfl)) (F5 (SN.se A8) H9))))) (J0 hr_ (SN.se (A0L (SN.se (J8 A0I (F5 (SN.se (A3 rfl)) (F5 (SN.se A8) H9)))) (C1 O7 (SN.se (A3 rfl)) (SN.se (A3 rfl)))))) (N7 (D9 (D8 (N3 (I0 (SN.se (J8 A0I (F5 (SN.se (A3 rfl)) (F5 (SN.se A8) H9))))) (J0 hr_ (SN.se (A0L (SN.se (J8 A0I (F5 (SN.se (A3 rfl)) (F5 (SN.se A8) H9)))) (A0L (SN.se (B6C (SN.se (J8 A0I (F5 (SN.se (A3 rfl)) (F5 (SN.se A8) H9)))))) (C1 O7 (SN.se (A3 rfl)) (SN.se (A3 rfl))))))) (N7 (D9 (D8 (N3 (I0 (SN.se (J8 A0I (F5 (SN.se (A3 rfl)) (F5 (SN.se A8) H9))))) (J0 hr_ (SN.se (A0L (SN.se (J8 A0I (F5 (SN.se (A3 rfl)) (F5 (SN.se A8) H9)))) (C1 O7 (SN.se (A3 rfl)) (SN.se (A3 rfl)))))) (N7 (D9 (D8 (N3 (A1t (I0 (SN.se (C1 O7 (SN.se (J8 A0I (F5 (SN.se (A3 rfl)) (F5 (SN.se A8) H9)))) (SN.se (J8 A0I (F5 (SN.se (A3 rfl)) (F5 (SN.se A8) H9))))))) (I0 (SN.se (C1 O7 (SN.se (J8 A0I (F5 (SN.se (A3 rfl)) (F5 (SN.se A8) H9)))) (SN.se (J8 A0I (F5 (SN.se (A3 rfl)) (F5 (SN.se A8) H9)))))))) (J0 hr_ (SN.se A8)) (N7 (D9 (D8 (N3 (I0 (SN.se (C1 O7 (SN.se (J8 R6 (F5 (SN.se (A3 rfl)) H9))) (SN.se (J8 R6 (F5 (SN.se (A3 rfl)) H9)))))) (J0 hr_ (SN.se A8)) (N7 (D9 (J0 hr_ (SN.se (J8 A55 (F5 (SN.se (A1J (A4A (F5 (SN.se (J8 R6 (F5 (SN.se (A3 rfl)) H9))) H9)) (fun x_at h kk K1 K0 h1 h0 z=> by exact w4 (e1:=[some (.val x_found),some (.val x_due),some (.val x_at)]) P7 A0M (A6 (A3J (A7 (A6 (C1 K2 (SN.se (A3 rfl)) (SN.se (A3 rfl)))) (A7 (A6 (C1 K2 (SN.se (A3 rfl)) (SN.se (A3 rfl)))) C2)))) rfl h1 h0 z))) H9))))))))))))))))))))))))))))
theorem B98 (d:Nat) (ws:List W) (h:AH) (Qa:RR→AH→Prop) (Ea:AExc→AH→Prop) (hl:ws.length=2) (z:upc (m__law_same (d+1)) ws h Qa Ea):A7M d (E2 Ea) (C4 Qa) (L0 3 ws) h:=by
  obtain ⟨Q0,E0,hQ,hE,z⟩:=z
  match ws,hl with
  | [x_found,x_due],_=> exact B9v d hQ hE x_found x_due h z
theorem B9S {Q:RR→AH→Prop} {E:AExc→AH→Prop} {Q':RR→AH→Prop} {E':AExc→AH→Prop} (hQ:∀r h,Q r h→Q' r h) (hE:∀x h,E x h→E' x h) (x_bag x_mcasks x_most:W):∀h,A5H x_bag x_mcasks x_most h Q E→A7F (E2 E') (C4 Q') [some (.val x_bag),some (.val x_mcasks),some (.val x_most),none] h:=by
  have hr_:=M9 hQ
  generalize C4 Q'=D0 at hr_ ⊢
  obtain ⟨nx0,rt0,bk0,ct0⟩:=D0
  have hr_:∀r s env h,Rl env r s→Q s.rr h→rt0 r env h:=hr_
  have he:=N1 hE
  unfold A5H A7F
  exact (J0 hr_ (SN.se (J8 B5O (F5 (SN.se (A1J (A4A (F5 (SN.se (C1 T0 (SN.se A8) (SN.se (L4 (he _) (A7 (A6 (A3 rfl)) (A7 (A6 (A3 rfl)) C2)))))) H9)) (fun x_mcask h kk K1 K0 h1 h0 z=> by exact w4 (e1:=[some (.val x_bag),some (.val x_mcasks),some (.val x_most),some (.val x_mcask)]) P7 A0M (A6 (C1 T0 (SN.se A8) (SN.se (A3J (A7 (A6 (A3 rfl)) (A7 (A6 (A3 rfl)) C2)))))) rfl h1 h0 z))) H9))))
theorem B9M (ws:List W) (h:AH) (Qa:RR→AH→Prop) (Ea:AExc→AH→Prop) (hl:ws.length=3) (z:upc A27 ws h Qa Ea):A7F (E2 Ea) (C4 Qa) (L0 4 ws) h:=by
  obtain ⟨Q0,E0,hQ,hE,z⟩:=z
  match ws,hl with
  | [x_bag,x_mcasks,x_most],_=> exact B9S hQ hE x_bag x_mcasks x_most h z
theorem B8G {Q:RR→AH→Prop} {E:AExc→AH→Prop} {Q':RR→AH→Prop} {E':AExc→AH→Prop} (hQ:∀r h,Q r h→Q' r h) (hE:∀x h,E x h→E' x h) (x_bag:W):∀h,A4u x_bag h Q E→A60 (E2 E') (C4 Q') [some (.val x_bag)] h:=by
  have hr_:=M9 hQ
  generalize C4 Q'=D0 at hr_ ⊢
  obtain ⟨nx0,rt0,bk0,ct0⟩:=D0
  have hr_:∀r s env h,Rl env r s→Q s.rr h→rt0 r env h:=hr_
  have he:=N1 hE
  unfold A4u A60
  exact (J0 hr_ (SN.se (L4 (he _) (A7 (A6 (A3 rfl)) (A7 (A6 A8) (A7 (A6 (L4 (he _) (A7 (A6 (A3 rfl)) (A7 (A6 (P6 (A7 (A6 A8) (A7 (A6 A8) (A7 (A6 A8) (A7 (A6 A8) C2)))))) C2)))) C2))))))
theorem B8K (ws:List W) (h:AH) (Qa:RR→AH→Prop) (Ea:AExc→AH→Prop) (hl:ws.length=1) (z:upc A2y ws h Qa Ea):A60 (E2 Ea) (C4 Qa) (L0 1 ws) h:=by
  obtain ⟨Q0,E0,hQ,hE,z⟩:=z
  match ws,hl with
  | [x_bag],_=> exact B8G hQ hE x_bag h z
theorem B80 {Q:RR→AH→Prop} {E:AExc→AH→Prop} {Q':RR→AH→Prop} {E':AExc→AH→Prop} (hQ:∀r h,Q r h→Q' r h) (hE:∀x h,E x h→E' x h) (x_bag:W):∀h,A46 x_bag h Q E→A7D (E2 E') (C4 Q') [some (.val x_bag),none] h:=by
  have hr_:=M9 hQ
  generalize C4 Q'=D0 at hr_ ⊢
  obtain ⟨nx0,rt0,bk0,ct0⟩:=D0
  have hr_:∀r s env h,Rl env r s→Q s.rr h→rt0 r env h:=hr_
  have he:=N1 hE
  unfold A46 A7D
  exact (D8 (T8 (fun x_some=> [some (.val x_bag),some (.val x_some)]) (fun _=> rfl) (A6 (P6 (A7 (A6 A8) (A7 (A6 A8) (A7 (A6 A8) (A7 (A6 A8) (A7 (A6 (C1 T0 (SN.se A8) (SN.se (L4 (he _) (A7 (A6 (A3 rfl)) (A7 (A6 A8) C2)))))) (A7 (A6 (L4 (he _) (A7 (A6 (A3 rfl)) (A7 (A6 A8) C2)))) (A7 (A6 (C1 A8K (SN.se (C1 B0s (SN.se A8) (SN.se A8))) (SN.se A8))) (A7 (A6 (L4 (he _) (A7 (A6 (A3 rfl)) (A7 (A6 (C1 B0s (SN.se A8) (SN.se A8))) C2)))) C2)))))))))) (fun x_some=> (D9 (J0 hr_ (SN.se (L4 (he _) (A7 (A6 (A3 rfl)) (A7 (A6 (A3 rfl)) C2)))))))))
theorem B89 (ws:List W) (h:AH) (Qa:RR→AH→Prop) (Ea:AExc→AH→Prop) (hl:ws.length=1) (z:upc A22 ws h Qa Ea):A7D (E2 Ea) (C4 Qa) (L0 2 ws) h:=by
  obtain ⟨Q0,E0,hQ,hE,z⟩:=z
  match ws,hl with
  | [x_bag],_=> exact B80 hQ hE x_bag h z
theorem B0u {Q:RR→AH→Prop} {E:AExc→AH→Prop} {envOf:SV→A1} {vs:List Nat} {g:K5} {tb:L8} {tv:D5} {body:W→SV→(SV→Option W→MC)→MC} {k:SV→List W→MC} {K:List W→A1→AH→Prop} (hk:∀s acc h',k s acc h' Q E→K acc (envOf s) h')
    (b:∀w s h (kk:SV→Option W→MC) (K1:W→A1→AH→Prop) (K0:A1→AH→Prop),(∀s y h',kk s (some y) h' Q E→K1 y (envOf s) h')→(∀s h',kk s none h' Q E→K0 (envOf s) h')→body w s kk h Q E→
      g w (P8 (envOf s) vs) h fun e1 h1=> tb e1 h1 fun b e2 h2=> if b=true then tv e2 h2 fun y e3 h3=> K1 y (mend (envOf s) e3 vs) h3 else K0 (mend (envOf s) e2 vs) h2):
    ∀(ws:List W) (s:SV) (acc:List W) (h:AH),A6i body k ws s acc h Q E→lcLoop vs g tb tv K ws acc (envOf s) h
  | [],s,acc,h,z=> hk s acc h z
  | w::ws,s,acc,h,z=> b w s h _ (fun y e3 h3=> acc.length < sizeLine∧lcLoop vs g tb tv K ws (acc++[y]) e3 h3) (fun e2 h2=> lcLoop vs g tb tv K ws acc e2 h2)
      (fun s y h' z=> ⟨z.1,B0u hk b ws s (acc++[y]) h' z.2⟩) (fun s h' z=> B0u hk b ws s acc h' z) z
theorem B8U {Q:RR→AH→Prop} {E:AExc→AH→Prop} {Q':RR→AH→Prop} {E':AExc→AH→Prop} (hQ:∀r h,Q r h→Q' r h) (hE:∀x h,E x h→E' x h) (x_bag x_row:W):∀h,A4x x_bag x_row h Q E→A68 (E2 E') (C4 Q') [some (.val x_bag),some (.val x_row),none,none] h:=by
  have hr_:=M9 hQ
  have he:=N1 hE
  unfold A4x A68
  refine D8 (A4N (fun x=> [some (.val x_bag),some (.val x_row),some x,none]) (fun _=> rfl) (J8 A3N (F5 (SN.se (A3 rfl)) H9)) fun x_left=> D9 (C3j fun h z=> ?_))
  refine A05 (env:=[some (.val x_bag),some (.val x_row),some x_left,none]) (A6 (A3 (i:=1) rfl)) h _ _ (fun ws h1 z=> ?_) z
  refine B0u (envOf:=fun s=> [some (.val x_bag),some (.val x_row),some s,none]) (fun s acc h' z=> hr_ (.own (.seq acc)) (.own (.seq acc)) _ _ rfl z) (fun v s h kk K1 K0 h1 h0 z=> ?_) ws x_left [] h1 z
  refine P7 (i:=3) (env:=[some (.val x_bag),some (.val x_row),some s,none]) h _ ?_
  refine C3x ?_
  exact B6h (i:=2) (env:=[some (.val x_bag),some (.val x_row),some s,some (.val v)]) (K:=fun r env' h'=> match r with
    | .val w=> K1 w (mend [some (.val x_bag),some (.val x_row),some s,none] env' [3]) h'
    | .own c=> K1 c.fz (mend [some (.val x_bag),some (.val x_row),some s,none] env' [3]) h'
    | .slot i=> match env'[i]? with
      | some (some (.val w))=> K1 w (mend [some (.val x_bag),some (.val x_row),some s,none] env' [3]) h'
      | some (some (.own c))=> K1 c.fz (mend [some (.val x_bag),some (.val x_row),some s,none] (env'.set i (some (.val c.fz))) [3]) h'
      | _=> False) C0w rfl (A7 (A6 (A3J (A7 (A6 (A3 rfl)) (A7 (A6 (J8 R6 (F5 (s4 rfl) H9))) C2)))) C2) (fun x' w h z=> h1 x' w h z) h z
theorem B8h (ws:List W) (h:AH) (Qa:RR→AH→Prop) (Ea:AExc→AH→Prop) (hl:ws.length=2) (z:upc A2z ws h Qa Ea):A68 (E2 Ea) (C4 Qa) (L0 4 ws) h:=by
  obtain ⟨Q0,E0,hQ,hE,z⟩:=z
  match ws,hl with
  | [x_bag,x_row],_=> exact B8U hQ hE x_bag x_row h z
theorem B78 {Q:RR→AH→Prop} {E:AExc→AH→Prop} {Q':RR→AH→Prop} {E':AExc→AH→Prop} (hQ:∀r h,Q r h→Q' r h) (hE:∀x h,E x h→E' x h) (x_bag x_mcasks x_mmany:W):∀h,A4m x_bag x_mcasks x_mmany h Q E→A6v (E2 E') (C4 Q') [some (.val x_bag),some (.val x_mcasks),some (.val x_mmany)] h:=by
  have hr_:=M9 hQ
  generalize C4 Q'=D0 at hr_ ⊢
  obtain ⟨nx0,rt0,bk0,ct0⟩:=D0
  have hr_:∀r s env h,Rl env r s→Q s.rr h→rt0 r env h:=hr_
  have he:=N1 hE
  unfold A4m A6v
  exact (J0 hr_ (SN.se (J8 B5O (F5 (SN.se (A3q (SN.se (L4 (he _) (A7 (A6 (A3 rfl)) (A7 (A6 (C22 (SN.se (A3 rfl)))) C2)))) A3m (A3P (SN.se (A3 rfl))))) H9))))
theorem B75 (ws:List W) (h:AH) (Qa:RR→AH→Prop) (Ea:AExc→AH→Prop) (hl:ws.length=3) (z:upc A0X ws h Qa Ea):A6v (E2 Ea) (C4 Qa) (L0 3 ws) h:=by
  obtain ⟨Q0,E0,hQ,hE,z⟩:=z
  match ws,hl with
  | [x_bag,x_mcasks,x_mmany],_=> exact B78 hQ hE x_bag x_mcasks x_mmany h z
theorem B9d {Q:RR→AH→Prop} {E:AExc→AH→Prop} {Q':RR→AH→Prop} {E':AExc→AH→Prop} (hQ:∀r h,Q r h→Q' r h) (hE:∀x h,E x h→E' x h) (x_msizes:W):∀h,A5E x_msizes h Q E→A7K (E2 E') (C4 Q') [some (.val x_msizes),none,none,none,none] h:=by
  have hr_:=M9 hQ
  generalize C4 Q'=D0 at hr_ ⊢
  obtain ⟨nx0,rt0,bk0,ct0⟩:=D0
  have hr_:∀r s env h,Rl env r s→Q s.rr h→rt0 r env h:=hr_
  have he:=N1 hE
  unfold A5E A7K
  exact (D8 (A4N (fun x_found=> [some (.val x_msizes),some x_found,none,none,none]) (fun _=> rfl) (P6 C2) (fun x_found=> (D9 (D8 (A3g (fun (s7:SV) (j8:Option SV×Option SV)=> [some (.val x_msizes),some s7,j8.1,j8.2,none]) x_found (none,none) rfl (A4A (F5 (SN.se (J8 R6 (F5 (SN.se (A3 rfl)) H9))) H9)) (fun s7 j8=> (D9 (J0 hr_ (s4 rfl)))) (fun R12 x_mone s7 j8 kn9 _ N11 h z=> by refine A1e [some (.val x_msizes),some s7,some (.val x_mone),j8.2,none] P7 rfl h _ ?_;exact A1p h z (D8 (C2H (fun x_near=> [some (.val x_msizes),some s7,some (.val x_mone),some x_near,none]) (fun _=> rfl) (A4A (F5 (SN.se (J8 R6 (F5 (SN.se (A3 rfl)) H9))) H9)) (fun x_at h kk K1 K0 h1 h0 z=> by exact w4 (e1:=[some (.val x_msizes),some s7,some (.val x_mone),j8.2,some (.val x_at)]) P7 (A8Y (I0 (SN.se (C1 O7 (SN.se (A3 rfl)) (SN.se (A3 rfl))))) (I0 (SN.se (C1 O7 (SN.se (C1 K2 (SN.se (A3 rfl)) (SN.se (A3 rfl)))) (SN.se (C1 K2 (SN.se (A3 rfl)) (SN.se (A3 rfl)))))))) (A6 (A3 rfl)) rfl h1 h0 z) (fun x_near=> (D9 (A54 [some (.val x_msizes),some s7,some (.val x_mone),some (.val (SV.fz x_near)),none] rfl rfl (B5t (fun x_found=> [some (.val x_msizes),some x_found,some (.val x_mone),some (.val (SV.fz x_near)),none]) (fun _=> rfl) rfl (SN.se (A1J (A05 (A6 (A3 rfl))) (fun x_at h kk K1 K0 h1 h0 z=> by exact w4 (e1:=[some (.val x_msizes),some s7,some (.val x_mone),some (.val (SV.fz x_near)),some (.val x_at)]) P7 A0M (A6 (n8 (A7 (A6 (A3 rfl)) (A7 (A6 (A3 rfl)) C2)))) rfl h1 h0 z))) (fun x_found=> (fun h z=> N11 x_found (some (.val x_mone),some (.val (SV.fz x_near))) h z)))))))))))))))
theorem B9e (ws:List W) (h:AH) (Qa:RR→AH→Prop) (Ea:AExc→AH→Prop) (hl:ws.length=1) (z:upc A24 ws h Qa Ea):A7K (E2 Ea) (C4 Qa) (L0 5 ws) h:=by
  obtain ⟨Q0,E0,hQ,hE,z⟩:=z
  match ws,hl with
  | [x_msizes],_=> exact B9d hQ hE x_msizes h z
theorem B9t {Q:RR→AH→Prop} {E:AExc→AH→Prop} {Q':RR→AH→Prop} {E':AExc→AH→Prop} (hQ:∀r h,Q r h→Q' r h) (hE:∀x h,E x h→E' x h) (x_bag x_msizes x_number_here x_taps:W):∀h,A5M x_bag x_msizes x_number_here x_taps h Q E→A7N (E2 E') (C4 Q') [some (.val x_bag),some (.val x_msizes),some (.val x_number_here),some (.val x_taps),none,none,none,none] h:=by
  have hr_:=M9 hQ
  generalize C4 Q'=D0 at hr_ ⊢
  obtain ⟨nx0,rt0,bk0,ct0⟩:=D0
  have hr_:∀r s env h,Rl env r s→Q s.rr h→rt0 r env h:=hr_
  have he:=N1 hE
  unfold A5M A7N
  exact (D8 (T8 (fun x_how=> [some (.val x_bag),some (.val x_msizes),some (.val x_number_here),some (.val x_taps),some (.val x_how),none,none,none]) (fun _=> rfl) (A6 (L4 (he _) (A7 (A6 (A3 rfl)) (A7 (A6 A8) C2)))) (fun x_how=> (D9 (D8 (T8 (fun x_pairs=> [some (.val x_bag),some (.val x_msizes),some (.val x_number_here),some (.val x_taps),some (.val x_how),some (.val x_pairs),none,none]) (fun _=> rfl) (A6 (L4 (he _) (A7 (A6 (A3 rfl)) C2))) (fun x_pairs=> (D9 (D8 (N3 (A8Y (I0 (SN.se (C1 O7 (SN.se (A3 rfl)) (SN.se A8)))) (I0 (SN.se (C1 O7 (SN.se (A3 rfl)) (SN.se (P6 C2)))))) (J0 hr_ (SN.se (C1 T0 (SN.se (n8 (A7 (A6 A8) C2))) (SN.se (L4 (he _) (A7 (A6 (A3 rfl)) (A7 (A6 (A3 rfl)) C2))))))) (N7 (D9 (D8 (N3 (A8Y (I0 (SN.se (C1 B1d (SN.se (A3 rfl)) (SN.se A8)))) (I0 (SN.se (A3 rfl)))) (J0 hr_ (SN.se (n8 (A7 (A6 A8) (A7 (A6 (L4 (he _) (A7 (A6 (A3 rfl)) (A7 (A6 (P6 (A7 (A6 A8) (A7 (A6 A8) (A7 (A6 A8) (A7 (A6 A8) (A7 (A6 (A3 rfl)) C2))))))) C2)))) (A7 (A6 (L4 (he _) (A7 (A6 (A3 rfl)) (A7 (A6 (J8 R6 (F5 (SN.se (A3 rfl)) H9))) C2)))) C2)))))) (N7 (D9 (D8 (N3 (A1t (I0 (SN.se (C1 O7 (SN.se (A3 rfl)) (SN.se A8)))) (I0 (SN.se (C1 O7 (SN.se (J8 R6 (F5 (SN.se (A3 rfl)) H9))) (SN.se A8))))) (J0 hr_ (SN.se (n8 (A7 (A6 A8) (A7 (A6 (A3 rfl)) (A7 (A6 (L4 (he _) (A7 (A6 (A3 rfl)) (A7 (A6 (J8 R6 (F5 (SN.se (A3 rfl)) H9))) C2)))) C2)))))) (N7 (D9 (D8 (T8 (fun x_mmany=> [some (.val x_bag),some (.val x_msizes),some (.val x_number_here),some (.val x_taps),some (.val x_how),some (.val x_pairs),some (.val x_mmany),none]) (fun _=> rfl) (A6 (C1 T0 (SN.se A8) (SN.se (L4 (he _) (A7 (A6 (A3 rfl)) (A7 (A6 (C1 A8K (SN.se (J8 R6 (F5 (SN.se (A3 rfl)) H9))) (SN.se A8))) C2)))))) (fun x_mmany=> (D9 (D8 (T8 (fun x_word=> [some (.val x_bag),some (.val x_msizes),some (.val x_number_here),some (.val x_taps),some (.val x_how),some (.val x_pairs),some (.val x_mmany),some (.val x_word)]) (fun _=> rfl) (A6 (C1 K2 (SN.se (P6 (A7 (A6 A8) (A7 (A6 A8) C2)))) (SN.se (C1 B0R (SN.se (L4 (he _) (A7 (A6 (A3 rfl)) (A7 (A6 A8) C2)))) (SN.se A8))))) (fun x_word=> (D9 (J0 hr_ (SN.se (C1 T0 (SN.se (n8 (A7 (A6 (A3 rfl)) (A7 (A6 (A3 rfl)) C2)))) (SN.se (L4 (he _) (A7 (A6 (A3 rfl)) (A7 (A6 (J8 R6 (F5 (SN.se (A3 rfl)) H9))) (A7 (A6 (A3 rfl)) C2))))))))))))))))))))))))))))))))))))
theorem B9w (ws:List W) (h:AH) (Qa:RR→AH→Prop) (Ea:AExc→AH→Prop) (hl:ws.length=4) (z:upc A3A ws h Qa Ea):A7N (E2 Ea) (C4 Qa) (L0 8 ws) h:=by
  obtain ⟨Q0,E0,hQ,hE,z⟩:=z
  match ws,hl with
  | [x_bag,x_msizes,x_number_here,x_taps],_=> exact B9t hQ hE x_bag x_msizes x_number_here x_taps h z
theorem C0O {Q:RR→AH→Prop} {E:AExc→AH→Prop} {Q':RR→AH→Prop} {E':AExc→AH→Prop} (hQ:∀r h,Q r h→Q' r h) (hE:∀x h,E x h→E' x h) (x_bag x_msizes x_most x_taps:W):∀h,A5e x_bag x_msizes x_most x_taps h Q E→A7b (E2 E') (C4 Q') [some (.val x_bag),some (.val x_msizes),some (.val x_most),some (.val x_taps),none] h:=by
  have hr_:=M9 hQ
  generalize C4 Q'=D0 at hr_ ⊢
  obtain ⟨nx0,rt0,bk0,ct0⟩:=D0
  have hr_:∀r s env h,Rl env r s→Q s.rr h→rt0 r env h:=hr_
  have he:=N1 hE
  unfold A5e A7b
  exact (J0 hr_ (SN.se (A1J (A4A (F5 (SN.se (L4 (he _) (A7 (A6 (A3 rfl)) (A7 (A6 (C1 T0 (SN.se (A3 rfl)) (SN.se A8))) C2)))) H9)) (fun x_k h kk K1 K0 h1 h0 z=> by exact w4 (e1:=[some (.val x_bag),some (.val x_msizes),some (.val x_most),some (.val x_taps),some (.val x_k)]) P7 A0M (A6 (A3J (A7 (A6 (A3 rfl)) (A7 (A6 (A3 rfl)) (A7 (A6 (A3J (A7 (A6 (A3 rfl)) C2))) (A7 (A6 (A3 rfl)) C2)))))) rfl h1 h0 z))))
theorem C0S (ws:List W) (h:AH) (Qa:RR→AH→Prop) (Ea:AExc→AH→Prop) (hl:ws.length=4) (z:upc A3C ws h Qa Ea):A7b (E2 Ea) (C4 Qa) (L0 5 ws) h:=by
  obtain ⟨Q0,E0,hQ,hE,z⟩:=z
  match ws,hl with
  | [x_bag,x_msizes,x_most,x_taps],_=> exact C0O hQ hE x_bag x_msizes x_most x_taps h z
theorem B8D {Q:RR→AH→Prop} {E:AExc→AH→Prop} {Q':RR→AH→Prop} {E':AExc→AH→Prop} (hQ:∀r h,Q r h→Q' r h) (hE:∀x h,E x h→E' x h) (x_self x_name:W):∀h,A4p x_self x_name h Q E→A6z (E2 E') (C4 Q') [some (.val x_self),some (.val x_name)] h:=by
  have hr_:=M9 hQ
  generalize C4 Q'=D0 at hr_ ⊢
  obtain ⟨nx0,rt0,bk0,ct0⟩:=D0
  have hr_:∀r s env h,Rl env r s→Q s.rr h→rt0 r env h:=hr_
  have he:=N1 hE
  unfold A4p A6z
  exact (D8 (N3 (I0 (SN.se (B5s (A6 (A3 rfl)) (SN.se (W8 (SN.se (A3 rfl))))))) (A1V (he _) (A7 (A6 (A3 rfl)) C2)) (N7 (D9 (J0 hr_ (SN.se (A77 (SN.se (W8 (SN.se (A3 rfl)))) (A6 (A3 rfl)))))))))
theorem B8B (ws:List W) (h:AH) (Qa:RR→AH→Prop) (Ea:AExc→AH→Prop) (hl:ws.length=2) (z:upc Q3 ws h Qa Ea):A6z (E2 Ea) (C4 Qa) (L0 2 ws) h:=by
  obtain ⟨Q0,E0,hQ,hE,z⟩:=z
  match ws,hl with
  | [x_self,x_name],_=> exact B8D hQ hE x_self x_name h z
theorem B8R {Q:RR→AH→Prop} {E:AExc→AH→Prop} {Q':RR→AH→Prop} {E':AExc→AH→Prop} (hQ:∀r h,Q r h→Q' r h) (hE:∀x h,E x h→E' x h) (x_self x_name:W):∀h,A4o x_self x_name h Q E→A63 (E2 E') (C4 Q') [some (.val x_self),some (.val x_name)] h:=by
  have hr_:=M9 hQ
  generalize C4 Q'=D0 at hr_ ⊢
  obtain ⟨nx0,rt0,bk0,ct0⟩:=D0
  have hr_:∀r s env h,Rl env r s→Q s.rr h→rt0 r env h:=hr_
  have he:=N1 hE
  unfold A4o A63
  exact (J0 hr_ (SN.se (J8 A3N (F5 (SN.se (T7 (he _) (SN.se (A3 rfl)) (A7 (A6 (A3 rfl)) C2))) H9))))
theorem B8A (ws:List W) (h:AH) (Qa:RR→AH→Prop) (Ea:AExc→AH→Prop) (hl:ws.length=2) (z:upc o7 ws h Qa Ea):A63 (E2 Ea) (C4 Qa) (L0 2 ws) h:=by
  obtain ⟨Q0,E0,hQ,hE,z⟩:=z
  match ws,hl with
  | [x_self,x_name],_=> exact B8R hQ hE x_self x_name h z
theorem B9K {Q:RR→AH→Prop} {E:AExc→AH→Prop} {Q':RR→AH→Prop} {E':AExc→AH→Prop} (hQ:∀r h,Q r h→Q' r h) (hE:∀x h,E x h→E' x h) (x_self x_name:W):∀h,A5D x_self x_name h Q E→A7L (E2 E') (C4 Q') [some (.val x_self),some (.val x_name)] h:=by
  have hr_:=M9 hQ
  generalize C4 Q'=D0 at hr_ ⊢
  obtain ⟨nx0,rt0,bk0,ct0⟩:=D0
  have hr_:∀r s env h,Rl env r s→Q s.rr h→rt0 r env h:=hr_
  have he:=N1 hE
  unfold A5D A7L
  exact (D8 (A1Y (SN.se (T7 (he _) (SN.se (A3 rfl)) (A7 (A6 (A3 rfl)) C2))) (fun _=> (D9 (J0 hr_ (SN.se (J8 A3N (F5 (SN.se (A77 (SN.se (W8 (SN.se (A3 rfl)))) (A6 (A3 rfl)))) H9))))))))
theorem B9G (ws:List W) (h:AH) (Qa:RR→AH→Prop) (Ea:AExc→AH→Prop) (hl:ws.length=2) (z:upc o9 ws h Qa Ea):A7L (E2 Ea) (C4 Qa) (L0 2 ws) h:=by
  obtain ⟨Q0,E0,hQ,hE,z⟩:=z
  match ws,hl with
  | [x_self,x_name],_=> exact B9K hQ hE x_self x_name h z
theorem B8f {Q:RR→AH→Prop} {E:AExc→AH→Prop} {Q':RR→AH→Prop} {E':AExc→AH→Prop} (hQ:∀r h,Q r h→Q' r h) (hE:∀x h,E x h→E' x h) (x_self x_name:W):∀h,A2x x_self x_name h Q E→A66 (E2 E') (C4 Q') [some (.val x_self),some (.val x_name),none,none,none,none] h:=by
  have hr_:=M9 hQ
  generalize C4 Q'=D0 at hr_ ⊢
  obtain ⟨nx0,rt0,bk0,ct0⟩:=D0
  have hr_:∀r s env h,Rl env r s→Q s.rr h→rt0 r env h:=hr_
  have he:=N1 hE
  unfold A2x A66
  exact (D8 (A1Y (SN.se (T7 (he _) (SN.se (A3 rfl)) (A7 (A6 (A3 rfl)) C2))) (fun _=> (D9 (D8 (A4N (fun x_found=> [some (.val x_self),some (.val x_name),some x_found,none,none,none]) (fun _=> rfl) (P6 C2) (fun x_found=> (D9 (D8 (C2B (fun (s5:SV) (j6:Option W×Option W)=> [some (.val x_self),some (.val x_name),some s5,(Option.map SV.val j6.1),(Option.map SV.val j6.2),none]) jnd C4T (s0:=x_found) (j0:=(none,none)) rfl rfl (fun s5 j6 hj hd=> (B1e hd.1 (B1e hd.2.1 (C5V hd.2.2 (B6x hj.1 (B6x hj.2 (B6j C2u))))))) (fun s5 j6=> (D9 (J0 hr_ (s4 rfl)))) (fun t0 x_steps s5 j6 kn7 N0 hw HN=> (fun (N8:∀(s:SV) (j:Unit) h,kn7 s h Q E→N0 ((fun (s5:SV) (j6:Option W×Option W)=> [some (.val x_self),some (.val x_name),some s5,(Option.map SV.val j6.1),(Option.map SV.val j6.2),none]) s (some (W.str t0),some x_steps)) h)=> C4W [some (.val x_self),some (.val x_name),some s5,some (.val (W.str t0)),some (.val x_steps),none] rfl (N3 (I0 (SN.se (J8 A55 (F5 (SN.se (A1J (A05 (A6 (A3 rfl))) (fun x_step h kk K1 K0 h1 h0 z=> by exact w4 (e1:=[some (.val x_self),some (.val x_name),some s5,some (.val (W.str t0)),some (.val x_steps),some (.val x_step)]) P7 A0M (A6 (A0L (SN.se (A3J (A7 (A6 (A3 rfl)) C2))) (C1 O7 (SN.se (C1 K2 (SN.se (A3 rfl)) (SN.se A8))) (SN.se (A3 rfl))))) rfl h1 h0 z))) H9)))) (B1V (fun x_found=> [some (.val x_self),some (.val x_name),some x_found,some (.val (W.str t0)),some (.val x_steps),none]) (fun _=> rfl) A3z rfl (A7 (A6 (A3 rfl)) C2) (fun x_found _=> (fun h z=> N8 x_found () h z))) (N7 (fun h z=> N8 s5 () h z)))) (fun s _ h z=> HN s _ h (C4N hw) z))))))))))))
theorem B8W (ws:List W) (h:AH) (Qa:RR→AH→Prop) (Ea:AExc→AH→Prop) (hl:ws.length=2) (z:upc W4 ws h Qa Ea):A66 (E2 Ea) (C4 Qa) (L0 6 ws) h:=by
  obtain ⟨Q0,E0,hQ,hE,z⟩:=z
  match ws,hl with
  | [x_self,x_name],_=> exact B8f hQ hE x_self x_name h z
theorem B8z {Q:RR→AH→Prop} {E:AExc→AH→Prop} {Q':RR→AH→Prop} {E':AExc→AH→Prop} (hQ:∀r h,Q r h→Q' r h) (hE:∀x h,E x h→E' x h) (x_self:W):∀h,A49 x_self h Q E→A7E (E2 E') (C4 Q') [some (.val x_self)] h:=by
  have hr_:=M9 hQ
  generalize C4 Q'=D0 at hr_ ⊢
  obtain ⟨nx0,rt0,bk0,ct0⟩:=D0
  have hr_:∀r s env h,Rl env r s→Q s.rr h→rt0 r env h:=hr_
  have he:=N1 hE
  unfold A49 A7E
  exact (J0 hr_ (SN.se (J8 C1g (F5 (SN.se (W8 (SN.se (A3 rfl)))) H9))))
theorem B86 (ws:List W) (h:AH) (Qa:RR→AH→Prop) (Ea:AExc→AH→Prop) (hl:ws.length=1) (z:upc R5 ws h Qa Ea):A7E (E2 Ea) (C4 Qa) (L0 1 ws) h:=by
  obtain ⟨Q0,E0,hQ,hE,z⟩:=z
  match ws,hl with
  | [x_self],_=> exact B8z hQ hE x_self h z
theorem B8c {Q:RR→AH→Prop} {E:AExc→AH→Prop} {Q':RR→AH→Prop} {E':AExc→AH→Prop} (hQ:∀r h,Q r h→Q' r h) (hE:∀x h,E x h→E' x h) (x_mbook:W):∀h,A41 x_mbook h Q E→A64 (E2 E') (C4 Q') [some (.val x_mbook),none] h:=by
  have hr_:=M9 hQ
  generalize C4 Q'=D0 at hr_ ⊢
  obtain ⟨nx0,rt0,bk0,ct0⟩:=D0
  have hr_:∀r s env h,Rl env r s→Q s.rr h→rt0 r env h:=hr_
  have he:=N1 hE
  unfold A41 A64
  exact (J0 hr_ (SN.se (A1J (A05 (A6 (T7 (he _) (SN.se (A3 rfl)) C2))) (fun x_mname h kk K1 K0 h1 h0 z=> by exact w4 (e1:=[some (.val x_mbook),some (.val x_mname)]) P7 A0M (A6 (P6 (A7 (A6 (A3 rfl)) (A7 (A6 (A32 (SN.se (A3 rfl)) (A7 (A6 (A3 rfl)) C2))) (A7 (A6 (A32 (SN.se (A3 rfl)) (A7 (A6 (A3 rfl)) C2))) (A7 (A6 (A32 (SN.se (A3 rfl)) (A7 (A6 (A3 rfl)) C2))) C2)))))) rfl h1 h0 z))))
theorem B8b (ws:List W) (h:AH) (Qa:RR→AH→Prop) (Ea:AExc→AH→Prop) (hl:ws.length=1) (z:upc o8 ws h Qa Ea):A64 (E2 Ea) (C4 Qa) (L0 2 ws) h:=by
  obtain ⟨Q0,E0,hQ,hE,z⟩:=z
  match ws,hl with
  | [x_mbook],_=> exact B8c hQ hE x_mbook h z
theorem B7w {Q:RR→AH→Prop} {E:AExc→AH→Prop} {Q':RR→AH→Prop} {E':AExc→AH→Prop} (hQ:∀r h,Q r h→Q' r h) (hE:∀x h,E x h→E' x h) (x_mbook:W):∀h,A4l x_mbook h Q E→A6x (E2 E') (C4 Q') [some (.val x_mbook),none] h:=by
  have hr_:=M9 hQ
  generalize C4 Q'=D0 at hr_ ⊢
  obtain ⟨nx0,rt0,bk0,ct0⟩:=D0
  have hr_:∀r s env h,Rl env r s→Q s.rr h→rt0 r env h:=hr_
  have he:=N1 hE
  unfold A4l A6x
  exact (J0 hr_ (SN.se (A1J (A05 (A6 (T7 (he _) (SN.se (A3 rfl)) C2))) (fun x_mname h kk K1 K0 h1 h0 z=> by exact w4 (e1:=[some (.val x_mbook),some (.val x_mname)]) P7 A0M (A6 (P6 (A7 (A6 (A3 rfl)) (A7 (A08 (A32 (SN.se (A3 rfl)) (A7 (A6 (A3 rfl)) C2))) (A7 (A08 (A32 (SN.se (A3 rfl)) (A7 (A6 (A3 rfl)) C2))) (A7 (A08 (A32 (SN.se (A3 rfl)) (A7 (A6 (A3 rfl)) C2))) C2)))))) rfl h1 h0 z))))
theorem B7x (ws:List W) (h:AH) (Qa:RR→AH→Prop) (Ea:AExc→AH→Prop) (hl:ws.length=1) (z:upc A2v ws h Qa Ea):A6x (E2 Ea) (C4 Qa) (L0 2 ws) h:=by
  obtain ⟨Q0,E0,hQ,hE,z⟩:=z
  match ws,hl with
  | [x_mbook],_=> exact B7w hQ hE x_mbook h z
theorem B8S {Q:RR→AH→Prop} {E:AExc→AH→Prop} {Q':RR→AH→Prop} {E':AExc→AH→Prop} (hQ:∀r h,Q r h→Q' r h) (hE:∀x h,E x h→E' x h) (x_self x_sizes:W):∀h,A4s x_self x_sizes h Q E→A62 (E2 E') (C4 Q') [some (.val x_self),some (.val x_sizes)] h:=by
  have hr_:=M9 hQ
  have he:=N1 hE
  unfold A4s A62
  exact (D8 (A1Y (SN.se (L4 (he _) (A7 (A6 (A3 rfl)) C2))) (fun _=> (D9 (D8 (A5x (A6 (A3 rfl)) (SN.se (A3 rfl)) ((D9 (D8 (A5x (A08 B4F) (SN.se (A3 rfl)) ((D9 (A5x (A08 B4F) (SN.se (A3 rfl)) ((A3c hQ _)))))))))))))))
theorem B8C (ws:List W) (h:AH) (Qa:RR→AH→Prop) (Ea:AExc→AH→Prop) (hl:ws.length=2) (z:upc P4 ws h Qa Ea):A62 (E2 Ea) (C4 Qa) (L0 2 ws) h:=by
  obtain ⟨Q0,E0,hQ,hE,z⟩:=z
  match ws,hl with
  | [x_self,x_sizes],_=> exact B8S hQ hE x_self x_sizes h z
theorem B7r {Q:RR→AH→Prop} {E:AExc→AH→Prop} {Q':RR→AH→Prop} {E':AExc→AH→Prop} (hQ:∀r h,Q r h→Q' r h) (hE:∀x h,E x h→E' x h) (x_self x_name:W):∀h,A4k x_self x_name h Q E→A6t (E2 E') (C4 Q') [some (.val x_self),some (.val x_name)] h:=by
  have hr_:=M9 hQ
  have he:=N1 hE
  unfold A4k A6t
  exact (D8 (N3 (A1D (I0 (SN.se (L4 (he _) (A7 (A6 (A3 rfl)) C2))))) (A1V (he _) C2) (N7 (D9 (D8 (N3 (I0 (SN.se (B5s (A6 (A3 rfl)) (SN.se (W8 (SN.se (A3 rfl))))))) (A1V (he _) (A7 (A6 (A3 rfl)) C2)) (N7 (D9 (N3 (I0 (SN.se (C1 B1c (SN.se (J8 C25 (F5 (SN.se (W8 (SN.se (A3 rfl)))) H9))) (SN.se A8)))) (A1V (he _) (A7 (A6 A8) C2)) (N7 (A3c hQ _)))))))))))
theorem B7s (ws:List W) (h:AH) (Qa:RR→AH→Prop) (Ea:AExc→AH→Prop) (hl:ws.length=2) (z:upc A2B ws h Qa Ea):A6t (E2 Ea) (C4 Qa) (L0 2 ws) h:=by
  obtain ⟨Q0,E0,hQ,hE,z⟩:=z
  match ws,hl with
  | [x_self,x_name],_=> exact B7r hQ hE x_self x_name h z
theorem B8Q {Q:RR→AH→Prop} {E:AExc→AH→Prop} {Q':RR→AH→Prop} {E':AExc→AH→Prop} (hQ:∀r h,Q r h→Q' r h) (hE:∀x h,E x h→E' x h) (x_self x_steps:W):∀h,A4v x_self x_steps h Q E→A61 (E2 E') (C4 Q') [some (.val x_self),some (.val x_steps),none,none] h:=by
  have hr_:=M9 hQ
  generalize C4 Q'=D0 at hr_ ⊢
  obtain ⟨nx0,rt0,bk0,ct0⟩:=D0
  have hr_:∀r s env h,Rl env r s→Q s.rr h→rt0 r env h:=hr_
  have he:=N1 hE
  unfold A4v A61
  exact (D8 (A4N (fun x_found=> [some (.val x_self),some (.val x_steps),some x_found,none]) (fun _=> rfl) (P6 C2) (fun x_found=> (D9 (D8 (B5d (fun (s7:SV) (j8:Option SV)=> [some (.val x_self),some (.val x_steps),some s7,j8]) x_found (none) rfl (B5F (SN.se (A3 rfl))) (fun s7 j8=> (D9 (J0 hr_ (s4 rfl)))) (fun R12 x_step s7 j8 kn9 _ N11 h z=> by refine A1e [some (.val x_self),some (.val x_steps),some s7,some (.val x_step)] P7 rfl h _ ?_;exact A1p h z (N3 (I0 (SN.se (L4 (he _) (A7 (A6 (A3 rfl)) C2)))) (B5t (fun x_found=> [some (.val x_self),some (.val x_steps),some x_found,some (.val x_step)]) (fun _=> rfl) rfl (SN.se (C1 C2d (SN.se (A77 (SN.se (W8 (SN.se (A3 rfl)))) (A6 (C1 K2 (SN.se (A3 rfl)) (SN.se A8))))) (SN.se (C1 K2 (SN.se (A3 rfl)) (SN.se A8))))) (fun x_found=> (fun h z=> N11 x_found (some (.val x_step)) h z))) (B1V (fun x_found=> [some (.val x_self),some (.val x_steps),some x_found,some (.val x_step)]) (fun _=> rfl) A3z rfl (A7 (A6 (A3 rfl)) C2) (fun x_found _=> (fun h z=> N11 x_found (some (.val x_step)) h z)))))))))))
theorem B8L (ws:List W) (h:AH) (Qa:RR→AH→Prop) (Ea:AExc→AH→Prop) (hl:ws.length=2) (z:upc A2C ws h Qa Ea):A61 (E2 Ea) (C4 Qa) (L0 4 ws) h:=by
  obtain ⟨Q0,E0,hQ,hE,z⟩:=z
  match ws,hl with
  | [x_self,x_steps],_=> exact B8Q hQ hE x_self x_steps h z
theorem B7p {Q:RR→AH→Prop} {E:AExc→AH→Prop} {Q':RR→AH→Prop} {E':AExc→AH→Prop} (hQ:∀r h,Q r h→Q' r h) (hE:∀x h,E x h→E' x h) (x_self x_at x_step:W):∀h,A4j x_self x_at x_step h Q E→A6s (E2 E') (C4 Q') [some (.val x_self),some (.val x_at),some (.val x_step),none] h:=by
  have hr_:=M9 hQ
  have he:=N1 hE
  unfold A4j A6s
  exact (D8 (T8 (fun x_place=> [some (.val x_self),some (.val x_at),some (.val x_step),some (.val x_place)]) (fun _=> rfl) (A6 (A6M (I0 (SN.se (L4 (he _) (A7 (A6 (A3 rfl)) C2)))) (L4 (he _) (A7 (A6 (A3 rfl)) C2)) (L4 (he _) (A7 (A6 (W8 (SN.se (A3 rfl)))) (A7 (A6 (A3 rfl)) C2))))) (fun x_place=> (D9 (D8 (N3 (I0 (SN.se (C1 A8M (SN.se (A3 rfl)) (SN.se A8)))) (A1V (he _) (A7 (A6 (A3 rfl)) (A7 (A6 (A3 rfl)) C2))) (N7 (D9 (N3 (I0 (SN.se (L4 (he _) (A7 (A6 (A3 rfl)) C2)))) (A1Y (SN.se (T7 (he _) (SN.se (A3 rfl)) (A7 (A6 (C1 K2 (SN.se (A3 rfl)) (SN.se A8))) C2))) (fun _=> (A3c hQ _))) (N7 (A3c hQ _)))))))))))
theorem B7q (ws:List W) (h:AH) (Qa:RR→AH→Prop) (Ea:AExc→AH→Prop) (hl:ws.length=3) (z:upc A2A ws h Qa Ea):A6s (E2 Ea) (C4 Qa) (L0 4 ws) h:=by
  obtain ⟨Q0,E0,hQ,hE,z⟩:=z
  match ws,hl with
  | [x_self,x_at,x_step],_=> exact B7p hQ hE x_self x_at x_step h z
theorem B8q {Q:RR→AH→Prop} {E:AExc→AH→Prop} {Q':RR→AH→Prop} {E':AExc→AH→Prop} (hQ:∀r h,Q r h→Q' r h) (hE:∀x h,E x h→E' x h) (x_self x_steps:W):∀h,A42 x_self x_steps h Q E→A7B (E2 E') (C4 Q') [some (.val x_self),some (.val x_steps),none] h:=by
  have hr_:=M9 hQ
  generalize C4 Q'=D0 at hr_ ⊢
  obtain ⟨nx0,rt0,bk0,ct0⟩:=D0
  have hr_:∀r s env h,Rl env r s→Q s.rr h→rt0 r env h:=hr_
  have he:=N1 hE
  unfold A42 A7B
  exact (J0 hr_ (SN.se (J8 C2U (F5 (SN.se (C4a (B5F (SN.se (A3 rfl))) (fun x_step h kk K1 K0 h1 h0 z=> by exact w4 (e1:=[some (.val x_self),some (.val x_steps),some (.val x_step)]) P7 A0M (A6 (A6M (I0 (SN.se (A3J (A7 (A6 (A3 rfl)) C2)))) (C1 A2Q (SN.se (C1 K2 (SN.se (A3 rfl)) (SN.se A8))) (SN.se (J8 R6 (F5 (SN.se (A77 (SN.se (W8 (SN.se (A3 rfl)))) (A6 (C1 K2 (SN.se (A3 rfl)) (SN.se A8))))) H9)))) A8)) rfl h1 h0 z))) H9))))
theorem B8m (ws:List W) (h:AH) (Qa:RR→AH→Prop) (Ea:AExc→AH→Prop) (hl:ws.length=2) (z:upc A2E ws h Qa Ea):A7B (E2 Ea) (C4 Qa) (L0 3 ws) h:=by
  obtain ⟨Q0,E0,hQ,hE,z⟩:=z
  match ws,hl with
  | [x_self,x_steps],_=> exact B8q hQ hE x_self x_steps h z
theorem B8H {Q:RR→AH→Prop} {E:AExc→AH→Prop} {Q':RR→AH→Prop} {E':AExc→AH→Prop} (hQ:∀r h,Q r h→Q' r h) (hE:∀x h,E x h→E' x h) (x_self x_name x_steps:W):∀h,A4q x_self x_name x_steps h Q E→A6y (E2 E') (C4 Q') [some (.val x_self),some (.val x_name),some (.val x_steps),none,none] h:=by
  have hr_:=M9 hQ
  have he:=N1 hE
  unfold A4q A6y
  exact (D8 (A1Y (SN.se (T7 (he _) (SN.se (A3 rfl)) (A7 (A6 (A3 rfl)) C2))) (fun _=> (D9 (D8 (B5d (fun (s10:Unit) (j11:Option SV×Option SV)=> [some (.val x_self),some (.val x_name),some (.val x_steps),j11.1,j11.2]) () (none,none) rfl (C4M (SN.se (A3 rfl))) (fun s10 j11=> (D9 (D8 (N3 (I0 (SN.se (C1 B63 (SN.se (T7 (he _) (SN.se (A3 rfl)) (A7 (A6 (A3 rfl)) C2))) (SN.se A8)))) (A1V (he _) (A7 (A6 A8) C2)) (N7 (D9 (D8 (B5C (A6 (J8 A3N (F5 (SN.se (A3 rfl)) H9))) (W8 (SN.se (A3 rfl))) (A6 (A3 rfl)) ((D9 (B5C (A6 (T7 (he _) (SN.se (A3 rfl)) (A7 (A6 (A3 rfl)) C2))) (W8 (SN.se (A3 rfl))) (A6 (A3 rfl)) ((A3c hQ _))))))))))))) (fun R18 w15 s10 j11 kn12 _ N14 h z=> by obtain ⟨x_at,x_step,rfl,z17⟩:=A8P z;refine A1e [some (.val x_self),some (.val x_name),some (.val x_steps),some (.val x_at),some (.val x_step)] (A9L P7 P7) rfl h _ ?_;exact A1p h z17 (A1Y (SN.se (T7 (he _) (SN.se (A3 rfl)) (A7 (A6 (A3 rfl)) (A7 (A6 (A3 rfl)) C2)))) (fun _=> (fun h z=> N14 () (some (.val x_at),some (.val x_step)) h z))))))))))
theorem B8N (ws:List W) (h:AH) (Qa:RR→AH→Prop) (Ea:AExc→AH→Prop) (hl:ws.length=3) (z:upc g8 ws h Qa Ea):A6y (E2 Ea) (C4 Qa) (L0 5 ws) h:=by
  obtain ⟨Q0,E0,hQ,hE,z⟩:=z
  match ws,hl with
  | [x_self,x_name,x_steps],_=> exact B8H hQ hE x_self x_name x_steps h z
theorem B72 {Q:RR→AH→Prop} {E:AExc→AH→Prop} {Q':RR→AH→Prop} {E':AExc→AH→Prop} (hQ:∀r h,Q r h→Q' r h) (hE:∀x h,E x h→E' x h) (x_msizes x_rows:W):∀h,A4n x_msizes x_rows h Q E→A6u (E2 E') (C4 Q') [some (.val x_msizes),some (.val x_rows),none,none,none] h:=by
  have hr_:=M9 hQ
  generalize C4 Q'=D0 at hr_ ⊢
  obtain ⟨nx0,rt0,bk0,ct0⟩:=D0
  have hr_:∀r s env h,Rl env r s→Q s.rr h→rt0 r env h:=hr_
  have he:=N1 hE
  unfold A4n A6u
  exact (D8 (T8 (fun x_mbook=> [some (.val x_msizes),some (.val x_rows),some (.val x_mbook),none,none]) (fun _=> rfl) (A6 (A3U (he _) (A7 (A6 (A3 rfl)) C2))) (fun x_mbook=> (D9 (D8 (A3g (fun (s19:Unit) (j20:Option SV×Option SV)=> [some (.val x_msizes),some (.val x_rows),some (.val x_mbook),j20.1,j20.2]) () (none,none) rfl (A05 (A6 (A3 rfl))) (fun s19 j20=> (D9 (J0 hr_ (SN.se (A3 rfl))))) (fun R27 w24 s19 j20 kn21 _ N23 h z=> by obtain ⟨x_mname,x_msteps,rfl,z26⟩:=A8P z;refine A1e [some (.val x_msizes),some (.val x_rows),some (.val x_mbook),some (.val x_mname),some (.val x_msteps)] (A9L P7 P7) rfl h _ ?_;exact A1p h z26 (A1Y (SN.se (T7 (he _) (SN.se (A3 rfl)) (A7 (A6 (A3 rfl)) (A7 (A6 (A3 rfl)) C2)))) (fun _=> (fun h z=> N23 () (some (.val x_mname),some (.val x_msteps)) h z))))))))))
theorem B7z (ws:List W) (h:AH) (Qa:RR→AH→Prop) (Ea:AExc→AH→Prop) (hl:ws.length=2) (z:upc d8 ws h Qa Ea):A6u (E2 Ea) (C4 Qa) (L0 5 ws) h:=by
  obtain ⟨Q0,E0,hQ,hE,z⟩:=z
  match ws,hl with
  | [x_msizes,x_rows],_=> exact B72 hQ hE x_msizes x_rows h z
theorem B9L {Q:RR→AH→Prop} {E:AExc→AH→Prop} {Q':RR→AH→Prop} {E':AExc→AH→Prop} (hQ:∀r h,Q r h→Q' r h) (hE:∀x h,E x h→E' x h) (x_self:W):∀h,A5G x_self h Q E→A7H (E2 E') (C4 Q') [some (.val x_self),none,none,none,none] h:=by
  have hr_:=M9 hQ
  generalize C4 Q'=D0 at hr_ ⊢
  obtain ⟨nx0,rt0,bk0,ct0⟩:=D0
  have hr_:∀r s env h,Rl env r s→Q s.rr h→rt0 r env h:=hr_
  have he:=N1 hE
  unfold A5G A7H
  exact (D8 (T8 (fun x_other=> [some (.val x_self),some (.val x_other),none,none,none]) (fun _=> rfl) (A6 (A3U (he _) (A7 (A6 (W8 (SN.se (A3 rfl)))) C2))) (fun x_other=> (D9 (D8 (A5x (A08 (B56 rfl (by decide) (Nat.le_of_ble_eq_true rfl) (fun x_name x_steps=> (A6 (J8 A3N (F5 (SN.se (A3 rfl)) H9)))))) (SN.se (A3 rfl)) ((D9 (D8 (A5x (A08 (B56 rfl (by decide) (Nat.le_of_ble_eq_true rfl) (fun x_name x_deeds=> (A6 (J8 A3N (F5 (SN.se (A3 rfl)) H9)))))) (SN.se (A3 rfl)) ((D9 (J0 hr_ (SN.se (A3 rfl)))))))))))))))
theorem B9a (ws:List W) (h:AH) (Qa:RR→AH→Prop) (Ea:AExc→AH→Prop) (hl:ws.length=1) (z:upc m9 ws h Qa Ea):A7H (E2 Ea) (C4 Qa) (L0 5 ws) h:=by
  obtain ⟨Q0,E0,hQ,hE,z⟩:=z
  match ws,hl with
  | [x_self],_=> exact B9L hQ hE x_self h z
theorem B9P {Q:RR→AH→Prop} {E:AExc→AH→Prop} {Q':RR→AH→Prop} {E':AExc→AH→Prop} (hQ:∀r h,Q r h→Q' r h) (hE:∀x h,E x h→E' x h) (x_self x_name:W):∀h,A5B x_self x_name h Q E→A7I (E2 E') (C4 Q') [some (.val x_self),some (.val x_name),none] h:=by
  have hr_:=M9 hQ
  have he:=N1 hE
  unfold A5B A7I
  exact (D8 (T8 (fun x_found=> [some (.val x_self),some (.val x_name),some (.val x_found)]) (fun _=> rfl) (A6 (T7 (he _) (SN.se (A3 rfl)) (A7 (A6 (A3 rfl)) C2))) (fun x_found=> (D9 (D8 (N3 (I0 (SN.se (C1 O7 (SN.se (A3 rfl)) (SN.se (P6 C2))))) (A1V (he _) (A7 (A6 (C1 K2 (SN.se (A3 rfl)) (SN.se A8))) C2)) (N7 (D9 (D8 (B4y (W8 (SN.se (A3 rfl))) (A6 (A3 rfl)) ((D9 (B4y (W8 (SN.se (A3 rfl))) (A6 (A3 rfl)) ((A3c hQ _)))))))))))))))
theorem B9b (ws:List W) (h:AH) (Qa:RR→AH→Prop) (Ea:AExc→AH→Prop) (hl:ws.length=2) (z:upc A2G ws h Qa Ea):A7I (E2 Ea) (C4 Qa) (L0 3 ws) h:=by
  obtain ⟨Q0,E0,hQ,hE,z⟩:=z
  match ws,hl with
  | [x_self,x_name],_=> exact B9P hQ hE x_self x_name h z
theorem B7y {Q:RR→AH→Prop} {E:AExc→AH→Prop} {Q':RR→AH→Prop} {E':AExc→AH→Prop} (hQ:∀r h,Q r h→Q' r h) (hE:∀x h,E x h→E' x h) (x_self x_other:W):∀h,z9 x_self x_other h Q E→A6w (E2 E') (C4 Q') [some (.val x_self),some (.val x_other)] h:=by
  have hr_:=M9 hQ
  generalize C4 Q'=D0 at hr_ ⊢
  obtain ⟨nx0,rt0,bk0,ct0⟩:=D0
  have hr_:∀r s env h,Rl env r s→Q s.rr h→rt0 r env h:=hr_
  have he:=N1 hE
  unfold z9 A6w
  exact (D8 (N3 (A1t (A1D (I0 (SN.se (C3t (SN.se (A3 rfl)))))) (I0 (SN.se (C1 O7 (SN.se (W8 (SN.se (A3 rfl)))) (SN.se (W8 (SN.se (A3 rfl)))))))) (J0 hr_ (SN.se A8)) (N7 (D9 (J0 hr_ (SN.se (A0L (SN.se (C1 O7 (SN.se (T7 (he _) (SN.se (A3 rfl)) C2)) (SN.se (T7 (he _) (SN.se (A3 rfl)) C2)))) (C1 C4C (SN.se (W8 (SN.se (A3 rfl)))) (SN.se (W8 (SN.se (A3 rfl))))))))))))
theorem B70 (ws:List W) (h:AH) (Qa:RR→AH→Prop) (Ea:AExc→AH→Prop) (hl:ws.length=2) (z:upc Q1 ws h Qa Ea):A6w (E2 Ea) (C4 Qa) (L0 2 ws) h:=by
  obtain ⟨Q0,E0,hQ,hE,z⟩:=z
  match ws,hl with
  | [x_self,x_other],_=> exact B7y hQ hE x_self x_other h z
theorem C5E {Q:RR→AH→Prop} {E:AExc→AH→Prop} {Q':RR→AH→Prop} {E':AExc→AH→Prop} (hQ:∀r h,Q r h→Q' r h) (hE:∀x h,E x h→E' x h) (x_script:W):∀h,A6C x_script h Q E→A8o (E2 E') (C4 Q') [some (.val x_script),none,none,none,none,none,none,none,none,none,none,none,none,none,none] h:=by
  have hr_:=M9 hQ
  generalize C4 Q'=D0 at hr_ ⊢
  obtain ⟨nx0,rt0,bk0,ct0⟩:=D0
  have hr_:∀r s env h,Rl env r s→Q s.rr h→rt0 r env h:=hr_
  have he:=N1 hE
  unfold A6C A8o
  exact (D8 (A4N (fun x_bag=> [some (.val x_script),some x_bag,none,none,none,none,none,none,none,none,none,none,none,none,none]) (fun _=> rfl) (L4 (he _) (A7 (A6 (A3 rfl)) C2)) (fun x_bag=> (D9 (D8 (C2y (fun x_bag=> [some (.val x_script),some (.val x_bag),none,none,none,none,none,none,none,none,none,none,none,none,none]) (fun _=> rfl) rfl (fun x_bag=> (T8 (fun x_msizes=> [some (.val x_script),some (.val x_bag),some (.val x_msizes),none,none,none,none,none,none,none,none,none,none,none,none]) (fun _=> rfl) (A6 (L4 (he _) (A7 (A6 (A3 rfl)) C2))) (fun x_msizes=> (D9 (D8 (T8 (fun x_mdeeds=> [some (.val x_script),some (.val x_bag),some (.val x_msizes),some (.val x_mdeeds),none,none,none,none,none,none,none,none,none,none,none]) (fun _=> rfl) (A6 (L4 (he _) (A7 (A6 (A3 rfl)) (A7 (A6 (A3 rfl)) (A7 (A6 A8) (A7 (A6 A8) C2)))))) (fun x_mdeeds=> (D9 (D8 (T8 (fun x_rows=> [some (.val x_script),some (.val x_bag),some (.val x_msizes),some (.val x_mdeeds),some (.val x_rows),none,none,none,none,none,none,none,none,none,none]) (fun _=> rfl) (A6 (P6 (A7 (A6 (n8 (A7 (A6 A8) (A7 (A6 (A3 rfl)) C2)))) (A7 (A6 (n8 (A7 (A6 A8) (A7 (A6 (C1 T0 (SN.se (P6 (A7 (A6 (n8 (A7 (A6 A8) (A7 (A6 A8) (A7 (A6 A8) C2))))) C2))) (SN.se (A3q (SN.se (A3 rfl)) A3m (A3P (SN.se A8)))))) C2)))) (A7 (A6 (n8 (A7 (A6 A8) (A7 (A6 (A3q (SN.se (A3 rfl)) (A3P (SN.se A8)) A3m)) C2)))) C2))))) (fun x_rows=> (D9 (D8 (T8 (fun x_mbook=> [some (.val x_script),some (.val x_bag),some (.val x_msizes),some (.val x_mdeeds),some (.val x_rows),some (.val x_mbook),none,none,none,none,none,none,none,none,none]) (fun _=> rfl) (A6 (L4 (he _) (A7 (A6 (A3 rfl)) (A7 (A6 (A3 rfl)) C2)))) (fun x_mbook=> (D9 (D8 (T8 (fun x_twins=> [some (.val x_script),some (.val x_bag),some (.val x_msizes),some (.val x_mdeeds),some (.val x_rows),some (.val x_mbook),some (.val x_twins),none,none,none,none,none,none,none,none]) (fun _=> rfl) (A6 (P6 (A7 (A6 (A3 rfl)) (A7 (A6 (T7 (he _) (SN.se (A3 rfl)) C2)) (A7 (A6 (T7 (he _) (SN.se (T7 (he _) (SN.se (A3 rfl)) C2)) C2)) (A7 (A6 (L4 (he _) (A7 (A6 (A3 rfl)) (A7 (A6 (A3 rfl)) C2)))) C2)))))) (fun x_twins=> (D9 (D8 (T8 (fun x_kept=> [some (.val x_script),some (.val x_bag),some (.val x_msizes),some (.val x_mdeeds),some (.val x_rows),some (.val x_mbook),some (.val x_twins),some (.val x_kept),none,none,none,none,none,none,none]) (fun _=> rfl) (A6 (L4 (he _) (A7 (A6 (A3 rfl)) C2))) (fun x_kept=> (D9 (D8 (A3g (fun (s45:Unit) (j46:Option SV)=> [some (.val x_script),some (.val x_bag),some (.val x_msizes),some (.val x_mdeeds),some (.val x_rows),some (.val x_mbook),some (.val x_twins),some (.val x_kept),j46,none,none,none,none,none,none]) () (none) rfl (A05 (A6 (A3 rfl))) (fun s45 j46=> (D9 (D8 (A3g (fun (s50:Unit) (j51:Option SV)=> [some (.val x_script),some (.val x_bag),some (.val x_msizes),some (.val x_mdeeds),some (.val x_rows),some (.val x_mbook),some (.val x_twins),some (.val x_kept),j46,none,j51,none,none,none,none]) () (none) rfl (A05 (A6 (C1 T0 (SN.se (L4 (he _) (A7 (A6 (A3 rfl)) C2))) (SN.se (P6 (A7 (A6 (P6 (A7 (A6 A8) (A7 (A08 (T7 (he _) (SN.se (A3 rfl)) C2)) (A7 (A08 (P6 C2)) (A7 (A08 (P6 C2)) C2)))))) C2)))))) (fun s50 j51=> (D9 (D8 (N3 (A1t (A1D (I0 (SN.se (L4 (he _) (A7 (A6 (L4 (he _) (A7 (A6 (A3 rfl)) C2))) (A7 (A6 (A3 rfl)) C2)))))) (I0 (SN.se (C1 O7 (SN.se (T7 (he _) (SN.se (A3 rfl)) C2)) (SN.se (P6 (A7 (A6 A8) (A7 (A6 A8) (A7 (A6 A8) C2))))))))) (J0 hr_ (SN.se A8)) (N7 (D9 (D8 (T8 (fun x_at=> [some (.val x_script),some (.val x_bag),some (.val x_msizes),some (.val x_mdeeds),some (.val x_rows),some (.val x_mbook),some (.val x_twins),some (.val x_kept),j46,none,j51,some (.val x_at),none,none,none]) (fun _=> rfl) (A6 (L4 (he _) (A7 (A6 (A3 rfl)) (A7 (A6 A8) C2)))) (fun x_at=> (D9 (B5B (fun (s55:Unit) (j56:Unit)=> [some (.val x_script),some (.val x_bag),some (.val x_msizes),some (.val x_mdeeds),some (.val x_rows),some (.val x_mbook),some (.val x_twins),some (.val x_kept),j46,none,j51,some (.val x_at),none,none,none]) (fun s55 j56=> (D8 (A3g (fun (s57:Unit) (j58:Option SV)=> [some (.val x_script),some (.val x_bag),some (.val x_msizes),some (.val x_mdeeds),some (.val x_rows),some (.val x_mbook),some (.val x_twins),some (.val x_kept),j46,none,j51,some (.val x_at),j58,none,none]) () (none) rfl (A4A (F5 (SN.se A8) H9)) (fun s57 j58=> (D9 (D8 (T8 (fun x_turned=> [some (.val x_script),some (.val x_bag),some (.val x_msizes),some (.val x_mdeeds),some (.val x_rows),some (.val x_mbook),some (.val x_twins),some (.val x_kept),j46,none,j51,some (.val x_at),j58,some (.val x_turned),none]) (fun _=> rfl) (A6 (L4 (he _) (A7 (A6 (A3 rfl)) (A7 (A6 (P6 (A7 (A6 (C1 K2 (SN.se (A3 rfl)) (SN.se A8))) (A7 (A6 (C1 K2 (SN.se (A3 rfl)) (SN.se A8))) (A7 (A6 (C1 K2 (SN.se (A3 rfl)) (SN.se A8))) C2))))) C2)))) (fun x_turned=> (D9 (D8 (A4N (fun x_others=> [some (.val x_script),some (.val x_bag),some (.val x_msizes),some (.val x_mdeeds),some (.val x_rows),some (.val x_mbook),some (.val x_twins),some (.val x_kept),j46,none,j51,some (.val x_at),j58,some (.val x_turned),some x_others]) (fun _=> rfl) (P6 (A7 (A6 (A3 rfl)) (A7 (A6 (L4 (he _) (A7 (A6 (A3 rfl)) (A7 (A6 (A3q (SN.se (A3 rfl)) A3m (A3P (SN.se A8)))) C2)))) (A7 (A6 (A3U (he _) (A7 (A6 (A3 rfl)) C2))) C2)))) (fun x_others=> (D9 (D8 (B1V (fun x_others=> [some (.val x_script),some (.val x_bag),some (.val x_msizes),some (.val x_mdeeds),some (.val x_rows),some (.val x_mbook),some (.val x_twins),some (.val x_kept),j46,none,j51,some (.val x_at),j58,some (.val x_turned),some x_others]) (fun _=> rfl) A3z rfl (A7 (A6 (L4 (he _) (A7 (A6 (C1 T0 (SN.se (n8 (A7 (A6 (C1 T0 (SN.se (C1 A2R (SN.se (C1 K2 (SN.se (A3 rfl)) (SN.se A8))) (SN.se A8))) (SN.se A8))) C2))) (SN.se (A3q (SN.se (A3 rfl)) (A3P (SN.se A8)) A3m)))) (A7 (A6 (P6 (A7 (A6 (n8 (A7 (A6 A8) (A7 (A6 (P6 C2)) C2)))) C2))) C2)))) C2) (fun x_others _=> (D9 (D8 (A54 [some (.val x_script),some (.val x_bag),some (.val x_msizes),some (.val x_mdeeds),some (.val x_rows),some (.val x_mbook),some (.val x_twins),some (.val x_kept),j46,none,j51,some (.val x_at),j58,some (.val x_turned),some (.val (SV.fz x_others))] rfl rfl (N3 (A1t (I0 (SN.se (J8 A55 (F5 (SN.se (A1J (A05 (A6 (A3 rfl))) (fun x_mother h kk K1 K0 h1 h0 z=> by exact w4 (e1:=[some (.val x_script),some (.val x_bag),some (.val x_msizes),some (.val x_mdeeds),some (.val x_rows),some (.val x_mbook),some (.val x_twins),some (.val x_kept),j46,some (.val x_mother),j51,some (.val x_at),j58,some (.val x_turned),some (.val (SV.fz x_others))]) P7 A0M (A6 (A4G (SN.se (A3 rfl)) (SN.se (C1 K2 (SN.se (A3 rfl)) (SN.se (C1 A8K (SN.se (A3 rfl)) (SN.se A8))))))) rfl h1 h0 z))) H9)))) (I0 (SN.se (A4G (SN.se (A3U (he _) (A7 (A6 (n8 (A7 (A6 A8) (A7 (A6 A8) C2)))) C2))) (SN.se (A3U (he _) (A7 (A6 (n8 (A7 (A6 A8) (A7 (A6 A8) C2)))) C2))))))) (J0 hr_ (SN.se A8)) (N7 (D9 (J0 hr_ (SN.se (A0L (SN.se (A4G (SN.se (C1t (he _) C2 (A7 (A6 (A3 rfl)) C2))) (SN.se (A3U (he _) (A7 (A6 (A3 rfl)) C2))))) (A0L (SN.se (B6P (SN.se (A3U (he _) (A7 (A6 (A3 rfl)) C2))) (A6 (P6 C2)))) (B6P (SN.se (C1 K2 (SN.se (A3 rfl)) (SN.se (C1 A8K (SN.se (A3 rfl)) (SN.se A8))))) (A6 (A3 rfl)))))))))))))))))))))))))) (fun R62 x_k s57 j58 kn59 _ N61 h z=> by refine A1e [some (.val x_script),some (.val x_bag),some (.val x_msizes),some (.val x_mdeeds),some (.val x_rows),some (.val x_mbook),some (.val x_twins),some (.val x_kept),j46,none,j51,some (.val x_at),some (.val x_k),none,none] P7 rfl h _ ?_;exact A1p h z (N3 (A1t (I0 (SN.se (C1 O7 (SN.se (C1 O7 (SN.se (L4 (he _) (A7 (A6 (C1 K2 (SN.se (A3 rfl)) (SN.se (A3 rfl)))) C2))) (SN.se (A3 rfl)))) (SN.se (C1 O7 (SN.se (A3 rfl)) (SN.se (A3 rfl))))))) (I0 (SN.se (C1 O7 (SN.se (A4G (SN.se (C1 K2 (SN.se (A3 rfl)) (SN.se (A3 rfl)))) (SN.se (C1 K2 (SN.se (A3 rfl)) (SN.se (A3 rfl)))))) (SN.se (C1 O7 (SN.se (A3 rfl)) (SN.se (A3 rfl)))))))) (J0 hr_ (SN.se A8)) (N7 (fun h z=> N61 () (some (.val x_k)) h z))))))) (fun N64=> (N3 (I0 (SN.se (C1 O7 (SN.se (L4 (he _) (A7 (A6 (A3 rfl)) (A7 (A6 A8) C2)))) (SN.se A8)))) (A1Y (SN.se (T7 (he _) (SN.se (C1 K2 (SN.se (A3 rfl)) (SN.se (A3 rfl)))) (A7 (A6 A8) (A7 (A6 (P6 (A7 (A6 (n8 (A7 (A6 A8) (A7 (A6 A8) (A7 (A6 A8) C2))))) C2))) C2)))) (fun _=> (fun h z=> N64 () () h z))) (A1Y (SN.se (T7 (he _) (SN.se (C1 K2 (SN.se (A3 rfl)) (SN.se (A3 rfl)))) (A7 (A6 A8) C2))) (fun _=> (fun h z=> N64 () () h z)))))))))))))))) (fun R65 x_row_here s50 j51 kn52 _ N54 h z=> by refine A1e [some (.val x_script),some (.val x_bag),some (.val x_msizes),some (.val x_mdeeds),some (.val x_rows),some (.val x_mbook),some (.val x_twins),some (.val x_kept),j46,none,some (.val x_row_here),none,none,none,none] P7 rfl h _ ?_;exact A1p h z (D8 (B0p A3z (C1 K2 (SN.se (A3 rfl)) (SN.se A8)) (A7 (A6 A8) C2) ((D9 (D8 (B0p A3z (C1 K2 (SN.se (A3 rfl)) (SN.se A8)) (A7 (A6 A8) C2) ((D9 (B0p A3z (C1 K2 (SN.se (A3 rfl)) (SN.se A8)) (A7 (A6 A8) C2) ((fun h z=> N54 () (some (.val x_row_here)) h z)))))))))))))))) (fun R66 x_mone s45 j46 kn47 _ N49 h z=> by refine A1e [some (.val x_script),some (.val x_bag),some (.val x_msizes),some (.val x_mdeeds),some (.val x_rows),some (.val x_mbook),some (.val x_twins),some (.val x_kept),some (.val x_mone),none,none,none,none,none,none] P7 rfl h _ ?_;exact A1p h z (N3 (A1t (A1D (I0 (SN.se (J8 A55 (F5 (SN.se (A1J (A05 (A6 (A3 rfl))) (fun x_mother h kk K1 K0 h1 h0 z=> by exact w4 (e1:=[some (.val x_script),some (.val x_bag),some (.val x_msizes),some (.val x_mdeeds),some (.val x_rows),some (.val x_mbook),some (.val x_twins),some (.val x_kept),some (.val x_mone),some (.val x_mother),none,none,none,none,none]) P7 A0M (A6 (A0L (SN.se (A4G (SN.se (A3 rfl)) (SN.se (A3 rfl)))) (B6C (SN.se (A4G (SN.se (A3 rfl)) (SN.se (A3 rfl))))))) rfl h1 h0 z))) H9))))) (A1D (I0 (SN.se (L4 (he _) (A7 (A6 (L4 (he _) (A7 (A6 (A3 rfl)) C2))) (A7 (A6 (A3 rfl)) C2))))))) (J0 hr_ (SN.se A8)) (N7 (fun h z=> N49 () (some (.val x_mone)) h z))))))))))))))))))))))))))))))))))))
theorem C5e (ws:List W) (h:AH) (Qa:RR→AH→Prop) (Ea:AExc→AH→Prop) (hl:ws.length=1) (z:upc m_law ws h Qa Ea):A8o (E2 Ea) (C4 Qa) (L0 15 ws) h:=by
  obtain ⟨Q0,E0,hQ,hE,z⟩:=z
  match ws,hl with
  | [x_script],_=> exact C5E hQ hE x_script h z
end Ab
namespace Ab
open PySem PySem.Spec PyProof.Rows L2 RZ
abbrev A9n:List Str:=["sizes","cask","size"]
abbrev A5R:List Str:=["sizes"]
theorem B27:FnScope A9n A5R (defScope i9):=⟨rfl,rfl,rfl,by decide+kernel,rfl,by decide+kernel,by decide+kernel⟩
theorem B9h:Q4 "look_sizes" i9 A5R:=fun _ _ _ _ _ _ us hl=> match us,hl with | [_],_=> rfl
abbrev A9u:List Str:=["word","many","casks"]
abbrev A5Y:List Str:=["word","many","casks"]
theorem B3Q:FnScope A9u A5Y (defScope j7):=⟨rfl,rfl,rfl,by decide+kernel,rfl,by decide+kernel,by decide+kernel⟩
theorem C0B:Q4 "has_count" j7 A5Y:=fun _ _ _ _ _ _ us hl=> match us,hl with | [_,_,_],_=> rfl
abbrev A90:List Str:=["things","start","casks","at","cask"]
abbrev A5f:List Str:=["things","start","casks"]
theorem B3C:FnScope A90 A5f (defScope j5):=⟨rfl,rfl,rfl,by decide+kernel,rfl,by decide+kernel,by decide+kernel⟩
theorem B3L:Q4 "first_bad" j5 A5f:=fun _ _ _ _ _ _ us hl=> match us,hl with | [_,_,_],_=> rfl
abbrev A95:List Str:=["sizes","deed","word","things","bad","many","casks"]
abbrev A5g:List Str:=["sizes","deed"]
theorem B3i:FnScope A95 A5g (defScope k8):=⟨rfl,rfl,rfl,by decide+kernel,rfl,by decide+kernel,by decide+kernel⟩
theorem C0d:Q4 "fault_of" k8 A5g:=fun _ _ _ _ _ _ us hl=> match us,hl with | [_,_],_=> rfl
abbrev A7l:List Str:=["text","sign"]
abbrev A5l:List Str:=["text"]
theorem B3k:FnScope A7l A5l (defScope c5):=⟨rfl,rfl,rfl,by decide+kernel,rfl,by decide+kernel,by decide+kernel⟩
theorem C03:Q4 "is_name" c5 A5l:=fun _ _ _ _ _ _ us hl=> match us,hl with | [_],_=> rfl
abbrev A96:List Str:=["step"]
abbrev A0D:List Str:=["step"]
theorem B3l:FnScope A96 A0D (defScope T6):=⟨rfl,rfl,rfl,by decide+kernel,rfl,by decide+kernel,by decide+kernel⟩
theorem A5m:Q4 "is_call" T6 A0D:=fun _ _ _ _ _ _ us hl=> match us,hl with | [_],_=> rfl
abbrev A9p:List Str:=["step"]
abbrev A5X:List Str:=["step"]
theorem B2y:FnScope A9p A5X (defScope i8):=⟨rfl,rfl,rfl,by decide+kernel,rfl,by decide+kernel,by decide+kernel⟩
theorem B9O:Q4 "call_fault" i8 A5X:=fun _ _ _ _ _ _ us hl=> match us,hl with | [_],_=> rfl
abbrev A9r:List Str:=["_law_script"]
abbrev A5Z:List Str:=["_law_script"]
theorem B3O:FnScope A9r A5Z (defScope j9):=⟨rfl,rfl,rfl,by decide+kernel,rfl,by decide+kernel,by decide+kernel⟩
theorem B9m:Q4 "_law_open" j9 A5Z:=fun _ _ _ _ _ _ us hl=> match us,hl with | [_],_=> rfl
abbrev A9v:List Str:=["_law_bag","_law_sides","_law_cell","_law_side","_law_mix"]
abbrev Y8:List Str:=["_law_bag","_law_sides"]
theorem B3D:FnScope A9v Y8 (defScope P3):=⟨rfl,rfl,rfl,by decide+kernel,rfl,by decide+kernel,by decide+kernel⟩
theorem j4:Q4 "_law_take" P3 Y8:=fun _ _ _ _ _ _ us hl=> match us,hl with | [_,_],_=> rfl
abbrev A9y:List Str:=["_law_bag","_law_row_here"]
abbrev A1Q:List Str:=["_law_bag","_law_row_here"]
theorem B3K:FnScope A9y A1Q (defScope V4):=⟨rfl,rfl,rfl,by decide+kernel,rfl,by decide+kernel,by decide+kernel⟩
theorem A7O:Q4 "_law_pick" V4 A1Q:=fun _ _ _ _ _ _ us hl=> match us,hl with | [_,_],_=> rfl
abbrev A7T:List Str:=["_law_found","_law_due","_law_at"]
abbrev A3B:List Str:=["_law_found","_law_due"]
theorem B3I:FnScope A7T A3B (defScope Y9):=⟨rfl,rfl,rfl,by decide+kernel,rfl,by decide+kernel,by decide+kernel⟩
theorem A9q:Q4 "_law_same" Y9 A3B:=fun _ _ _ _ _ _ us hl=> match us,hl with | [_,_],_=> rfl
abbrev A7G:List Str:=["_law_bag","_law_mcasks","_law_most","_law_mcask"]
abbrev A5L:List Str:=["_law_bag","_law_mcasks","_law_most"]
theorem B24:FnScope A7G A5L (defScope b8):=⟨rfl,rfl,rfl,by decide+kernel,rfl,by decide+kernel,by decide+kernel⟩
theorem B9Y:Q4 "_law_sizes" b8 A5L:=fun _ _ _ _ _ _ us hl=> match us,hl with | [_,_,_],_=> rfl
abbrev A9b:List Str:=["_law_bag"]
abbrev A4z:List Str:=["_law_bag"]
theorem B2O:FnScope A9b A4z (defScope f9):=⟨rfl,rfl,rfl,by decide+kernel,rfl,by decide+kernel,by decide+kernel⟩
theorem B8O:Q4 "_law_any_sizes" f9 A4z:=fun _ _ _ _ _ _ us hl=> match us,hl with | [_],_=> rfl
abbrev A9g:List Str:=["_law_bag","_law_some"]
abbrev A5I:List Str:=["_law_bag"]
theorem B2r:FnScope A9g A5I (defScope i6):=⟨rfl,rfl,rfl,by decide+kernel,rfl,by decide+kernel,by decide+kernel⟩
theorem B8v:Q4 "_law_number" i6 A5I:=fun _ _ _ _ _ _ us hl=> match us,hl with | [_],_=> rfl
abbrev A67:List Str:=["_law_bag","_law_row_here","_law_left","_law_thing"]
abbrev A43:List Str:=["_law_bag","_law_row_here"]
theorem B2Y:FnScope A67 A43 (defScope Z8):=⟨rfl,rfl,rfl,by decide+kernel,rfl,by decide+kernel,by decide+kernel⟩
theorem B8a:Q4 "_law_shuffled" Z8 A43:=fun _ _ _ _ _ _ us hl=> match us,hl with | [_,_],_=> rfl
abbrev A9X:List Str:=["_law_bag","_law_mcasks","_law_mmany"]
abbrev A4r:List Str:=["_law_bag","_law_mcasks","_law_mmany"]
theorem B2K:FnScope A9X A4r (defScope d7):=⟨rfl,rfl,rfl,by decide+kernel,rfl,by decide+kernel,by decide+kernel⟩
theorem B74:Q4 "_law_some_casks" d7 A4r:=fun _ _ _ _ _ _ us hl=> match us,hl with | [_,_,_],_=> rfl
abbrev A5N:List Str:=["_law_msizes","_law_found","_law_mone","_law_near","_law_at"]
abbrev A5S:List Str:=["_law_msizes"]
theorem B2v:FnScope A5N A5S (defScope Y6):=⟨rfl,rfl,rfl,by decide+kernel,rfl,by decide+kernel,by decide+kernel⟩
theorem B9D:Q4 "_law_alike" Y6 A5S:=fun _ _ _ _ _ _ us hl=> match us,hl with | [_],_=> rfl
abbrev A9s:List Str:=["_law_bag","_law_msizes","_law_number_here","_law_taps","_law_how","_law_pairs","_law_mmany","_law_word"]
abbrev A5a:List Str:=["_law_bag","_law_msizes","_law_number_here","_law_taps"]
theorem B3R:FnScope A9s A5a (defScope j3):=⟨rfl,rfl,rfl,by decide+kernel,rfl,by decide+kernel,by decide+kernel⟩
theorem B94:Q4 "_law_deed" j3 A5a:=fun _ _ _ _ _ _ us hl=> match us,hl with | [_,_,_,_],_=> rfl
abbrev A7Y:List Str:=["_law_bag","_law_msizes","_law_most","_law_taps","_law_k"]
abbrev A5k:List Str:=["_law_bag","_law_msizes","_law_most","_law_taps"]
theorem B3Z:FnScope A7Y A5k (defScope b9):=⟨rfl,rfl,rfl,by decide+kernel,rfl,by decide+kernel,by decide+kernel⟩
theorem C0l:Q4 "_law_row" b9 A5k:=fun _ _ _ _ _ _ us hl=> match us,hl with | [_,_,_,_],_=> rfl
abbrev A9h:List Str:=["self","name"]
abbrev A0B:List Str:=["self","name"]
theorem B2u:FnScope A9h A0B (defScope T5):=⟨rfl,rfl,rfl,by decide+kernel,rfl,by decide+kernel,by decide+kernel⟩
theorem A7C:V6 "Book" "there" T5 A0B:=fun _ _ _ _ _ _ us hl=> match us,hl with | [_,_],_=> rfl
abbrev A9j:List Str:=["self","name"]
abbrev A21:List Str:=["self","name"]
theorem B2o:FnScope A9j A21 (defScope X8):=⟨rfl,rfl,rfl,by decide+kernel,rfl,by decide+kernel,by decide+kernel⟩
theorem B2g:V6 "Book" "steps" X8 A21:=fun _ _ _ _ _ _ us hl=> match us,hl with | [_,_],_=> rfl
abbrev A9o:List Str:=["self","name"]
abbrev A25:List Str:=["self","name"]
theorem B28:FnScope A9o A25 (defScope Y0):=⟨rfl,rfl,rfl,by decide+kernel,rfl,by decide+kernel,by decide+kernel⟩
theorem B2q:V6 "Book" "flat" Y0 A25:=fun _ _ _ _ _ _ us hl=> match us,hl with | [_,_],_=> rfl
abbrev A69:List Str:=["self","name","found","other","steps","step"]
abbrev A1P:List Str:=["self","name"]
theorem B2X:FnScope A69 A1P (defScope U3):=⟨rfl,rfl,rfl,by decide+kernel,rfl,by decide+kernel,by decide+kernel⟩
theorem A9a:V6 "Book" "callers" U3 A1P:=fun _ _ _ _ _ _ us hl=> match us,hl with | [_,_],_=> rfl
abbrev A9l:List Str:=["self"]
abbrev A0A:List Str:=["self"]
theorem B2p:FnScope A9l A0A (defScope T4):=⟨rfl,rfl,rfl,by decide+kernel,rfl,by decide+kernel,by decide+kernel⟩
theorem A3y:V6 "Book" "names" T4 A0A:=fun _ _ _ _ _ _ us hl=> match us,hl with | [_],_=> rfl
abbrev A5b:List Str:=["_law_mbook","_law_mname"]
abbrev A5c:List Str:=["_law_mbook"]
theorem B3F:FnScope A5b A5c (defScope Z0):=⟨rfl,rfl,rfl,by decide+kernel,rfl,by decide+kernel,by decide+kernel⟩
theorem A7U:Q4 "_law_told" Z0 A5c:=fun _ _ _ _ _ _ us hl=> match us,hl with | [_],_=> rfl
abbrev A9e:List Str:=["_law_mbook","_law_mname"]
abbrev A48:List Str:=["_law_mbook"]
theorem B2a:FnScope A9e A48 (defScope i4):=⟨rfl,rfl,rfl,by decide+kernel,rfl,by decide+kernel,by decide+kernel⟩
theorem B8k:Q4 "_law_told" i4 A48:=fun _ _ _ _ _ _ us hl=> match us,hl with | [_],_=> rfl
abbrev A9Y:List Str:=["self","sizes"]
abbrev A0Y:List Str:=["self","sizes"]
theorem B2P:FnScope A9Y A0Y (defScope U2):=⟨rfl,rfl,rfl,by decide+kernel,rfl,by decide+kernel,by decide+kernel⟩
theorem A2w:V6 "Book" "__init__" U2 A0Y:=fun _ _ _ _ _ _ us hl=> match us,hl with | [_,_],_=> rfl
abbrev A9Z:List Str:=["self","name"]
abbrev A4w:List Str:=["self","name"]
theorem B2S:FnScope A9Z A4w (defScope e9):=⟨rfl,rfl,rfl,by decide+kernel,rfl,by decide+kernel,by decide+kernel⟩
theorem B7v:V6 "Book" "look_new" e9 A4w:=fun _ _ _ _ _ _ us hl=> match us,hl with | [_,_],_=> rfl
abbrev A9c:List Str:=["self","steps","found","step"]
abbrev A4y:List Str:=["self","steps"]
theorem B2U:FnScope A9c A4y (defScope f7):=⟨rfl,rfl,rfl,by decide+kernel,rfl,by decide+kernel,by decide+kernel⟩
theorem B77:V6 "Book" "laid_out" f7 A4y:=fun _ _ _ _ _ _ us hl=> match us,hl with | [_,_],_=> rfl
abbrev A9W:List Str:=["self","at","step","place"]
abbrev A4t:List Str:=["self","at","step"]
theorem B2M:FnScope A9W A4t (defScope d9):=⟨rfl,rfl,rfl,by decide+kernel,rfl,by decide+kernel,by decide+kernel⟩
theorem B7t:V6 "Book" "look_step" d9 A4t:=fun _ _ _ _ _ _ us hl=> match us,hl with | [_,_,_],_=> rfl
abbrev A7A:List Str:=["self","steps","step"]
abbrev A44:List Str:=["self","steps"]
theorem B2d:FnScope A7A A44 (defScope Z9):=⟨rfl,rfl,rfl,by decide+kernel,rfl,by decide+kernel,by decide+kernel⟩
theorem B8X:V6 "Book" "length" Z9 A44:=fun _ _ _ _ _ _ us hl=> match us,hl with | [_,_],_=> rfl
abbrev A9k:List Str:=["self","name","steps","at","step"]
abbrev A23:List Str:=["self","name","steps"]
theorem B2n:FnScope A9k A23 (defScope X9):=⟨rfl,rfl,rfl,by decide+kernel,rfl,by decide+kernel,by decide+kernel⟩
theorem B2b:V6 "Book" "write" X9 A23:=fun _ _ _ _ _ _ us hl=> match us,hl with | [_,_,_],_=> rfl
abbrev A9d:List Str:=["_law_msizes","_law_rows","_law_mbook","_law_mname","_law_msteps"]
abbrev A5A:List Str:=["_law_msizes","_law_rows"]
theorem B2j:FnScope A9d A5A (defScope i5):=⟨rfl,rfl,rfl,by decide+kernel,rfl,by decide+kernel,by decide+kernel⟩
theorem A45:Q4 "_law_written" i5 A5A:=fun _ _ _ _ _ _ us hl=> match us,hl with | [_,_],_=> rfl
abbrev A5P:List Str:=["self","other","name","steps","deeds"]
abbrev A5T:List Str:=["self"]
theorem B21:FnScope A5P A5T (defScope Y7):=⟨rfl,rfl,rfl,by decide+kernel,rfl,by decide+kernel,by decide+kernel⟩
theorem A9i:V6 "Book" "twin" Y7 A5T:=fun _ _ _ _ _ _ us hl=> match us,hl with | [_],_=> rfl
abbrev A9m:List Str:=["self","name","found"]
abbrev A5U:List Str:=["self","name"]
theorem B25:FnScope A9m A5U (defScope i7):=⟨rfl,rfl,rfl,by decide+kernel,rfl,by decide+kernel,by decide+kernel⟩
theorem B8y:V6 "Book" "drop" i7 A5U:=fun _ _ _ _ _ _ us hl=> match us,hl with | [_,_],_=> rfl
abbrev A9f:List Str:=["self","other"]
abbrev A47:List Str:=["self","other"]
theorem B2h:FnScope A9f A47 (defScope g9):=⟨rfl,rfl,rfl,by decide+kernel,rfl,by decide+kernel,by decide+kernel⟩
theorem A2D:V6 "Book" "__eq__" g9 A47:=fun _ _ _ _ _ _ us hl=> match us,hl with | [_,_],_=> rfl
abbrev A6N:List Str:=["_law_script","_law_bag","_law_msizes","_law_mdeeds","_law_rows","_law_mbook","_law_twins","_law_kept","_law_mone","_law_mother","_law_row_here","_law_at","_law_k","_law_turned","_law_others"]
abbrev A86:List Str:=["_law_script"]
theorem B64:FnScope A6N A86 (defScope o3):=⟨rfl,rfl,rfl,by decide+kernel,rfl,by decide+kernel,by decide+kernel⟩
theorem C0X:FnScope ["self"] ["self"] (defScope A7Z):=⟨rfl,rfl,rfl,by decide+kernel,rfl,by decide+kernel,by decide+kernel⟩
theorem C04:FnScope ["self","step","place"] ["self","step","place"] (defScope A7h):=⟨rfl,rfl,rfl,by decide+kernel,rfl,by decide+kernel,by decide+kernel⟩
theorem C0I:FnScope ["self","cask"] ["self","cask"] (defScope A7W):=⟨rfl,rfl,rfl,by decide+kernel,rfl,by decide+kernel,by decide+kernel⟩
theorem C1a:FnScope ["self","name"] ["self","name"] (defScope A7s):=⟨rfl,rfl,rfl,by decide+kernel,rfl,by decide+kernel,by decide+kernel⟩
theorem C0k:FnScope ["self","name"] ["self","name"] (defScope A7d):=⟨rfl,rfl,rfl,by decide+kernel,rfl,by decide+kernel,by decide+kernel⟩
theorem C1d:FnScope ["self","name"] ["self","name"] (defScope A7z):=⟨rfl,rfl,rfl,by decide+kernel,rfl,by decide+kernel,by decide+kernel⟩
theorem C0p:FnScope ["self","most"] ["self","most"] (defScope A7a):=⟨rfl,rfl,rfl,by decide+kernel,rfl,by decide+kernel,by decide+kernel⟩
theorem C0Y:FnScope ["self","most"] ["self","most"] (defScope A7e):=⟨rfl,rfl,rfl,by decide+kernel,rfl,by decide+kernel,by decide+kernel⟩
theorem B7o:MB "__init__" (("Book":Str)++"."++"__init__") U2 [] A0Y ["sizes"] 1 [0,1] []:=C4S (fun _ _ _ _ _ _ us ws h1 h2=> match us,ws,h1,h2 with | [u0],[w0],_,_=> rfl)
end Ab
namespace Ab
open PySem PySem.Spec PyProof.Rows L2 RZ
structure Blt (K:PySem.W.Frag) (w:World) (mg:Str→Option Value):Prop where
  n_all:mg "all"=none
  n_any:mg "any"=none
  n_bool:mg "bool"=none
  n_enumerate:mg "enumerate"=none
  n_int:mg "int"=none
  n_isinstance:mg "isinstance"=none
  n_len:mg "len"=none
  n_list:mg "list"=none
  n_range:mg "range"=none
  n_str:mg "str"=none
  n_sum:mg "sum"=none
  n_tuple:mg "tuple"=none
  c_GREAT:∃t,mg "GREAT"=some (.int 1000000000000000000000000000000 t)
  c_LETTERS:∃t,mg "LETTERS"=some (.str ("abcdefghijklmnopqrstuvwxyz":Str) t)
  c_LONGEST:∃t,mg "LONGEST"=some (.int 8 t)
  c_MOST_CALLS:∃t,mg "MOST_CALLS"=some (.int 9 t)
  c_MOST_CASKS:∃t,mg "MOST_CASKS"=some (.int 6 t)
  c_MOST_FLAT:∃t,mg "MOST_FLAT"=some (.int 200 t)
  c_MOST_ROUNDS:∃t,mg "MOST_ROUNDS"=some (.int 12 t)
  c_MOST_SIZE:∃t,mg "MOST_SIZE"=some (.int 40 t)
  c_PATHS:∃a vs,mg "PATHS"=some (.ref a)∧(∀H,SqT K H a vs)∧∀H,RepL K H [.str ("over":Str),.str ("down":Str)] vs
  c_PLAIN:∃a vs,mg "PLAIN"=some (.ref a)∧(∀H,SqT K H a vs)∧∀H,RepL K H [.str ("swap":Str),.str ("tap":Str),.str ("drain":Str)] vs
  fo_Book_casks:FldOk K "Book" "casks"
  fo_Book_laid:FldOk K "Book" "laid"
  fo_Book_written:FldOk K "Book" "written"
  mk_Book:MkC K mg "Book"
  ne_Book:NeOk K (He.ga K "Book")
  iso_Book_Book:IsO K mg "Book" "Book" true
theorem B9f {P:Program} {w:World} {K:PySem.W.Frag} {mg:Str→Option Value} {base:Heap} {f:Addr} {cdv:Value} {A:Around} {outer:List Env} {s:Shared} {H:Hp} {EX:XK} {G:Gx} {E:AExc→A1→AH→Prop} (Z:Blt K w mg) (R_BadSizes:XkOk P w K mg base "BadSizes" "bad sizes" ["cask"]) (hr:Room 2 (A.deeper (envOfC "look_sizes" (defScope i9) s.heap.objs.size f cdv))) (gk:G.K=K) (tk:Takes (bx P w K mg base A9n "look_sizes" (defScope i9) f cdv A outer s H EX) (cW G E)):
    ASs (bx P w K mg base A9n "look_sizes" (defScope i9) f cdv A outer s H EX) G (defBody i9) (A65 E):=by
  subst gk
  have gk:G.K=G.K:=rfl
  have sc:=B27
  have hu:=hr.units
  exact (D6 (N2 (A09 (A57 op_le op_le ae_int (M0 call_len R7 rfl Z.n_len Q6 (F4 (A2 (pv 0)) H7)) (A1c rfl Z.c_MOST_CASKS))) (D2 (A2N R_BadSizes gk rfl tk hr (by decide) rfl (C3 (A5 (B0o ae_int)) D3))) N6)
    (D2 (A3f (passes_of rfl) rfl (B5X gk rfl Z.n_enumerate (A5 (A2 (pv 0)))) (A8b gk rfl (A2M (K9 (i:=1) sc.nd rfl (by first | exact .inl rfl | exact .inr rfl)) (A2M (K9 (i:=2) sc.nd rfl (by first | exact .inl rfl | exact .inr rfl)) A8D))) (D2 (N2 (A09 (A57 op_le op_le ae_int (A2 (pv 2)) (A1c rfl Z.c_MOST_SIZE))) (D2 (A2N R_BadSizes gk rfl tk hr (by decide) rfl (C3 (A5 (A2 (pv 1))) D3))) N6)))))
theorem B9s {P:Program} {w:World} {K:PySem.W.Frag} {mg:Str→Option Value} {base:Heap} {f:Addr} {cdv:Value} {A:Around} {outer:List Env} {s:Shared} {H:Hp} {EX:XK} {G:Gx} {E:AExc→A1→AH→Prop} (Z:Blt K w mg) (hr:Room 0 (A.deeper (envOfC "has_count" (defScope j7) s.heap.objs.size f cdv))) (gk:G.K=K) (tk:Takes (bx P w K mg base A9u "has_count" (defScope j7) f cdv A outer s H EX) (cW G E)):
    ASs (bx P w K mg base A9u "has_count" (defScope j7) f cdv A outer s H EX) G (defBody j7) (A7S E):=by
  subst gk
  have gk:G.K=G.K:=rfl
  have sc:=B3Q
  have hu:=hr.units
  exact (D2 (I8 (A6J (B6e gk hu (A2 (pv 0)) (B0W gk rfl Z.c_PATHS)) (B5y op_le op_le ae_int (A2 (pv 1)) (S9 gk ae_int (A2 (pv 2)))) (A1q gk hu (A2 (pv 1)) ae_int))))
theorem B9r {P:Program} {w:World} {K:PySem.W.Frag} {mg:Str→Option Value} {base:Heap} {f:Addr} {cdv:Value} {A:Around} {outer:List Env} {s:Shared} {H:Hp} {EX:XK} {G:Gx} {E:AExc→A1→AH→Prop} (Z:Blt K w mg) (hr:Room 0 (A.deeper (envOfC "first_bad" (defScope j5) s.heap.objs.size f cdv))) (gk:G.K=K) (tk:Takes (bx P w K mg base A90 "first_bad" (defScope j5) f cdv A outer s H EX) (cW G E)):
    ASs (bx P w K mg base A90 "first_bad" (defScope j5) f cdv A outer s H EX) G (defBody j5) (A7R E):=by
  subst gk
  have gk:G.K=G.K:=rfl
  have sc:=B3C
  have hu:=hr.units
  exact (D6 (A3f (passes_of rfl) rfl (B5X gk rfl Z.n_enumerate (A5 (A2 (pv 0)))) (A8b gk rfl (A2M (K9 (i:=3) sc.nd rfl (by first | exact .inl rfl | exact .inr rfl)) (A2M (K9 (i:=4) sc.nd rfl (by first | exact .inl rfl | exact .inr rfl)) A8D))) (D2 (N2 (AW.ap (A1k (A09 (A57 op_le op_lt ae_int (A2 (pv 4)) (A2 (pv 2)))) (A1g (B6e gk hu (A2 (pv 4)) (A3M gk (A2 (pv 0)) A3S (A3Q (A2 (pv 3)))))))) (D2 (I8 (S9 gk (A2 (pv 1)) (A2 (pv 3))))) N6)))
    (D2 (I8 A3Z)))
theorem C0i {P:Program} {w:World} {K:PySem.W.Frag} {mg:Str→Option Value} {base:Heap} {f:Addr} {cdv:Value} {A:Around} {outer:List Env} {s:Shared} {H:Hp} {EX:XK} {G:Gx} {E:AExc→A1→AH→Prop} (Z:Blt K w mg) (O_has_count:Ok P w K mg base "has_count" j7 1 3 A5Y (upc A29)) (O_first_bad:Ok P w K mg base "first_bad" j5 1 3 A5f (upc A0i)) (hr:Room 1 (A.deeper (envOfC "fault_of" (defScope k8) s.heap.objs.size f cdv))) (gk:G.K=K) (tk:Takes (bx P w K mg base A95 "fault_of" (defScope k8) f cdv A outer s H EX) (cW G E)):
    ASs (bx P w K mg base A95 "fault_of" (defScope k8) f cdv A outer s H EX) G (defBody k8) (A7X E):=by
  subst gk
  have gk:G.K=G.K:=rfl
  have sc:=B3i
  have hu:=hr.units
  exact (D6 (N2 (AW.ap (A1k (A2g gk hu (M0 call_len R7 rfl Z.n_len Q6 (F4 (A2 (pv 1)) H7)) ae_int) (A1g (C4L gk hu (J9 gk (A2 (pv 1)) ae_int (fun _ _=> rfl)) (S9 gk (B0W gk rfl Z.c_PATHS) (B0W gk rfl Z.c_PLAIN)))))) (D2 (I8 ae_int)) N6)
    (D6 (N2 (A09 (d0 (I7 gk O_has_count C0B hr (by decide) rfl tk (C3 (A5 (J9 gk (A2 (pv 1)) ae_int (fun _ _=> rfl))) (C3 (A5 (M0 call_len R7 rfl Z.n_len Q6 (F4 (A2 (pv 1)) H7))) (C3 (A5 (M0 call_len R7 rfl Z.n_len Q6 (F4 (A2 (pv 0)) H7))) D3)))))) (D2 (I8 (B0o ae_int))) N6)
    (D6 (B5Q (i:=2) (j:=3) gk rfl sc.nd rfl rfl (by first | exact .inl rfl | exact .inr rfl) (by first | exact .inl rfl | exact .inr rfl) (A5 (A2 (pv 1))))
    (D6 (N2 (A2g gk hu (A2 (pv 2)) Q7) (D6 (A53 3 (N9 (A5 (I7 gk O_first_bad B3L hr (by decide) rfl tk (C3 (A5 (A2 (pv 3))) (C3 (A5 ae_int) (C3 (A5 (M0 call_len R7 rfl Z.n_len Q6 (F4 (A2 (pv 0)) H7))) D3))))) (K9 (i:=4) sc.nd rfl (by first | exact .inl rfl | exact .inr rfl))))
    (D6 (N2 (B4l (A2 (pv 4)) A3Z) (D2 (I8 (A2 (pv 4)))) N6)
    (D2 (I8 (A6J (A2g gk hu (J9 gk (A2 (pv 0)) (J9 gk (A2 (pv 3)) ae_int (fun _ _=> rfl)) (fun _ _=> rfl)) (J9 gk (A2 (pv 0)) (J9 gk (A2 (pv 3)) ae_int (fun _ _=> rfl)) (fun _ _=> rfl))) A3Z ae_int))))) N6)
    (D6 (A53 3 (B5Q (i:=5) (j:=6) gk rfl sc.nd rfl rfl (by first | exact .inl rfl | exact .inr rfl) (by first | exact .inl rfl | exact .inr rfl) (A5 (A2 (pv 3)))))
    (D6 (N2 (A09 (A57 op_le op_lt ae_int (A2 (pv 5)) (A1c rfl Z.c_GREAT))) (D2 (I8 ae_int)) N6)
    (D2 (A53 6 (I8 (I7 gk O_first_bad B3L hr (by decide) rfl tk (C3 (A5 (A2 (pv 6))) (C3 (A5 ae_int) (C3 (A5 (M0 call_len R7 rfl Z.n_len Q6 (F4 (A2 (pv 0)) H7))) D3)))))))))))))
theorem C07 {P:Program} {w:World} {K:PySem.W.Frag} {mg:Str→Option Value} {base:Heap} {f:Addr} {cdv:Value} {A:Around} {outer:List Env} {s:Shared} {H:Hp} {EX:XK} {G:Gx} {E:AExc→A1→AH→Prop} (Z:Blt K w mg) (hr:Room 0 (A.deeper (envOfC "is_name" (defScope c5) s.heap.objs.size f cdv))) (gk:G.K=K) (tk:Takes (bx P w K mg base A7l "is_name" (defScope c5) f cdv A outer s H EX) (cW G E)):
    ASs (bx P w K mg base A7l "is_name" (defScope c5) f cdv A outer s H EX) G (defBody c5) (A7g E):=by
  subst gk
  have gk:G.K=G.K:=rfl
  have sc:=B3k
  have hu:=hr.units
  exact (D2 (I8 (A0F (B5y op_le op_le ae_int (M0 call_len R7 rfl Z.n_len Q6 (F4 (A2 (pv 0)) H7)) (A1c rfl Z.c_LONGEST)) (A1Z (M0 (cr_all rfl) B0j rfl Z.n_all B0e (F4 (A0G (own:=[("sign",1)]) rfl sc.nd (C4E (A2 (pv 0))) (blkOk_by (by first | (show blkC A7l (defScope c5) _ _=true;decide+kernel) | rfl)) (by decide) (fun _ _ _ _ _=> (K9 (i:=1) sc.nd rfl (by first | exact .inl rfl | exact .inr rfl))) (fun _ _ _ _ _=> w5) (fun _ _ _ _ _=> (A5 (C34 (A2 (pv 1)) (C3N rfl Z.c_LETTERS))))) H7))))))
theorem C1C {P:Program} {w:World} {K:PySem.W.Frag} {mg:Str→Option Value} {base:Heap} {f:Addr} {cdv:Value} {A:Around} {outer:List Env} {s:Shared} {H:Hp} {EX:XK} {G:Gx} {E:AExc→A1→AH→Prop} (Z:Blt K w mg) (hr:Room 0 (A.deeper (envOfC "is_call" (defScope T6) s.heap.objs.size f cdv))) (gk:G.K=K) (tk:Takes (bx P w K mg base A96 "is_call" (defScope T6) f cdv A outer s H EX) (cW G E)):
    ASs (bx P w K mg base A96 "is_call" (defScope T6) f cdv A outer s H EX) G (defBody T6) (A7i E):=by
  subst gk
  have gk:G.K=G.K:=rfl
  have sc:=B3l
  have hu:=hr.units
  exact (D2 (I8 (A0F (C5X (M0 call_len R7 rfl Z.n_len Q6 (F4 (A2 (pv 0)) H7)) ae_int) (A1Z (A1q gk hu (J9 gk (A2 (pv 0)) ae_int (fun _ _=> rfl)) Q7)))))
theorem B9T {P:Program} {w:World} {K:PySem.W.Frag} {mg:Str→Option Value} {base:Heap} {f:Addr} {cdv:Value} {A:Around} {outer:List Env} {s:Shared} {H:Hp} {EX:XK} {G:Gx} {E:AExc→A1→AH→Prop} (Z:Blt K w mg) (hr:Room 0 (A.deeper (envOfC "call_fault" (defScope i8) s.heap.objs.size f cdv))) (gk:G.K=K) (tk:Takes (bx P w K mg base A9p "call_fault" (defScope i8) f cdv A outer s H EX) (cW G E)):
    ASs (bx P w K mg base A9p "call_fault" (defScope i8) f cdv A outer s H EX) G (defBody i8) (A7J E):=by
  subst gk
  have gk:G.K=G.K:=rfl
  have sc:=B2y
  have hu:=hr.units
  exact (D6 (N2 (A0O gk hu (M0 call_len R7 rfl Z.n_len Q6 (F4 (A2 (pv 0)) H7)) ae_int) (D2 (I8 (B0o ae_int))) N6)
    (D2 (I8 (A6J (A57 op_le op_le ae_int (J9 gk (A2 (pv 0)) ae_int (fun _ _=> rfl)) (A1c rfl Z.c_MOST_CALLS)) A3Z ae_int))))
theorem B95 {P:Program} {w:World} {K:PySem.W.Frag} {mg:Str→Option Value} {base:Heap} {f:Addr} {cdv:Value} {A:Around} {outer:List Env} {s:Shared} {H:Hp} {EX:XK} {G:Gx} {E:AExc→A1→AH→Prop} (Z:Blt K w mg) (hr:Room 0 (A.deeper (envOfC "_law_open" (defScope j9) s.heap.objs.size f cdv))) (gk:G.K=K) (tk:Takes (bx P w K mg base A9r "_law_open" (defScope j9) f cdv A outer s H EX) (cW G E)):
    ASs (bx P w K mg base A9r "_law_open" (defScope j9) f cdv A outer s H EX) G (defBody j9) (A7P E):=by
  subst gk
  have gk:G.K=G.K:=rfl
  have sc:=B3O
  have hu:=hr.units
  exact (D2 (I8 (P5 (C9 (A5 (A04 call_list_of A3Y rfl Z.n_list A06 (F4 (A3M gk (A2 (pv 0)) A3S (A3Q ae_int)) H7))) (C9 (A5 ae_int) (C9 (A5 ae_int) (C9 (A5 ae_int) (C9 (A5 ae_int) K8))))))))
theorem C0G {P:Program} {w:World} {K:PySem.W.Frag} {mg:Str→Option Value} {base:Heap} {f:Addr} {cdv:Value} {A:Around} {outer:List Env} {s:Shared} {H:Hp} {EX:XK} {G:Gx} {E:AExc→A1→AH→Prop} (Z:Blt K w mg) (hr:Room 0 (A.deeper (envOfC "_law_take" (defScope P3) s.heap.objs.size f cdv))) (gk:G.K=K) (tk:Takes (bx P w K mg base A9v "_law_take" (defScope P3) f cdv A outer s H EX) (cW G E)):
    ASs (bx P w K mg base A9v "_law_take" (defScope P3) f cdv A outer s H EX) G (defBody P3) (A7Q E):=by
  subst gk
  have gk:G.K=G.K:=rfl
  have sc:=B3D
  have hu:=hr.units
  exact (D6 (N2 (AW.ap (A8d (B1G (J9 gk (A2 (pv 0)) ae_int (fun _ _=> rfl)) (A2 (pv 1))) (A72 (B1G (J9 gk (A2 (pv 0)) ae_int (fun _ _=> rfl)) (M0 call_len R7 rfl Z.n_len Q6 (F4 (J9 gk (A2 (pv 0)) ae_int (fun _ _=> rfl)) H7)))))) (D6 (N9 (A5 (J9 gk (J9 gk (A2 (pv 0)) ae_int (fun _ _=> rfl)) (J9 gk (A2 (pv 0)) ae_int (fun _ _=> rfl)) (fun _ _=> rfl))) (K9 (i:=2) sc.nd rfl (by first | exact .inl rfl | exact .inr rfl)))
    (D6 (N9 (A5 (S9 gk (J9 gk (A2 (pv 0)) ae_int (fun _ _=> rfl)) ae_int)) (A3d (A2 (pv 0)) ae_int (pg_sub (A2 (pv 0)).pe ae_int.pe set_list)))
    (D6 (N9 (A5 ae_int) (A3d (A2 (pv 0)) ae_int (pg_sub (A2 (pv 0)).pe ae_int.pe set_list)))
    (D2 (N2 (B1R (A2 (pv 2)) (B1D ae_int ae_int)) (D2 (N9 (A5 (A2 (pv 2))) (A3d (A2 (pv 0)) ae_int (pg_sub (A2 (pv 0)).pe ae_int.pe set_list)))) (D2 (N9 (A5 (A2W (S9 gk (S9 gk (A2O gk (J9 gk (A2 (pv 0)) ae_int (fun _ _=> rfl)) ae_int) (A2O gk (A2W (A2 (pv 2)) ae_int) ae_int)) ae_int) ae_int)) (A3d (A2 (pv 0)) ae_int (pg_sub (A2 (pv 0)).pe ae_int.pe set_list))))))))) N6)
    (D6 (N2 (B1R (J9 gk (A2 (pv 0)) ae_int (fun _ _=> rfl)) (A2 (pv 1))) (D6 (N9 (A5 (A2W (J9 gk (A2 (pv 0)) ae_int (fun _ _=> rfl)) (A2 (pv 1)))) (K9 (i:=3) sc.nd rfl (by first | exact .inl rfl | exact .inr rfl)))
    (D6 (N9 (A5 (B0b (J9 gk (A2 (pv 0)) ae_int (fun _ _=> rfl)) (A2 (pv 1)))) (A3d (A2 (pv 0)) ae_int (pg_sub (A2 (pv 0)).pe ae_int.pe set_list)))
    (D2 (I8 (A2 (pv 3)))))) N6)
    (D6 (N9 (A5 (S9 gk (J9 gk (A2 (pv 0)) ae_int (fun _ _=> rfl)) ae_int)) (A3d (A2 (pv 0)) ae_int (pg_sub (A2 (pv 0)).pe ae_int.pe set_list)))
    (D6 (N9 (A5 (J9 gk (A2 (pv 0)) ae_int (fun _ _=> rfl))) (K9 (i:=4) sc.nd rfl (by first | exact .inl rfl | exact .inr rfl)))
    (D6 (N9 (A5 (A2W (S9 gk (S9 gk (S9 gk (A2O gk (A2W (A2O gk (A2 (pv 4)) (A2 (pv 4))) ae_int) ae_int) (A2O gk (A2 (pv 4)) ae_int)) (A2O gk ae_int (J9 gk (A2 (pv 0)) ae_int (fun _ _=> rfl)))) ae_int) ae_int)) (A3d (A2 (pv 0)) ae_int (pg_sub (A2 (pv 0)).pe ae_int.pe set_list)))
    (D2 (I8 (A2W (S9 gk (B0b (J9 gk (A2 (pv 0)) ae_int (fun _ _=> rfl)) ae_int) (A2O gk (A2W (J9 gk (A2 (pv 0)) ae_int (fun _ _=> rfl)) ae_int) ae_int)) (A2 (pv 1))))))))))
theorem B9z {P:Program} {w:World} {K:PySem.W.Frag} {mg:Str→Option Value} {base:Heap} {f:Addr} {cdv:Value} {A:Around} {outer:List Env} {s:Shared} {H:Hp} {EX:XK} {G:Gx} {E:AExc→A1→AH→Prop} (Z:Blt K w mg) (O__law_take:Ok P w K mg base "_law_take" P3 1 2 Y8 (upc G7)) (hr:Room 1 (A.deeper (envOfC "_law_pick" (defScope V4) s.heap.objs.size f cdv))) (gk:G.K=K) (tk:Takes (bx P w K mg base A9y "_law_pick" (defScope V4) f cdv A outer s H EX) (cW G E)):
    ASs (bx P w K mg base A9y "_law_pick" (defScope V4) f cdv A outer s H EX) G (defBody V4) (A7V E):=by
  subst gk
  have gk:G.K=G.K:=rfl
  have sc:=B3K
  have hu:=hr.units
  exact (D2 (I8 (J9 gk (A2 (pv 1)) (I7 gk O__law_take j4 hr (by decide) rfl tk (C3 (A5 (A2 (pv 0))) (C3 (A5 (M0 call_len R7 rfl Z.n_len Q6 (F4 (A2 (pv 1)) H7))) D3))) (fun _ _=> rfl))))
theorem C0E {P:Program} {w:World} {K:PySem.W.Frag} {mg:Str→Option Value} {base:Heap} {f:Addr} {cdv:Value} {A:Around} {outer:List Env} {s:Shared} {H:Hp} {EX:XK} {G:Gx} {E:AExc→A1→AH→Prop} {d j:Nat} (Z:Blt K w mg) (O__law_same:Ok P w K mg base "_law_same" Y9 j 2 A3B (upc (m__law_same d))) (hr:Room (max j 0) (A.deeper (envOfC "_law_same" (defScope Y9) s.heap.objs.size f cdv))) (gk:G.K=K) (tk:Takes (bx P w K mg base A7T "_law_same" (defScope Y9) f cdv A outer s H EX) (cW G E)):
    ASs (bx P w K mg base A7T "_law_same" (defScope Y9) f cdv A outer s H EX) G (defBody Y9) (A7M d E):=by
  subst gk
  have gk:G.K=G.K:=rfl
  have sc:=B3I
  have hu:=hr.units
  exact (D6 (N2 (C4O (A2 (pv 1)) A3Z) (D2 (I8 (C4V (A2 (pv 0)) A3Z))) N6)
    (D6 (N2 (d0 (M0 call_isi A0K rfl Z.n_isinstance v8 (F4 (A2 (pv 1)) (F4 (A0Q rfl Z.n_bool B0T) H7)))) (D2 (I8 (A0F (M0 call_isi A0K rfl Z.n_isinstance v8 (F4 (A2 (pv 0)) (F4 (A0Q rfl Z.n_bool B0T) H7))) (A1Z (A1q gk hu (A2 (pv 0)) (A2 (pv 1))))))) N6)
    (D6 (N2 (d0 (M0 call_isi A0K rfl Z.n_isinstance v8 (F4 (A2 (pv 1)) (F4 (A0Q rfl Z.n_int B5m) H7)))) (D2 (I8 (A0F (M0 call_isi A0K rfl Z.n_isinstance v8 (F4 (A2 (pv 0)) (F4 (A0Q rfl Z.n_int B5m) H7))) (A0F (B5i (M0 call_isi A0K rfl Z.n_isinstance v8 (F4 (A2 (pv 0)) (F4 (A0Q rfl Z.n_bool B0T) H7)))) (A1Z (A1q gk hu (A2 (pv 0)) (A2 (pv 1)))))))) N6)
    (D6 (N2 (d0 (M0 call_isi A0K rfl Z.n_isinstance v8 (F4 (A2 (pv 1)) (F4 (A0Q rfl Z.n_str B58) H7)))) (D2 (I8 (A0F (M0 call_isi A0K rfl Z.n_isinstance v8 (F4 (A2 (pv 0)) (F4 (A0Q rfl Z.n_str B58) H7))) (A1Z (A1q gk hu (A2 (pv 0)) (A2 (pv 1))))))) N6)
    (D6 (N2 (AW.ap (A1k (A0O gk hu (M0 call_isi A0K rfl Z.n_isinstance v8 (F4 (A2 (pv 1)) (F4 (A0Q rfl Z.n_tuple A7w) H7))) (M0 call_isi A0K rfl Z.n_isinstance v8 (F4 (A2 (pv 0)) (F4 (A0Q rfl Z.n_tuple A7w) H7)))) (A1g (A0O gk hu (M0 call_isi A0K rfl Z.n_isinstance v8 (F4 (A2 (pv 1)) (F4 (A0Q rfl Z.n_list A06) H7))) (M0 call_isi A0K rfl Z.n_isinstance v8 (F4 (A2 (pv 0)) (F4 (A0Q rfl Z.n_list A06) H7))))))) (D2 (I8 A2d)) N6)
    (D6 (N2 (A0O gk hu (M0 call_len R7 rfl Z.n_len Q6 (F4 (A2 (pv 0)) H7)) (M0 call_len R7 rfl Z.n_len Q6 (F4 (A2 (pv 1)) H7))) (D2 (I8 A2d)) N6)
    (D2 (I8 (M0 (cr_all rfl) B0j rfl Z.n_all B0e (F4 (A0G (own:=[("_law_at",2)]) rfl sc.nd (A31 rfl Z.n_range (F4 (M0 call_len R7 rfl Z.n_len Q6 (F4 (A2 (pv 1)) H7)) H7)) (blkOk_by (by first | (show blkC A7T (defScope Y9) _ _=true;decide+kernel) | rfl)) (by decide) (fun _ _ _ _ _=> (K9 (i:=2) sc.nd rfl (by first | exact .inl rfl | exact .inr rfl))) (fun _ _ _ _ _=> w5) (fun _ _ _ _ _=> (A5 (I7 gk O__law_same A9q hr (by omega) rfl r9 (C3 (A5 (J9 gk (A2 (pv 0)) (A2 (pv 2)) (fun _ _=> rfl))) (C3 (A5 (J9 gk (A2 (pv 1)) (A2 (pv 2)) (fun _ _=> rfl))) D3)))))) H7))))))))))
theorem B9V {P:Program} {w:World} {K:PySem.W.Frag} {mg:Str→Option Value} {base:Heap} {f:Addr} {cdv:Value} {A:Around} {outer:List Env} {s:Shared} {H:Hp} {EX:XK} {G:Gx} {E:AExc→A1→AH→Prop} (Z:Blt K w mg) (O__law_take:Ok P w K mg base "_law_take" P3 1 2 Y8 (upc G7)) (hr:Room 1 (A.deeper (envOfC "_law_sizes" (defScope b8) s.heap.objs.size f cdv))) (gk:G.K=K) (tk:Takes (bx P w K mg base A7G "_law_sizes" (defScope b8) f cdv A outer s H EX) (cW G E)):
    ASs (bx P w K mg base A7G "_law_sizes" (defScope b8) f cdv A outer s H EX) G (defBody b8) (A7F E):=by
  subst gk
  have gk:G.K=G.K:=rfl
  have sc:=B24
  have hu:=hr.units
  exact (D2 (I8 (A04 call_tuple_of B6L rfl Z.n_tuple A7w (F4 (A0G (own:=[("_law_mcask",3)]) rfl sc.nd (A31 rfl Z.n_range (F4 (S9 gk ae_int (I7 gk O__law_take j4 hr (by decide) rfl tk (C3 (A5 (A2 (pv 0))) (C3 (A5 (A2 (pv 1))) D3)))) H7)) (blkOk_by (by first | (show blkC A7G (defScope b8) _ _=true;decide+kernel) | rfl)) (by decide) (fun _ _ _ _ _=> (K9 (i:=3) sc.nd rfl (by first | exact .inl rfl | exact .inr rfl))) (fun _ _ _ _ _=> w5) (fun _ _ _ _ _=> (A5 (S9 gk ae_int (I7 gk O__law_take j4 hr (by decide) rfl r9 (C3 (A5 (A2 (pv 0))) (C3 (A5 (A2 (pv 2))) D3))))))) H7))))
theorem B8P {P:Program} {w:World} {K:PySem.W.Frag} {mg:Str→Option Value} {base:Heap} {f:Addr} {cdv:Value} {A:Around} {outer:List Env} {s:Shared} {H:Hp} {EX:XK} {G:Gx} {E:AExc→A1→AH→Prop} (Z:Blt K w mg) (O__law_sizes:Ok P w K mg base "_law_sizes" b8 2 3 A5L (upc A27)) (O__law_pick:Ok P w K mg base "_law_pick" V4 2 2 A1Q (upc W5)) (hr:Room 2 (A.deeper (envOfC "_law_any_sizes" (defScope f9) s.heap.objs.size f cdv))) (gk:G.K=K) (tk:Takes (bx P w K mg base A9b "_law_any_sizes" (defScope f9) f cdv A outer s H EX) (cW G E)):
    ASs (bx P w K mg base A9b "_law_any_sizes" (defScope f9) f cdv A outer s H EX) G (defBody f9) (A60 E):=by
  subst gk
  have gk:G.K=G.K:=rfl
  have sc:=B2O
  have hu:=hr.units
  exact (D2 (I8 (I7 gk O__law_sizes B9Y hr (by decide) rfl tk (C3 (A5 (A2 (pv 0))) (C3 (A5 ae_int) (C3 (A5 (I7 gk O__law_pick A7O hr (by decide) rfl tk (C3 (A5 (A2 (pv 0))) (C3 (A5 (P5 (C9 (A5 ae_int) (C9 (A5 ae_int) (C9 (A5 ae_int) (C9 (A5 ae_int) K8)))))) D3)))) D3))))))
theorem B84 {P:Program} {w:World} {K:PySem.W.Frag} {mg:Str→Option Value} {base:Heap} {f:Addr} {cdv:Value} {A:Around} {outer:List Env} {s:Shared} {H:Hp} {EX:XK} {G:Gx} {E:AExc→A1→AH→Prop} (Z:Blt K w mg) (O__law_take:Ok P w K mg base "_law_take" P3 1 2 Y8 (upc G7)) (O__law_pick:Ok P w K mg base "_law_pick" V4 2 2 A1Q (upc W5)) (hr:Room 2 (A.deeper (envOfC "_law_number" (defScope i6) s.heap.objs.size f cdv))) (gk:G.K=K) (tk:Takes (bx P w K mg base A9g "_law_number" (defScope i6) f cdv A outer s H EX) (cW G E)):
    ASs (bx P w K mg base A9g "_law_number" (defScope i6) f cdv A outer s H EX) G (defBody i6) (A7D E):=by
  subst gk
  have gk:G.K=G.K:=rfl
  have sc:=B2r
  have hu:=hr.units
  exact (D6 (N9 (A5 (P5 (C9 (A5 ae_int) (C9 (A5 ae_int) (C9 (A5 ae_int) (C9 (A5 ae_int) (C9 (A5 (S9 gk ae_int (I7 gk O__law_take j4 hr (by decide) rfl tk (C3 (A5 (A2 (pv 0))) (C3 (A5 ae_int) D3))))) (C9 (A5 (I7 gk O__law_take j4 hr (by decide) rfl tk (C3 (A5 (A2 (pv 0))) (C3 (A5 ae_int) D3)))) (C9 (A5 (A8L (B1D ae_int ae_int) ae_int)) (C9 (A5 (I7 gk O__law_take j4 hr (by decide) rfl tk (C3 (A5 (A2 (pv 0))) (C3 (A5 (B1D ae_int ae_int)) D3)))) K8)))))))))) (K9 (i:=1) sc.nd rfl (by first | exact .inl rfl | exact .inr rfl)))
    (D2 (I8 (I7 gk O__law_pick A7O hr (by decide) rfl tk (C3 (A5 (A2 (pv 0))) (C3 (A5 (A2 (pv 1))) D3))))))
theorem B8V {P:Program} {w:World} {K:PySem.W.Frag} {mg:Str→Option Value} {base:Heap} {f:Addr} {cdv:Value} {A:Around} {outer:List Env} {s:Shared} {H:Hp} {EX:XK} {G:Gx} {E:AExc→A1→AH→Prop} (Z:Blt K w mg) (O__law_take:Ok P w K mg base "_law_take" P3 1 2 Y8 (upc G7)) (hr:Room 1 (A.deeper (envOfC "_law_shuffled" (defScope Z8) s.heap.objs.size f cdv))) (gk:G.K=K) (tk:Takes (bx P w K mg base A67 "_law_shuffled" (defScope Z8) f cdv A outer s H EX) (cW G E)):
    ASs (bx P w K mg base A67 "_law_shuffled" (defScope Z8) f cdv A outer s H EX) G (defBody Z8) (A68 E):=by
  subst gk
  have gk:G.K=G.K:=rfl
  have sc:=B2Y
  have hu:=hr.units
  exact (D6 (A4H (i:=2) sc.nd rfl (by first | exact .inl rfl | exact .inr rfl) (A04 call_list_of A3Y rfl Z.n_list A06 (F4 (A2 (pv 1)) H7)))
    (D2 (I8 (A0G (own:=[("_law_thing",3)]) rfl sc.nd (A1G gk (A5 (A2 (pv 1)))) (blkOk_by (by first | (show blkC A67 (defScope Z8) _ _=true;decide+kernel) | rfl)) (by decide) (fun _ _ _ _ _=> (K9 (i:=3) sc.nd rfl (by first | exact .inl rfl | exact .inr rfl))) (fun _ _ _ _ _=> w5) (fun _ _ _ _ _=> (A5 (A3n gk C1V PySem.F.plainAttrs_list PySem.F.slot_list_pop PySem.F.type_list_pop mt_popAt (A2 (pv 2)) (C9 (A5 (I7 gk O__law_take j4 hr (by decide) rfl r9 (C3 (A5 (A2 (pv 0))) (C3 (A5 (M0 call_len R7 rfl Z.n_len Q6 (F4 (A2 (pv 2)) H7))) D3)))) K8))))))))
theorem B73 {P:Program} {w:World} {K:PySem.W.Frag} {mg:Str→Option Value} {base:Heap} {f:Addr} {cdv:Value} {A:Around} {outer:List Env} {s:Shared} {H:Hp} {EX:XK} {G:Gx} {E:AExc→A1→AH→Prop} (Z:Blt K w mg) (O__law_shuffled:Ok P w K mg base "_law_shuffled" Z8 2 2 A43 (upc A2z)) (hr:Room 2 (A.deeper (envOfC "_law_some_casks" (defScope d7) s.heap.objs.size f cdv))) (gk:G.K=K) (tk:Takes (bx P w K mg base A9X "_law_some_casks" (defScope d7) f cdv A outer s H EX) (cW G E)):
    ASs (bx P w K mg base A9X "_law_some_casks" (defScope d7) f cdv A outer s H EX) G (defBody d7) (A6v E):=by
  subst gk
  have gk:G.K=G.K:=rfl
  have sc:=B2K
  have hu:=hr.units
  exact (D2 (I8 (A04 call_tuple_of B6L rfl Z.n_tuple A7w (F4 (A3M gk (I7 gk O__law_shuffled B8a hr (by decide) rfl tk (C3 (A5 (A2 (pv 0))) (C3 (A5 (C2Y rfl rfl Z.n_list rfl Z.n_range (A2 (pv 1)))) D3))) A3S (A3Q (A2 (pv 2)))) H7))))
theorem B9J {P:Program} {w:World} {K:PySem.W.Frag} {mg:Str→Option Value} {base:Heap} {f:Addr} {cdv:Value} {A:Around} {outer:List Env} {s:Shared} {H:Hp} {EX:XK} {G:Gx} {E:AExc→A1→AH→Prop} (Z:Blt K w mg) (hr:Room 0 (A.deeper (envOfC "_law_alike" (defScope Y6) s.heap.objs.size f cdv))) (gk:G.K=K) (tk:Takes (bx P w K mg base A5N "_law_alike" (defScope Y6) f cdv A outer s H EX) (cW G E)):
    ASs (bx P w K mg base A5N "_law_alike" (defScope Y6) f cdv A outer s H EX) G (defBody Y6) (A7K E):=by
  subst gk
  have gk:G.K=G.K:=rfl
  have sc:=B2v
  have hu:=hr.units
  exact (D6 (A4H (i:=1) sc.nd rfl (by first | exact .inl rfl | exact .inr rfl) (P5 K8))
    (D6 (A3f (passes_of rfl) rfl (A31 rfl Z.n_range (F4 (M0 call_len R7 rfl Z.n_len Q6 (F4 (A2 (pv 0)) H7)) H7)) (K9 (i:=2) sc.nd rfl (by first | exact .inl rfl | exact .inr rfl)) (D6 (C2E (i:=3) (own:=[("_law_at",4)]) rfl sc.nd rfl rfl rfl (A31 rfl Z.n_range (F4 (M0 call_len R7 rfl Z.n_len Q6 (F4 (A2 (pv 0)) H7)) H7)) (blkOk_by (by first | (show blkC A5N (defScope Y6) _ _=true;decide+kernel) | rfl)) (by decide) (fun _ _ _ _ _=> (K9 (i:=4) sc.nd rfl (by first | exact .inl rfl | exact .inr rfl))) (fun _ _ _ _ _=> (C26 (AW.ap (A8d (A0O gk hu (A2 (pv 4)) (A2 (pv 2))) (A72 (A2g gk hu (J9 gk (A2 (pv 0)) (A2 (pv 4)) (fun _ _=> rfl)) (J9 gk (A2 (pv 0)) (A2 (pv 2)) (fun _ _=> rfl)))))))) (fun _ _ _ _ _=> (A5 (A2 (pv 4)))))
    (D2 (A53 3 (Z1 (B6O (A2 (pv 1)) (A0G (own:=[("_law_at",4)]) rfl sc.nd (A1G gk (A5 (A2 (pv 3)))) (blkOk_by (by first | (show blkC A5N (defScope Y6) _ _=true;decide+kernel) | rfl)) (by decide) (fun _ _ _ _ _=> (K9 (i:=4) sc.nd rfl (by first | exact .inl rfl | exact .inr rfl))) (fun _ _ _ _ _=> w5) (fun _ _ _ _ _=> (A5 (n7 (C9 (A5 (A2 (pv 2))) (C9 (A5 (A2 (pv 4))) K8))))))))))))
    (D2 (I8 (A2 (pv 1))))))
theorem B99 {P:Program} {w:World} {K:PySem.W.Frag} {mg:Str→Option Value} {base:Heap} {f:Addr} {cdv:Value} {A:Around} {outer:List Env} {s:Shared} {H:Hp} {EX:XK} {G:Gx} {E:AExc→A1→AH→Prop} (Z:Blt K w mg) (O__law_take:Ok P w K mg base "_law_take" P3 1 2 Y8 (upc G7)) (O__law_alike:Ok P w K mg base "_law_alike" Y6 1 1 A5S (upc A24)) (O__law_pick:Ok P w K mg base "_law_pick" V4 2 2 A1Q (upc W5)) (O__law_some_casks:Ok P w K mg base "_law_some_casks" d7 3 3 A4r (upc A0X)) (hr:Room 3 (A.deeper (envOfC "_law_deed" (defScope j3) s.heap.objs.size f cdv))) (gk:G.K=K) (tk:Takes (bx P w K mg base A9s "_law_deed" (defScope j3) f cdv A outer s H EX) (cW G E)):
    ASs (bx P w K mg base A9s "_law_deed" (defScope j3) f cdv A outer s H EX) G (defBody j3) (A7N E):=by
  subst gk
  have gk:G.K=G.K:=rfl
  have sc:=B3R
  have hu:=hr.units
  exact (D6 (N9 (A5 (I7 gk O__law_take j4 hr (by decide) rfl tk (C3 (A5 (A2 (pv 0))) (C3 (A5 ae_int) D3)))) (K9 (i:=4) sc.nd rfl (by first | exact .inl rfl | exact .inr rfl)))
    (D6 (N9 (A5 (I7 gk O__law_alike B9D hr (by decide) rfl tk (C3 (A5 (A2 (pv 1))) D3))) (K9 (i:=5) sc.nd rfl (by first | exact .inl rfl | exact .inr rfl)))
    (D6 (N2 (AW.ap (A8d (A2g gk hu (A2 (pv 4)) ae_int) (A72 (A0O gk hu (A2 (pv 5)) (P5 K8))))) (D2 (I8 (S9 gk (n7 (C9 (A5 Q7) K8)) (I7 gk O__law_pick A7O hr (by decide) rfl tk (C3 (A5 (A2 (pv 0))) (C3 (A5 (A2 (pv 5))) D3)))))) N6)
    (D6 (N2 (AW.ap (A8d (B1G (A2 (pv 4)) ae_int) (A72 (d0 (A2 (pv 3)))))) (D2 (I8 (n7 (C9 (A5 Q7) (C9 (A5 (I7 gk O__law_pick A7O hr (by decide) rfl tk (C3 (A5 (A2 (pv 0))) (C3 (A5 (P5 (C9 (A5 ae_int) (C9 (A5 ae_int) (C9 (A5 ae_int) (C9 (A5 ae_int) (C9 (A5 (A2 (pv 2))) K8))))))) D3)))) (C9 (A5 (I7 gk O__law_take j4 hr (by decide) rfl tk (C3 (A5 (A2 (pv 0))) (C3 (A5 (M0 call_len R7 rfl Z.n_len Q6 (F4 (A2 (pv 1)) H7))) D3)))) K8)))))) N6)
    (D6 (N2 (AW.ap (A1k (A2g gk hu (A2 (pv 4)) ae_int) (A1g (A2g gk hu (M0 call_len R7 rfl Z.n_len Q6 (F4 (A2 (pv 1)) H7)) ae_int)))) (D2 (I8 (n7 (C9 (A5 Q7) (C9 (A5 (A2 (pv 2))) (C9 (A5 (I7 gk O__law_take j4 hr (by decide) rfl tk (C3 (A5 (A2 (pv 0))) (C3 (A5 (M0 call_len R7 rfl Z.n_len Q6 (F4 (A2 (pv 1)) H7))) D3)))) K8)))))) N6)
    (D6 (N9 (A5 (S9 gk ae_int (I7 gk O__law_take j4 hr (by decide) rfl tk (C3 (A5 (A2 (pv 0))) (C3 (A5 (A8L (M0 call_len R7 rfl Z.n_len Q6 (F4 (A2 (pv 1)) H7)) ae_int)) D3))))) (K9 (i:=6) sc.nd rfl (by first | exact .inl rfl | exact .inr rfl)))
    (D6 (N9 (A5 (J9 gk (P5 (C9 (A5 Q7) (C9 (A5 Q7) K8))) (B0b (I7 gk O__law_take j4 hr (by decide) rfl tk (C3 (A5 (A2 (pv 0))) (C3 (A5 ae_int) D3))) ae_int) (fun _ _=> rfl))) (K9 (i:=7) sc.nd rfl (by first | exact .inl rfl | exact .inr rfl)))
    (D2 (I8 (S9 gk (n7 (C9 (A5 (A2 (pv 7))) (C9 (A5 (A2 (pv 2))) K8))) (I7 gk O__law_some_casks B74 hr (by decide) rfl tk (C3 (A5 (A2 (pv 0))) (C3 (A5 (M0 call_len R7 rfl Z.n_len Q6 (F4 (A2 (pv 1)) H7))) (C3 (A5 (A2 (pv 6))) D3))))))))))))))
theorem C0m {P:Program} {w:World} {K:PySem.W.Frag} {mg:Str→Option Value} {base:Heap} {f:Addr} {cdv:Value} {A:Around} {outer:List Env} {s:Shared} {H:Hp} {EX:XK} {G:Gx} {E:AExc→A1→AH→Prop} (Z:Blt K w mg) (O__law_take:Ok P w K mg base "_law_take" P3 1 2 Y8 (upc G7)) (O__law_deed:Ok P w K mg base "_law_deed" j3 4 4 A5a (upc A3A)) (O__law_number:Ok P w K mg base "_law_number" i6 3 1 A5I (upc A22)) (hr:Room 4 (A.deeper (envOfC "_law_row" (defScope b9) s.heap.objs.size f cdv))) (gk:G.K=K) (tk:Takes (bx P w K mg base A7Y "_law_row" (defScope b9) f cdv A outer s H EX) (cW G E)):
    ASs (bx P w K mg base A7Y "_law_row" (defScope b9) f cdv A outer s H EX) G (defBody b9) (A7b E):=by
  subst gk
  have gk:G.K=G.K:=rfl
  have sc:=B3Z
  have hu:=hr.units
  exact (D2 (I8 (A0G (own:=[("_law_k",4)]) rfl sc.nd (A31 rfl Z.n_range (F4 (I7 gk O__law_take j4 hr (by decide) rfl tk (C3 (A5 (A2 (pv 0))) (C3 (A5 (S9 gk (A2 (pv 2)) ae_int)) D3))) H7)) (blkOk_by (by first | (show blkC A7Y (defScope b9) _ _=true;decide+kernel) | rfl)) (by decide) (fun _ _ _ _ _=> (K9 (i:=4) sc.nd rfl (by first | exact .inl rfl | exact .inr rfl))) (fun _ _ _ _ _=> w5) (fun _ _ _ _ _=> (A5 (I7 gk O__law_deed B94 hr (by decide) rfl r9 (C3 (A5 (A2 (pv 0))) (C3 (A5 (A2 (pv 1))) (C3 (A5 (I7 gk O__law_number B8v hr (by decide) rfl r9 (C3 (A5 (A2 (pv 0))) D3))) (C3 (A5 (A2 (pv 3))) D3))))))))))
theorem B87 {P:Program} {w:World} {K:PySem.W.Frag} {mg:Str→Option Value} {base:Heap} {f:Addr} {cdv:Value} {A:Around} {outer:List Env} {s:Shared} {H:Hp} {EX:XK} {G:Gx} {E:AExc→A1→AH→Prop} (Z:Blt K w mg) (R_NoRound:XkOk P w K mg base "NoRound" "no round" ["name"]) (hr:Room 2 (A.deeper (envOfC (("Book":Str)++"."++"there") (defScope T5) s.heap.objs.size f cdv))) (gk:G.K=K) (tk:Takes (bx P w K mg base A9h (("Book":Str)++"."++"there") (defScope T5) f cdv A outer s H EX) (cW G E)):
    ASs (bx P w K mg base A9h (("Book":Str)++"."++"there") (defScope T5) f cdv A outer s H EX) G (defBody T5) (A6z E):=by
  subst gk
  have gk:G.K=G.K:=rfl
  have sc:=B2u
  have hu:=hr.units
  exact (D6 (N2 (C2h hu (A5 (A2 (pv 1))) (W9 gk Z.fo_Book_written (A2 (pv 0)))) (D2 (A2N R_NoRound gk rfl tk hr (by decide) rfl (C3 (A5 (A2 (pv 1))) D3))) N6)
    (D2 (I8 (A8A hu (W9 gk Z.fo_Book_written (A2 (pv 0))) (A5 (A2 (pv 1))) (fun _ _=> rfl)))))
theorem B82 {P:Program} {w:World} {K:PySem.W.Frag} {mg:Str→Option Value} {base:Heap} {f:Addr} {cdv:Value} {A:Around} {outer:List Env} {s:Shared} {H:Hp} {EX:XK} {G:Gx} {E:AExc→A1→AH→Prop} (Z:Blt K w mg) (O_Book__there:OkM P w K mg base "Book" "there" T5 3 2 A0B [] (upc Q3)) (hr:Room 3 (A.deeper (envOfC (("Book":Str)++"."++"steps") (defScope X8) s.heap.objs.size f cdv))) (gk:G.K=K) (tk:Takes (bx P w K mg base A9j (("Book":Str)++"."++"steps") (defScope X8) f cdv A outer s H EX) (cW G E)):
    ASs (bx P w K mg base A9j (("Book":Str)++"."++"steps") (defScope X8) f cdv A outer s H EX) G (defBody X8) (A63 E):=by
  subst gk
  have gk:G.K=G.K:=rfl
  have sc:=B2o
  have hu:=hr.units
  exact (D2 (I8 (A04 call_list_of A3Y rfl Z.n_list A06 (F4 (W6 gk O_Book__there A7C hr (by decide) tk (A2 (pv 0)) (C3 (A5 (A2 (pv 1))) D3)) H7))))
theorem B9E {P:Program} {w:World} {K:PySem.W.Frag} {mg:Str→Option Value} {base:Heap} {f:Addr} {cdv:Value} {A:Around} {outer:List Env} {s:Shared} {H:Hp} {EX:XK} {G:Gx} {E:AExc→A1→AH→Prop} (Z:Blt K w mg) (O_Book__there:OkM P w K mg base "Book" "there" T5 3 2 A0B [] (upc Q3)) (hr:Room 3 (A.deeper (envOfC (("Book":Str)++"."++"flat") (defScope Y0) s.heap.objs.size f cdv))) (gk:G.K=K) (tk:Takes (bx P w K mg base A9o (("Book":Str)++"."++"flat") (defScope Y0) f cdv A outer s H EX) (cW G E)):
    ASs (bx P w K mg base A9o (("Book":Str)++"."++"flat") (defScope Y0) f cdv A outer s H EX) G (defBody Y0) (A7L E):=by
  subst gk
  have gk:G.K=G.K:=rfl
  have sc:=B28
  have hu:=hr.units
  exact (D6 (Z1 (W6 gk O_Book__there A7C hr (by decide) tk (A2 (pv 0)) (C3 (A5 (A2 (pv 1))) D3)))
    (D2 (I8 (A04 call_list_of A3Y rfl Z.n_list A06 (F4 (A8A hu (W9 gk Z.fo_Book_laid (A2 (pv 0))) (A5 (A2 (pv 1))) (fun _ _=> rfl)) H7)))))
theorem B8d {P:Program} {w:World} {K:PySem.W.Frag} {mg:Str→Option Value} {base:Heap} {f:Addr} {cdv:Value} {A:Around} {outer:List Env} {s:Shared} {H:Hp} {EX:XK} {G:Gx} {E:AExc→A1→AH→Prop} (Z:Blt K w mg) (O_Book__there:OkM P w K mg base "Book" "there" T5 3 2 A0B [] (upc Q3)) (O_is_call:Ok P w K mg base "is_call" T6 1 1 A0D (upc O0)) (hr:Room 3 (A.deeper (envOfC (("Book":Str)++"."++"callers") (defScope U3) s.heap.objs.size f cdv))) (gk:G.K=K) (tk:Takes (bx P w K mg base A69 (("Book":Str)++"."++"callers") (defScope U3) f cdv A outer s H EX) (cW G E)):
    ASs (bx P w K mg base A69 (("Book":Str)++"."++"callers") (defScope U3) f cdv A outer s H EX) G (defBody U3) (A66 E):=by
  subst gk
  have gk:G.K=G.K:=rfl
  have sc:=B2X
  have hu:=hr.units
  exact (D6 (Z1 (W6 gk O_Book__there A7C hr (by decide) tk (A2 (pv 0)) (C3 (A5 (A2 (pv 1))) D3)))
    (D6 (A4H (i:=2) sc.nd rfl (by first | exact .inl rfl | exact .inr rfl) (P5 K8))
    (D6 (C1X gk (passes_of rfl) rfl sc.nd Z.fo_Book_written (pv 0) (pg_name (i:=3) sc.nd rfl (by first | exact .inl rfl | exact .inr rfl)) (pg_name (i:=4) sc.nd rfl (by first | exact .inl rfl | exact .inr rfl)) (fun G' gk'=> by have gk:=gk';exact (D2 (N2 (d0 (M0 (cr_any rfl) (Eq.mpr (congrArg (fun K=> CallA K _ _) gk) B6Q) rfl Z.n_any B5k (F4 (A0G (own:=[("step",5)]) rfl sc.nd (A1G gk (A5 (A2 (pv 4)))) (blkOk_by (by first | (show blkC A69 (defScope U3) _ _=true;decide+kernel) | rfl)) (by decide) (fun _ _ _ _ _=> (K9 (i:=5) sc.nd rfl (by first | exact .inl rfl | exact .inr rfl))) (fun _ _ _ _ _=> w5) (fun _ _ _ _ _=> (A5 (A0F (I7 gk O_is_call A5m hr (by decide) rfl r9 (C3 (A5 (A2 (pv 5))) D3)) (A1Z (A1q gk hu (J9 gk (A2 (pv 5)) ae_int (fun _ _=> rfl)) (A2 (pv 1)))))))) H7))) (D2 (Z1 (A3n gk A30 PySem.F.plainAttrs_list PySem.F.slot_list_append PySem.F.type_list_append mt_append (A2 (pv 2)) (C9 (A5 (A2 (pv 3))) K8)))) N6))))
    (D2 (I8 (A2 (pv 2)))))))
theorem B8w {P:Program} {w:World} {K:PySem.W.Frag} {mg:Str→Option Value} {base:Heap} {f:Addr} {cdv:Value} {A:Around} {outer:List Env} {s:Shared} {H:Hp} {EX:XK} {G:Gx} {E:AExc→A1→AH→Prop} (Z:Blt K w mg) (hr:Room 0 (A.deeper (envOfC (("Book":Str)++"."++"names") (defScope T4) s.heap.objs.size f cdv))) (gk:G.K=K) (tk:Takes (bx P w K mg base A9l (("Book":Str)++"."++"names") (defScope T4) f cdv A outer s H EX) (cW G E)):
    ASs (bx P w K mg base A9l (("Book":Str)++"."++"names") (defScope T4) f cdv A outer s H EX) G (defBody T4) (A7E E):=by
  subst gk
  have gk:G.K=G.K:=rfl
  have sc:=B2p
  have hu:=hr.units
  exact (D2 (I8 (A04 (call_list_dK rfl) C2L rfl Z.n_list A06 (F4 (W9 gk Z.fo_Book_written (A2 (pv 0))) H7))))
theorem B9j {P:Program} {w:World} {K:PySem.W.Frag} {mg:Str→Option Value} {base:Heap} {f:Addr} {cdv:Value} {A:Around} {outer:List Env} {s:Shared} {H:Hp} {EX:XK} {G:Gx} {E:AExc→A1→AH→Prop} (Z:Blt K w mg) (O_Book__names:OkM P w K mg base "Book" "names" T4 1 1 A0A [] (upc R5)) (O_Book__callers:OkM P w K mg base "Book" "callers" U3 4 2 A1P [] (upc W4)) (O_Book__flat:OkM P w K mg base "Book" "flat" Y0 4 2 A25 [] (upc o9)) (O_Book__steps:OkM P w K mg base "Book" "steps" X8 4 2 A21 [] (upc o7)) (hr:Room 4 (A.deeper (envOfC "_law_told" (defScope Z0) s.heap.objs.size f cdv))) (gk:G.K=K) (tk:Takes (bx P w K mg base A5b "_law_told" (defScope Z0) f cdv A outer s H EX) (cW G E)):
    ASs (bx P w K mg base A5b "_law_told" (defScope Z0) f cdv A outer s H EX) G (defBody Z0) (A64 E):=by
  subst gk
  have gk:G.K=G.K:=rfl
  have sc:=B3F
  have hu:=hr.units
  exact (D2 (I8 (A0G (own:=[("_law_mname",1)]) rfl sc.nd (A1G gk (A5 (A1T gk O_Book__names A3y hr (by decide) tk (A2 (pv 0))))) (blkOk_by (by first | (show blkC A5b (defScope Z0) _ _=true;decide+kernel) | rfl)) (by decide) (fun _ _ _ _ _=> (K9 (i:=1) sc.nd rfl (by first | exact .inl rfl | exact .inr rfl))) (fun _ _ _ _ _=> w5) (fun _ _ _ _ _=> (A5 (P5 (C9 (A5 (A2 (pv 1))) (C9 (A5 (W6 gk O_Book__steps B2g hr (by decide) r9 (A2 (pv 0)) (C3 (A5 (A2 (pv 1))) D3))) (C9 (A5 (W6 gk O_Book__flat B2q hr (by decide) r9 (A2 (pv 0)) (C3 (A5 (A2 (pv 1))) D3))) (C9 (A5 (W6 gk O_Book__callers A9a hr (by decide) r9 (A2 (pv 0)) (C3 (A5 (A2 (pv 1))) D3))) K8))))))))))
theorem B8t {P:Program} {w:World} {K:PySem.W.Frag} {mg:Str→Option Value} {base:Heap} {f:Addr} {cdv:Value} {A:Around} {outer:List Env} {s:Shared} {H:Hp} {EX:XK} {G:Gx} {E:AExc→A1→AH→Prop} (Z:Blt K w mg) (O_Book__names:OkM P w K mg base "Book" "names" T4 1 1 A0A [] (upc R5)) (O_Book__callers:OkM P w K mg base "Book" "callers" U3 4 2 A1P [] (upc W4)) (O_Book__flat:OkM P w K mg base "Book" "flat" Y0 4 2 A25 [] (upc o9)) (O_Book__steps:OkM P w K mg base "Book" "steps" X8 4 2 A21 [] (upc o7)) (hr:Room 4 (A.deeper (envOfC "_law_told" (defScope i4) s.heap.objs.size f cdv))) (gk:G.K=K) (tk:Takes (bx P w K mg base A9e "_law_told" (defScope i4) f cdv A outer s H EX) (cW G E)):
    ASs (bx P w K mg base A9e "_law_told" (defScope i4) f cdv A outer s H EX) G (defBody i4) (A6x E):=by
  subst gk
  have gk:G.K=G.K:=rfl
  have sc:=B2a
  have hu:=hr.units
  exact (D2 (I8 (A0G (own:=[("_law_mname",1)]) rfl sc.nd (A1G gk (A5 (A1T gk O_Book__names A3y hr (by decide) tk (A2 (pv 0))))) (blkOk_by (by first | (show blkC A5b (defScope Z0) _ _=true;decide+kernel) | rfl)) (by decide) (fun _ _ _ _ _=> (K9 (i:=1) sc.nd rfl (by first | exact .inl rfl | exact .inr rfl))) (fun _ _ _ _ _=> w5) (fun _ _ _ _ _=> (A5 (P5 (C9 (A5 (A2 (pv 1))) (C9 (A1C (W6 gk O_Book__steps B2g hr (by decide) r9 (A2 (pv 0)) (C3 (A5 (A2 (pv 1))) D3))) (C9 (A1C (W6 gk O_Book__flat B2q hr (by decide) r9 (A2 (pv 0)) (C3 (A5 (A2 (pv 1))) D3))) (C9 (A1C (W6 gk O_Book__callers A9a hr (by decide) r9 (A2 (pv 0)) (C3 (A5 (A2 (pv 1))) D3))) K8))))))))))
theorem B8J {P:Program} {w:World} {K:PySem.W.Frag} {mg:Str→Option Value} {base:Heap} {f:Addr} {cdv:Value} {A:Around} {outer:List Env} {s:Shared} {H:Hp} {EX:XK} {G:Gx} {E:AExc→A1→AH→Prop} (Z:Blt K w mg) (O_look_sizes:Ok P w K mg base "look_sizes" i9 3 1 A5R (upc A20)) (hr:Room 3 (A.deeper (envOfC (("Book":Str)++"."++"__init__") (defScope U2) s.heap.objs.size f cdv))) (gk:G.K=K) (tk:Takes (bx P w K mg base A9Y (("Book":Str)++"."++"__init__") (defScope U2) f cdv A outer s H EX) (cW G E)):
    ASs (bx P w K mg base A9Y (("Book":Str)++"."++"__init__") (defScope U2) f cdv A outer s H EX) G (defBody U2) (A62 E):=by
  subst gk
  have gk:G.K=G.K:=rfl
  have sc:=B2P
  have hu:=hr.units
  exact (D6 (Z1 (I7 gk O_look_sizes B9h hr (by decide) rfl tk (C3 (A5 (A2 (pv 1))) D3)))
    (D6 (N9 (A5 (A2 (pv 1))) (A59 gk Z.fo_Book_casks (A2 (pv 0))))
    (D6 (N9 (A1C B4G) (A59 gk Z.fo_Book_written (A2 (pv 0))))
    (D2 (N9 (A1C B4G) (A59 gk Z.fo_Book_laid (A2 (pv 0))))))))
theorem B8M {P:Program} {w:World} {K:PySem.W.Frag} {mg:Str→Option Value} {base:Heap} {f:Addr} {cdv:Value} {A:Around} {outer:List Env} {s:Shared} {H:Hp} {EX:XK} {G:Gx} {E:AExc→A1→AH→Prop} (Z:Blt K w mg) (O_is_name:Ok P w K mg base "is_name" c5 1 1 A5l (upc A3G)) (R_BadName:XkOk P w K mg base "BadName" "bad name" []) (R_Taken:XkOk P w K mg base "Taken" "taken" ["name"]) (R_TooMany:XkOk P w K mg base "TooMany" "too many" ["most"]) (hr:Room 2 (A.deeper (envOfC (("Book":Str)++"."++"look_new") (defScope e9) s.heap.objs.size f cdv))) (gk:G.K=K) (tk:Takes (bx P w K mg base A9Z (("Book":Str)++"."++"look_new") (defScope e9) f cdv A outer s H EX) (cW G E)):
    ASs (bx P w K mg base A9Z (("Book":Str)++"."++"look_new") (defScope e9) f cdv A outer s H EX) G (defBody e9) (A6t E):=by
  subst gk
  have gk:G.K=G.K:=rfl
  have sc:=B2S
  have hu:=hr.units
  exact (D6 (N2 (A09 (d0 (I7 gk O_is_name C03 hr (by decide) rfl tk (C3 (A5 (A2 (pv 1))) D3)))) (D2 (C1M R_BadName gk rfl tk hr (by decide) rfl)) N6)
    (D6 (N2 (C4U hu (A5 (A2 (pv 1))) (W9 gk Z.fo_Book_written (A2 (pv 0)))) (D2 (A2N R_Taken gk rfl tk hr (by decide) rfl (C3 (A5 (A2 (pv 1))) D3))) N6)
    (D2 (N2 (B1R (M0 call_lenD C29 rfl Z.n_len Q6 (F4 (W9 gk Z.fo_Book_written (A2 (pv 0))) H7)) (A1c rfl Z.c_MOST_ROUNDS)) (D2 (A2N R_TooMany gk rfl tk hr (by decide) rfl (C3 (A5 (A1c rfl Z.c_MOST_ROUNDS)) D3))) N6))))
theorem B8T {P:Program} {w:World} {K:PySem.W.Frag} {mg:Str→Option Value} {base:Heap} {f:Addr} {cdv:Value} {A:Around} {outer:List Env} {s:Shared} {H:Hp} {EX:XK} {G:Gx} {E:AExc→A1→AH→Prop} (Z:Blt K w mg) (O_is_call:Ok P w K mg base "is_call" T6 1 1 A0D (upc O0)) (hr:Room 1 (A.deeper (envOfC (("Book":Str)++"."++"laid_out") (defScope f7) s.heap.objs.size f cdv))) (gk:G.K=K) (tk:Takes (bx P w K mg base A9c (("Book":Str)++"."++"laid_out") (defScope f7) f cdv A outer s H EX) (cW G E)):
    ASs (bx P w K mg base A9c (("Book":Str)++"."++"laid_out") (defScope f7) f cdv A outer s H EX) G (defBody f7) (A61 E):=by
  subst gk
  have gk:G.K=G.K:=rfl
  have sc:=B2U
  have hu:=hr.units
  exact (D6 (A4H (i:=2) sc.nd rfl (by first | exact .inl rfl | exact .inr rfl) (P5 K8))
    (D6 (B5f (passes_of rfl) rfl (B5H gk (A2 (pv 1))) (K9 (i:=3) sc.nd rfl (by first | exact .inl rfl | exact .inr rfl)) (D2 (N2 (d0 (I7 gk O_is_call A5m hr (by decide) rfl tk (C3 (A5 (A2 (pv 3))) D3))) (D2 (Z1 (B6O (A2 (pv 2)) (C3Y (A8A hu (W9 gk Z.fo_Book_laid (A2 (pv 0))) (A5 (J9 gk (A2 (pv 3)) ae_int (fun _ _=> rfl))) (fun _ _=> rfl)) (J9 gk (A2 (pv 3)) ae_int (fun _ _=> rfl)))))) (D2 (Z1 (A3n gk A30 PySem.F.plainAttrs_list PySem.F.slot_list_append PySem.F.type_list_append mt_append (A2 (pv 2)) (C9 (A5 (A2 (pv 3))) K8)))))))
    (D2 (I8 (A2 (pv 2))))))
theorem B71 {P:Program} {w:World} {K:PySem.W.Frag} {mg:Str→Option Value} {base:Heap} {f:Addr} {cdv:Value} {A:Around} {outer:List Env} {s:Shared} {H:Hp} {EX:XK} {G:Gx} {E:AExc→A1→AH→Prop} (Z:Blt K w mg) (O_is_call:Ok P w K mg base "is_call" T6 1 1 A0D (upc O0)) (O_call_fault:Ok P w K mg base "call_fault" i8 1 1 A5X (upc A2F)) (O_fault_of:Ok P w K mg base "fault_of" k8 2 2 A5g (upc A2I)) (O_Book__there:OkM P w K mg base "Book" "there" T5 3 2 A0B [] (upc Q3)) (R_BadRow:XkOk P w K mg base "BadRow" "bad row" ["step","place"]) (hr:Room 3 (A.deeper (envOfC (("Book":Str)++"."++"look_step") (defScope d9) s.heap.objs.size f cdv))) (gk:G.K=K) (tk:Takes (bx P w K mg base A9W (("Book":Str)++"."++"look_step") (defScope d9) f cdv A outer s H EX) (cW G E)):
    ASs (bx P w K mg base A9W (("Book":Str)++"."++"look_step") (defScope d9) f cdv A outer s H EX) G (defBody d9) (A6s E):=by
  subst gk
  have gk:G.K=G.K:=rfl
  have sc:=B2M
  have hu:=hr.units
  exact (D6 (N9 (A5 (A6J (d0 (I7 gk O_is_call A5m hr (by decide) rfl tk (C3 (A5 (A2 (pv 2))) D3))) (I7 gk O_call_fault B9O hr (by decide) rfl tk (C3 (A5 (A2 (pv 2))) D3)) (I7 gk O_fault_of C0d hr (by decide) rfl tk (C3 (A5 (W9 gk Z.fo_Book_casks (A2 (pv 0)))) (C3 (A5 (A2 (pv 2))) D3))))) (K9 (i:=3) sc.nd rfl (by first | exact .inl rfl | exact .inr rfl)))
    (D6 (N2 (B4l (A2 (pv 3)) A3Z) (D2 (A2N R_BadRow gk rfl tk hr (by decide) rfl (C3 (A5 (A2 (pv 1))) (C3 (A5 (A2 (pv 3))) D3)))) N6)
    (D2 (N2 (d0 (I7 gk O_is_call A5m hr (by decide) rfl tk (C3 (A5 (A2 (pv 2))) D3))) (D2 (Z1 (W6 gk O_Book__there A7C hr (by decide) tk (A2 (pv 0)) (C3 (A5 (J9 gk (A2 (pv 2)) ae_int (fun _ _=> rfl))) D3)))) N6))))
theorem B8i {P:Program} {w:World} {K:PySem.W.Frag} {mg:Str→Option Value} {base:Heap} {f:Addr} {cdv:Value} {A:Around} {outer:List Env} {s:Shared} {H:Hp} {EX:XK} {G:Gx} {E:AExc→A1→AH→Prop} (Z:Blt K w mg) (O_is_call:Ok P w K mg base "is_call" T6 1 1 A0D (upc O0)) (hr:Room 1 (A.deeper (envOfC (("Book":Str)++"."++"length") (defScope Z9) s.heap.objs.size f cdv))) (gk:G.K=K) (tk:Takes (bx P w K mg base A7A (("Book":Str)++"."++"length") (defScope Z9) f cdv A outer s H EX) (cW G E)):
    ASs (bx P w K mg base A7A (("Book":Str)++"."++"length") (defScope Z9) f cdv A outer s H EX) G (defBody Z9) (A7B E):=by
  subst gk
  have gk:G.K=G.K:=rfl
  have sc:=B2d
  have hu:=hr.units
  exact (D2 (I8 (M0 (C2f rfl) C3C rfl Z.n_sum C4i (F4 (C3M (own:=[("step",2)]) rfl sc.nd (B5H gk (A2 (pv 1))) (blkOk_by (by first | (show blkC A7A (defScope Z9) _ _=true;decide+kernel) | rfl)) (by decide) (fun _ _ _ _ _=> (K9 (i:=2) sc.nd rfl (by first | exact .inl rfl | exact .inr rfl))) (fun _ _ _ _ _=> w5) (fun _ _ _ _ _=> (A5 (A6J (d0 (I7 gk O_is_call A5m hr (by decide) rfl r9 (C3 (A5 (A2 (pv 2))) D3))) (A2O gk (J9 gk (A2 (pv 2)) ae_int (fun _ _=> rfl)) (M0 call_len R7 rfl Z.n_len Q6 (F4 (A8A hu (W9 gk Z.fo_Book_laid (A2 (pv 0))) (A5 (J9 gk (A2 (pv 2)) ae_int (fun _ _=> rfl))) (fun _ _=> rfl)) H7))) ae_int)))) H7))))
theorem B85 {P:Program} {w:World} {K:PySem.W.Frag} {mg:Str→Option Value} {base:Heap} {f:Addr} {cdv:Value} {A:Around} {outer:List Env} {s:Shared} {H:Hp} {EX:XK} {G:Gx} {E:AExc→A1→AH→Prop} (Z:Blt K w mg) (O_Book__look_new:OkM P w K mg base "Book" "look_new" e9 3 2 A4w [] (upc A2B)) (O_Book__look_step:OkM P w K mg base "Book" "look_step" d9 4 3 A4t [] (upc A2A)) (O_Book__length:OkM P w K mg base "Book" "length" Z9 2 2 A44 [] (upc A2E)) (O_Book__laid_out:OkM P w K mg base "Book" "laid_out" f7 2 2 A4y [] (upc A2C)) (R_TooLong:XkOk P w K mg base "TooLong" "too long" ["most"]) (hr:Room 4 (A.deeper (envOfC (("Book":Str)++"."++"write") (defScope X9) s.heap.objs.size f cdv))) (gk:G.K=K) (tk:Takes (bx P w K mg base A9k (("Book":Str)++"."++"write") (defScope X9) f cdv A outer s H EX) (cW G E)):
    ASs (bx P w K mg base A9k (("Book":Str)++"."++"write") (defScope X9) f cdv A outer s H EX) G (defBody X9) (A6y E):=by
  subst gk
  have gk:G.K=G.K:=rfl
  have sc:=B2n
  have hu:=hr.units
  exact (D6 (Z1 (W6 gk O_Book__look_new B7v hr (by decide) tk (A2 (pv 0)) (C3 (A5 (A2 (pv 1))) D3)))
    (D6 (B5f (passes_of rfl) rfl (C3m gk rfl Z.n_enumerate (A2 (pv 2))) (A8b gk rfl (A2M (K9 (i:=3) sc.nd rfl (by first | exact .inl rfl | exact .inr rfl)) (A2M (K9 (i:=4) sc.nd rfl (by first | exact .inl rfl | exact .inr rfl)) A8D))) (D2 (Z1 (W6 gk O_Book__look_step B7t hr (by decide) tk (A2 (pv 0)) (C3 (A5 (A2 (pv 3))) (C3 (A5 (A2 (pv 4))) D3))))))
    (D6 (N2 (C5h (W6 gk O_Book__length B8X hr (by decide) tk (A2 (pv 0)) (C3 (A5 (A2 (pv 2))) D3)) (A1c rfl Z.c_MOST_FLAT)) (D2 (A2N R_TooLong gk rfl tk hr (by decide) rfl (C3 (A5 (A1c rfl Z.c_MOST_FLAT)) D3))) N6)
    (D6 (B5Z hu (A5 (A04 call_list_of A3Y rfl Z.n_list A06 (F4 (A2 (pv 2)) H7))) (W9 gk Z.fo_Book_written (A2 (pv 0))) (A5 (A2 (pv 1))))
    (D2 (B5Z hu (A5 (W6 gk O_Book__laid_out B77 hr (by decide) tk (A2 (pv 0)) (C3 (A5 (A2 (pv 2))) D3))) (W9 gk Z.fo_Book_laid (A2 (pv 0))) (A5 (A2 (pv 1)))))))))
theorem B8s {P:Program} {w:World} {K:PySem.W.Frag} {mg:Str→Option Value} {base:Heap} {f:Addr} {cdv:Value} {A:Around} {outer:List Env} {s:Shared} {H:Hp} {EX:XK} {G:Gx} {E:AExc→A1→AH→Prop} (Z:Blt K w mg) (O_Book____init__:OkM P w K mg base "Book" "__init__" U2 4 2 A0Y [] (upc P4)) (O_Book__write:OkM P w K mg base "Book" "write" X9 5 3 A23 [] (upc g8)) (hr:Room 5 (A.deeper (envOfC "_law_written" (defScope i5) s.heap.objs.size f cdv))) (gk:G.K=K) (tk:Takes (bx P w K mg base A9d "_law_written" (defScope i5) f cdv A outer s H EX) (cW G E)):
    ASs (bx P w K mg base A9d "_law_written" (defScope i5) f cdv A outer s H EX) G (defBody i5) (A6u E):=by
  subst gk
  have gk:G.K=G.K:=rfl
  have sc:=B2j
  have hu:=hr.units
  exact (D6 (N9 (A5 (A3O gk Z.mk_Book O_Book____init__ A2w hr (by decide) rfl tk (C3 (A5 (A2 (pv 0))) D3))) (K9 (i:=2) sc.nd rfl (by first | exact .inl rfl | exact .inr rfl)))
    (D6 (A3f (passes_of rfl) rfl (A1G gk (A5 (A2 (pv 1)))) (A8b gk rfl (A2M (K9 (i:=3) sc.nd rfl (by first | exact .inl rfl | exact .inr rfl)) (A2M (K9 (i:=4) sc.nd rfl (by first | exact .inl rfl | exact .inr rfl)) A8D))) (D2 (Z1 (W6 gk O_Book__write B2b hr (by decide) tk (A2 (pv 2)) (C3 (A5 (A2 (pv 3))) (C3 (A5 (A2 (pv 4))) D3))))))
    (D2 (I8 (A2 (pv 2))))))
theorem B9c {P:Program} {w:World} {K:PySem.W.Frag} {mg:Str→Option Value} {base:Heap} {f:Addr} {cdv:Value} {A:Around} {outer:List Env} {s:Shared} {H:Hp} {EX:XK} {G:Gx} {E:AExc→A1→AH→Prop} (Z:Blt K w mg) (O_Book____init__:OkM P w K mg base "Book" "__init__" U2 4 2 A0Y [] (upc P4)) (hr:Room 5 (A.deeper (envOfC (("Book":Str)++"."++"twin") (defScope Y7) s.heap.objs.size f cdv))) (gk:G.K=K) (tk:Takes (bx P w K mg base A5P (("Book":Str)++"."++"twin") (defScope Y7) f cdv A outer s H EX) (cW G E)):
    ASs (bx P w K mg base A5P (("Book":Str)++"."++"twin") (defScope Y7) f cdv A outer s H EX) G (defBody Y7) (A7H E):=by
  subst gk
  have gk:G.K=G.K:=rfl
  have sc:=B21
  have hu:=hr.units
  exact (D6 (N9 (A5 (A3O gk Z.mk_Book O_Book____init__ A2w hr (by decide) rfl tk (C3 (A5 (W9 gk Z.fo_Book_casks (A2 (pv 0)))) D3))) (K9 (i:=1) sc.nd rfl (by first | exact .inl rfl | exact .inr rfl)))
    (D6 (N9 (A1C (B5T (own:=[("name",2),("steps",3)]) gk rfl sc.nd Z.fo_Book_written (pv 0) (blkOk_by (by first | (show blkC A5P (defScope Y7) _ _=true;decide+kernel) | rfl)) ⟨by decide,by decide⟩ (fun _ _ _ _ _=> pg_tup rfl (pgs_cons (pg_name (i:=2) sc.nd rfl (by first | exact .inl rfl | exact .inr rfl)) (pgs_cons (pg_name (i:=3) sc.nd rfl (by first | exact .inl rfl | exact .inr rfl)) pgs_nil))) (fun G' gk' _ _ _ _ _=> by have gk:=gk';exact (A5 (A2 (pv 2)))) (fun G' gk' _ _ _ _ _=> by have gk:=gk';exact (A5 (A04 call_list_of (Eq.mpr (congrArg (fun K=> CallA K _ _) gk) A3Y) rfl Z.n_list A06 (F4 (A2 (pv 3)) H7)))))) (A59 gk Z.fo_Book_written (A2 (pv 1))))
    (D6 (N9 (A1C (B5T (own:=[("name",2),("deeds",4)]) gk rfl sc.nd Z.fo_Book_laid (pv 0) (blkOk_by (by first | (show blkC A5P (defScope Y7) _ _=true;decide+kernel) | rfl)) ⟨by decide,by decide⟩ (fun _ _ _ _ _=> pg_tup rfl (pgs_cons (pg_name (i:=2) sc.nd rfl (by first | exact .inl rfl | exact .inr rfl)) (pgs_cons (pg_name (i:=4) sc.nd rfl (by first | exact .inl rfl | exact .inr rfl)) pgs_nil))) (fun G' gk' _ _ _ _ _=> by have gk:=gk';exact (A5 (A2 (pv 2)))) (fun G' gk' _ _ _ _ _=> by have gk:=gk';exact (A5 (A04 call_list_of (Eq.mpr (congrArg (fun K=> CallA K _ _) gk) A3Y) rfl Z.n_list A06 (F4 (A2 (pv 4)) H7)))))) (A59 gk Z.fo_Book_laid (A2 (pv 1))))
    (D2 (I8 (A2 (pv 1)))))))
theorem B9U {P:Program} {w:World} {K:PySem.W.Frag} {mg:Str→Option Value} {base:Heap} {f:Addr} {cdv:Value} {A:Around} {outer:List Env} {s:Shared} {H:Hp} {EX:XK} {G:Gx} {E:AExc→A1→AH→Prop} (Z:Blt K w mg) (O_Book__callers:OkM P w K mg base "Book" "callers" U3 4 2 A1P [] (upc W4)) (R_InUse:XkOk P w K mg base "InUse" "in use" ["name"]) (hr:Room 4 (A.deeper (envOfC (("Book":Str)++"."++"drop") (defScope i7) s.heap.objs.size f cdv))) (gk:G.K=K) (tk:Takes (bx P w K mg base A9m (("Book":Str)++"."++"drop") (defScope i7) f cdv A outer s H EX) (cW G E)):
    ASs (bx P w K mg base A9m (("Book":Str)++"."++"drop") (defScope i7) f cdv A outer s H EX) G (defBody i7) (A7I E):=by
  subst gk
  have gk:G.K=G.K:=rfl
  have sc:=B25
  have hu:=hr.units
  exact (D6 (N9 (A5 (W6 gk O_Book__callers A9a hr (by decide) tk (A2 (pv 0)) (C3 (A5 (A2 (pv 1))) D3))) (K9 (i:=2) sc.nd rfl (by first | exact .inl rfl | exact .inr rfl)))
    (D6 (N2 (A0O gk hu (A2 (pv 2)) (P5 K8)) (D2 (A2N R_InUse gk rfl tk hr (by decide) rfl (C3 (A5 (J9 gk (A2 (pv 2)) ae_int (fun _ _=> rfl))) D3))) N6)
    (D6 (B4t (W9 gk Z.fo_Book_written (A2 (pv 0))) (A5 (A2 (pv 1))))
    (D2 (B4t (W9 gk Z.fo_Book_laid (A2 (pv 0))) (A5 (A2 (pv 1))))))))
theorem B8o {P:Program} {w:World} {K:PySem.W.Frag} {mg:Str→Option Value} {base:Heap} {f:Addr} {cdv:Value} {A:Around} {outer:List Env} {s:Shared} {H:Hp} {EX:XK} {G:Gx} {E:AExc→A1→AH→Prop} (Z:Blt K w mg) (O_Book__names:OkM P w K mg base "Book" "names" T4 1 1 A0A [] (upc R5)) (hr:Room 1 (A.deeper (envOfC (("Book":Str)++"."++"__eq__") (defScope g9) s.heap.objs.size f cdv))) (gk:G.K=K) (tk:Takes (bx P w K mg base A9f (("Book":Str)++"."++"__eq__") (defScope g9) f cdv A outer s H EX) (cW G E)):
    ASs (bx P w K mg base A9f (("Book":Str)++"."++"__eq__") (defScope g9) f cdv A outer s H EX) G (defBody g9) (A6w E):=by
  subst gk
  have gk:G.K=G.K:=rfl
  have sc:=B2h
  have hu:=hr.units
  exact (D6 (N2 (AW.ap (A1k (A09 (d0 (C4D gk Z.iso_Book_Book rfl Z.n_isinstance rfl (A2 (pv 1))))) (A1g (A0O gk hu (W9 gk Z.fo_Book_casks (A2 (pv 0))) (W9 gk Z.fo_Book_casks (A2 (pv 1))))))) (D2 (I8 A2d)) N6)
    (D2 (I8 (A0F (A1q gk hu (A1T gk O_Book__names A3y hr (by decide) tk (A2 (pv 0))) (A1T gk O_Book__names A3y hr (by decide) tk (A2 (pv 1)))) (A1Z (C4F gk hu (W9 gk Z.fo_Book_written (A2 (pv 0))) (W9 gk Z.fo_Book_written (A2 (pv 1)))))))))
theorem C50 {P:Program} {w:World} {K:PySem.W.Frag} {mg:Str→Option Value} {base:Heap} {f:Addr} {cdv:Value} {A:Around} {outer:List Env} {s:Shared} {H:Hp} {EX:XK} {G:Gx} {E:AExc→A1→AH→Prop} (Z:Blt K w mg) (O__law_open:Ok P w K mg base "_law_open" j9 1 1 A5Z (upc A28)) (O__law_any_sizes:Ok P w K mg base "_law_any_sizes" f9 3 1 A4z (upc A2y)) (O__law_row:Ok P w K mg base "_law_row" b9 5 4 A5k (upc A3C)) (O__law_written:Ok P w K mg base "_law_written" i5 6 2 A5A (upc d8)) (O_Book__twin:OkM P w K mg base "Book" "twin" Y7 6 1 A5T [] (upc m9)) (O__law_told:Ok P w K mg base "_law_told" Z0 5 1 A5c (upc o8)) (O_Book____eq__:OkM P w K mg base "Book" "__eq__" g9 2 2 A47 [] (upc Q1)) (O__law_same:Ok P w K mg base "_law_same" Y9 9 2 A3B (upc (m__law_same 8))) (O__law_told__R:Ok P w K mg base "_law_told" i4 5 1 A48 (upc A2v)) (O_Book__names:OkM P w K mg base "Book" "names" T4 1 1 A0A [] (upc R5)) (O__law_take:Ok P w K mg base "_law_take" P3 1 2 Y8 (upc G7)) (O_Book__write:OkM P w K mg base "Book" "write" X9 5 3 A23 [] (upc g8)) (O_Book__drop:OkM P w K mg base "Book" "drop" i7 5 2 A5U [] (upc A2G)) (O_Book____init__:OkM P w K mg base "Book" "__init__" U2 4 2 A0Y [] (upc P4)) (hr:Room 9 (A.deeper (envOfC "law" (defScope o3) s.heap.objs.size f cdv))) (gk:G.K=K) (tk:Takes (bx P w K mg base A6N "law" (defScope o3) f cdv A outer s H EX) (cW G E)):
    ASs (bx P w K mg base A6N "law" (defScope o3) f cdv A outer s H EX) G (defBody o3) (A8o E):=by
  subst gk
  have gk:G.K=G.K:=rfl
  have sc:=B64
  have hu:=hr.units
  exact (D6 (A4H (i:=1) sc.nd rfl (by first | exact .inl rfl | exact .inr rfl) (I7 gk O__law_open B9m hr (by decide) rfl tk (C3 (A5 (A2 (pv 0))) D3)))
    (D6 (C2W 1 (N9 (A5 (I7 gk O__law_any_sizes B8O hr (by decide) rfl tk (C3 (A5 (A2 (pv 1))) D3))) (K9 (i:=2) sc.nd rfl (by first | exact .inl rfl | exact .inr rfl))))
    (D6 (N9 (A5 (I7 gk O__law_row C0l hr (by decide) rfl tk (C3 (A5 (A2 (pv 1))) (C3 (A5 (A2 (pv 2))) (C3 (A5 ae_int) (C3 (A5 A2d) D3)))))) (K9 (i:=3) sc.nd rfl (by first | exact .inl rfl | exact .inr rfl)))
    (D6 (N9 (A5 (P5 (C9 (A5 (n7 (C9 (A5 Q7) (C9 (A5 (A2 (pv 3))) K8)))) (C9 (A5 (n7 (C9 (A5 Q7) (C9 (A5 (S9 gk (P5 (C9 (A5 (n7 (C9 (A5 Q7) (C9 (A5 Q7) (C9 (A5 ae_int) K8))))) K8)) (A3M gk (A2 (pv 3)) A3S (A3Q ae_int)))) K8)))) (C9 (A5 (n7 (C9 (A5 Q7) (C9 (A5 (A3M gk (A2 (pv 3)) (A3Q ae_int) A3S)) K8)))) K8))))) (K9 (i:=4) sc.nd rfl (by first | exact .inl rfl | exact .inr rfl)))
    (D6 (N9 (A5 (I7 gk O__law_written A45 hr (by decide) rfl tk (C3 (A5 (A2 (pv 2))) (C3 (A5 (A2 (pv 4))) D3)))) (K9 (i:=5) sc.nd rfl (by first | exact .inl rfl | exact .inr rfl)))
    (D6 (N9 (A5 (P5 (C9 (A5 (A2 (pv 5))) (C9 (A5 (A1T gk O_Book__twin A9i hr (by decide) tk (A2 (pv 5)))) (C9 (A5 (A1T gk O_Book__twin A9i hr (by decide) tk (A1T gk O_Book__twin A9i hr (by decide) tk (A2 (pv 5))))) (C9 (A5 (I7 gk O__law_written A45 hr (by decide) rfl tk (C3 (A5 (A2 (pv 2))) (C3 (A5 (A2 (pv 4))) D3)))) K8)))))) (K9 (i:=6) sc.nd rfl (by first | exact .inl rfl | exact .inr rfl)))
    (D6 (N9 (A5 (I7 gk O__law_told A7U hr (by decide) rfl tk (C3 (A5 (A2 (pv 5))) D3))) (K9 (i:=7) sc.nd rfl (by first | exact .inl rfl | exact .inr rfl)))
    (D6 (A3f (passes_of rfl) rfl (A1G gk (A5 (A2 (pv 6)))) (K9 (i:=8) sc.nd rfl (by first | exact .inl rfl | exact .inr rfl)) (D2 (N2 (AW.ap (A1k (A09 (d0 (M0 (cr_all rfl) B0j rfl Z.n_all B0e (F4 (A0G (own:=[("_law_mother",9)]) rfl sc.nd (A1G gk (A5 (A2 (pv 6)))) (blkOk_by (by first | (show blkC A6N (defScope o3) _ _=true;decide+kernel) | rfl)) (by decide) (fun _ _ _ _ _=> (K9 (i:=9) sc.nd rfl (by first | exact .inl rfl | exact .inr rfl))) (fun _ _ _ _ _=> w5) (fun _ _ _ _ _=> (A5 (A0F (A8U gk O_Book____eq__ A2D hr (by decide) (A2 (pv 8)) (A2 (pv 9))) (A1Z (B5i (C4j gk O_Book____eq__ A2D hr (by decide) (A2 (pv 8)) (A2 (pv 9)) Z.ne_Book))))))) H7)))) (A1g (A09 (d0 (I7 gk O__law_same A9q hr (by decide) rfl tk (C3 (A5 (I7 gk O__law_told A7U hr (by decide) rfl tk (C3 (A5 (A2 (pv 8))) D3))) (C3 (A5 (A2 (pv 7))) D3)))))))) (D2 (I8 A2d)) N6)))
    (D6 (A3f (passes_of rfl) rfl (A1G gk (A5 (S9 gk (I7 gk O__law_told__R B8k hr (by decide) rfl tk (C3 (A5 (A2 (pv 5))) D3)) (P5 (C9 (A5 (P5 (C9 (A5 Q7) (C9 (A1C (A1T gk O_Book__names A3y hr (by decide) tk (A2 (pv 5)))) (C9 (A1C (P5 K8)) (C9 (A1C (P5 K8)) K8)))))) K8))))) (K9 (i:=10) sc.nd rfl (by first | exact .inl rfl | exact .inr rfl)) (D6 (Z1 (A3n gk A30 PySem.F.plainAttrs_list PySem.F.slot_list_append PySem.F.type_list_append mt_append (J9 gk (A2 (pv 10)) ae_int (fun _ _=> rfl)) (C9 (A5 Q7) K8)))
    (D6 (Z1 (A3n gk A30 PySem.F.plainAttrs_list PySem.F.slot_list_append PySem.F.type_list_append mt_append (J9 gk (A2 (pv 10)) ae_int (fun _ _=> rfl)) (C9 (A5 Q7) K8)))
    (D2 (Z1 (A3n gk A30 PySem.F.plainAttrs_list PySem.F.slot_list_append PySem.F.type_list_append mt_append (J9 gk (A2 (pv 10)) ae_int (fun _ _=> rfl)) (C9 (A5 Q7) K8)))))))
    (D6 (N2 (AW.ap (A1k (A09 (d0 (I7 gk O__law_same A9q hr (by decide) rfl tk (C3 (A5 (I7 gk O__law_told A7U hr (by decide) rfl tk (C3 (A5 (A2 (pv 5))) D3))) (C3 (A5 (A2 (pv 7))) D3))))) (A1g (A0O gk hu (A1T gk O_Book__names A3y hr (by decide) tk (A2 (pv 5))) (P5 (C9 (A5 Q7) (C9 (A5 Q7) (C9 (A5 Q7) K8)))))))) (D2 (I8 A2d)) N6)
    (D6 (N9 (A5 (I7 gk O__law_take j4 hr (by decide) rfl tk (C3 (A5 (A2 (pv 1))) (C3 (A5 ae_int) D3)))) (K9 (i:=11) sc.nd rfl (by first | exact .inl rfl | exact .inr rfl)))
    (D6 (N2 (A2g gk hu (I7 gk O__law_take j4 hr (by decide) rfl tk (C3 (A5 (A2 (pv 1))) (C3 (A5 ae_int) D3))) ae_int) (D2 (Z1 (W6 gk O_Book__write B2b hr (by decide) tk (J9 gk (A2 (pv 6)) (A2 (pv 11)) (fun _ _=> rfl)) (C3 (A5 Q7) (C3 (A5 (P5 (C9 (A5 (n7 (C9 (A5 Q7) (C9 (A5 Q7) (C9 (A5 ae_int) K8))))) K8))) D3))))) (D2 (Z1 (W6 gk O_Book__drop B8y hr (by decide) tk (J9 gk (A2 (pv 6)) (A2 (pv 11)) (fun _ _=> rfl)) (C3 (A5 Q7) D3)))))
    (D6 (A3f (passes_of rfl) rfl (A31 rfl Z.n_range (F4 ae_int H7)) (K9 (i:=12) sc.nd rfl (by first | exact .inl rfl | exact .inr rfl)) (D2 (N2 (AW.ap (A1k (A0O gk hu (A1q gk hu (I7 gk O__law_told A7U hr (by decide) rfl tk (C3 (A5 (J9 gk (A2 (pv 6)) (A2 (pv 12)) (fun _ _=> rfl))) D3)) (A2 (pv 7))) (C5w gk hu (A2 (pv 12)) (A2 (pv 11)))) (A1g (A0O gk hu (A8U gk O_Book____eq__ A2D hr (by decide) (J9 gk (A2 (pv 6)) (A2 (pv 12)) (fun _ _=> rfl)) (J9 gk (A2 (pv 6)) (A2 (pv 11)) (fun _ _=> rfl))) (A1q gk hu (A2 (pv 12)) (A2 (pv 11))))))) (D2 (I8 A2d)) N6)))
    (D6 (N9 (A5 (I7 gk O__law_written A45 hr (by decide) rfl tk (C3 (A5 (A2 (pv 2))) (C3 (A5 (P5 (C9 (A5 (J9 gk (A2 (pv 4)) ae_int (fun _ _=> rfl))) (C9 (A5 (J9 gk (A2 (pv 4)) ae_int (fun _ _=> rfl))) (C9 (A5 (J9 gk (A2 (pv 4)) ae_int (fun _ _=> rfl))) K8))))) D3)))) (K9 (i:=13) sc.nd rfl (by first | exact .inl rfl | exact .inr rfl)))
    (D6 (A4H (i:=14) sc.nd rfl (by first | exact .inl rfl | exact .inr rfl) (P5 (C9 (A5 (A2 (pv 13))) (C9 (A5 (I7 gk O__law_written A45 hr (by decide) rfl tk (C3 (A5 (A2 (pv 2))) (C3 (A5 (A3M gk (A2 (pv 4)) A3S (A3Q ae_int))) D3)))) (C9 (A5 (A3O gk Z.mk_Book O_Book____init__ A2w hr (by decide) rfl tk (C3 (A5 (A2 (pv 2))) D3))) K8)))))
    (D6 (Z1 (A3n gk A30 PySem.F.plainAttrs_list PySem.F.slot_list_append PySem.F.type_list_append mt_append (A2 (pv 14)) (C9 (A5 (I7 gk O__law_written A45 hr (by decide) rfl tk (C3 (A5 (S9 gk (n7 (C9 (A5 (S9 gk (A2W (J9 gk (A2 (pv 2)) ae_int (fun _ _=> rfl)) ae_int) ae_int)) K8)) (A3M gk (A2 (pv 2)) (A3Q ae_int) A3S))) (C3 (A5 (P5 (C9 (A5 (n7 (C9 (A5 Q7) (C9 (A5 (P5 K8)) K8)))) K8))) D3)))) K8)))
    (D6 (A53 14 (N2 (AW.ap (A1k (d0 (M0 (cr_any rfl) B6Q rfl Z.n_any B5k (F4 (A0G (own:=[("_law_mother",9)]) rfl sc.nd (A1G gk (A5 (A2 (pv 14)))) (blkOk_by (by first | (show blkC A6N (defScope o3) _ _=true;decide+kernel) | rfl)) (by decide) (fun _ _ _ _ _=> (K9 (i:=9) sc.nd rfl (by first | exact .inl rfl | exact .inr rfl))) (fun _ _ _ _ _=> w5) (fun _ _ _ _ _=> (A5 (A8U gk O_Book____eq__ A2D hr (by decide) (A2 (pv 9)) (J9 gk (A2 (pv 6)) (A8L (A2 (pv 11)) ae_int) (fun _ _=> rfl)))))) H7))) (A1g (C4w gk O_Book____eq__ A2D hr (by decide) (A3O gk Z.mk_Book O_Book____init__ A2w hr (by decide) rfl tk (C3 (A5 (n7 (C9 (A5 ae_int) (C9 (A5 ae_int) K8)))) D3)) (A3O gk Z.mk_Book O_Book____init__ A2w hr (by decide) rfl tk (C3 (A5 (n7 (C9 (A5 ae_int) (C9 (A5 ae_int) K8)))) D3)))))) (D2 (I8 A2d)) N6))
    (D2 (I8 (A0F (A8U gk O_Book____eq__ A2D hr (by decide) (C0x gk Z.mk_Book O_Book____init__ B7o (fun _=> .nil) hr (by decide) rfl tk (C3H (A5 (A2 (pv 2))) C4x)) (A3O gk Z.mk_Book O_Book____init__ A2w hr (by decide) rfl tk (C3 (A5 (A2 (pv 2))) D3))) (A0F (B5z gk O_Book____eq__ A2D hr (by decide) (A3O gk Z.mk_Book O_Book____init__ A2w hr (by decide) rfl tk (C3 (A5 (A2 (pv 2))) D3)) (A5 (P5 K8)) Z.ne_Book) (A1Z (B5z gk O_Book____eq__ A2D hr (by decide) (J9 gk (A2 (pv 6)) (A8L (A2 (pv 11)) ae_int) (fun _ _=> rfl)) (A5 (A2 (pv 4))) Z.ne_Book)))))))))))))))))))))))
end Ab
namespace Ab
open PySem PySem.Spec PyProof.Rows L2 RZ
theorem B9I {P:Program} {w:World} {K:PySem.W.Frag} {mg:Str→Option Value} {base:Heap} {f:Addr} {fd:FuncData} (Z:Blt K w mg) (F:FunD K "look_sizes" "look_sizes" (defArgs i9) (defBody i9) (defScope i9) [] [] f fd) (hm:mg "look_sizes"=some (.ref f)) (R_BadSizes:XkOk P w K mg base "BadSizes" "bad sizes" ["cask"]):Ok P w K mg base "look_sizes" i9 3 1 A5R (upc A20):=
  Ok.mk' upc.m hm F B27 rfl (fun cdv A outer s H EX G E hr gk tk=> B9f Z R_BadSizes hr gk tk) B8g
theorem C0F {P:Program} {w:World} {K:PySem.W.Frag} {mg:Str→Option Value} {base:Heap} {f:Addr} {fd:FuncData} (Z:Blt K w mg) (F:FunD K "has_count" "has_count" (defArgs j7) (defBody j7) (defScope j7) [] [] f fd) (hm:mg "has_count"=some (.ref f)):Ok P w K mg base "has_count" j7 1 3 A5Y (upc A29):=
  Ok.mk' upc.m hm F B3Q rfl (fun cdv A outer s H EX G E hr gk tk=> B9s Z hr gk tk) B97
theorem C0C {P:Program} {w:World} {K:PySem.W.Frag} {mg:Str→Option Value} {base:Heap} {f:Addr} {fd:FuncData} (Z:Blt K w mg) (F:FunD K "first_bad" "first_bad" (defArgs j5) (defBody j5) (defScope j5) [] [] f fd) (hm:mg "first_bad"=some (.ref f)):Ok P w K mg base "first_bad" j5 1 3 A5f (upc A0i):=
  Ok.mk' upc.m hm F B3C rfl (fun cdv A outer s H EX G E hr gk tk=> B9r Z hr gk tk) B9i
theorem C0g {P:Program} {w:World} {K:PySem.W.Frag} {mg:Str→Option Value} {base:Heap} {f:Addr} {fd:FuncData} (Z:Blt K w mg) (F:FunD K "fault_of" "fault_of" (defArgs k8) (defBody k8) (defScope k8) [] [] f fd) (hm:mg "fault_of"=some (.ref f)) (O_has_count:Ok P w K mg base "has_count" j7 1 3 A5Y (upc A29)) (O_first_bad:Ok P w K mg base "first_bad" j5 1 3 A5f (upc A0i)):Ok P w K mg base "fault_of" k8 2 2 A5g (upc A2I):=
  Ok.mk' upc.m hm F B3i rfl (fun cdv A outer s H EX G E hr gk tk=> C0i Z O_has_count O_first_bad hr gk tk) C0e
theorem C1A {P:Program} {w:World} {K:PySem.W.Frag} {mg:Str→Option Value} {base:Heap} {f:Addr} {fd:FuncData} (Z:Blt K w mg) (F:FunD K "is_name" "is_name" (defArgs c5) (defBody c5) (defScope c5) [] [] f fd) (hm:mg "is_name"=some (.ref f)):Ok P w K mg base "is_name" c5 1 1 A5l (upc A3G):=
  Ok.mk' upc.m hm F B3k rfl (fun cdv A outer s H EX G E hr gk tk=> C07 Z hr gk tk) C1N
theorem C1E {P:Program} {w:World} {K:PySem.W.Frag} {mg:Str→Option Value} {base:Heap} {f:Addr} {fd:FuncData} (Z:Blt K w mg) (F:FunD K "is_call" "is_call" (defArgs T6) (defBody T6) (defScope T6) [] [] f fd) (hm:mg "is_call"=some (.ref f)):Ok P w K mg base "is_call" T6 1 1 A0D (upc O0):=
  Ok.mk' upc.m hm F B3l rfl (fun cdv A outer s H EX G E hr gk tk=> C1C Z hr gk tk) C09
theorem B9F {P:Program} {w:World} {K:PySem.W.Frag} {mg:Str→Option Value} {base:Heap} {f:Addr} {fd:FuncData} (Z:Blt K w mg) (F:FunD K "call_fault" "call_fault" (defArgs i8) (defBody i8) (defScope i8) [] [] f fd) (hm:mg "call_fault"=some (.ref f)):Ok P w K mg base "call_fault" i8 1 1 A5X (upc A2F):=
  Ok.mk' upc.m hm F B2y rfl (fun cdv A outer s H EX G E hr gk tk=> B9T Z hr gk tk) B9W
theorem B91 {P:Program} {w:World} {K:PySem.W.Frag} {mg:Str→Option Value} {base:Heap} {f:Addr} {fd:FuncData} (Z:Blt K w mg) (F:FunD K "_law_open" "_law_open" (defArgs j9) (defBody j9) (defScope j9) [] [] f fd) (hm:mg "_law_open"=some (.ref f)):Ok P w K mg base "_law_open" j9 1 1 A5Z (upc A28):=
  Ok.mk' upc.m hm F B3O rfl (fun cdv A outer s H EX G E hr gk tk=> B95 Z hr gk tk) C0L
theorem B9l {P:Program} {w:World} {K:PySem.W.Frag} {mg:Str→Option Value} {base:Heap} {f:Addr} {fd:FuncData} (Z:Blt K w mg) (F:FunD K "_law_take" "_law_take" (defArgs P3) (defBody P3) (defScope P3) [] [] f fd) (hm:mg "_law_take"=some (.ref f)):Ok P w K mg base "_law_take" P3 1 2 Y8 (upc G7):=
  Ok.mk' upc.m hm F B3D rfl (fun cdv A outer s H EX G E hr gk tk=> C0G Z hr gk tk) C0H
theorem B90 {P:Program} {w:World} {K:PySem.W.Frag} {mg:Str→Option Value} {base:Heap} {f:Addr} {fd:FuncData} (Z:Blt K w mg) (F:FunD K "_law_pick" "_law_pick" (defArgs V4) (defBody V4) (defScope V4) [] [] f fd) (hm:mg "_law_pick"=some (.ref f)) (O__law_take:Ok P w K mg base "_law_take" P3 1 2 Y8 (upc G7)):Ok P w K mg base "_law_pick" V4 2 2 A1Q (upc W5):=
  Ok.mk' upc.m hm F B3K rfl (fun cdv A outer s H EX G E hr gk tk=> B9z Z O__law_take hr gk tk) B96
theorem B3S {P:Program} {w:World} {K:PySem.W.Frag} {mg:Str→Option Value} {base:Heap} {f:Addr} {fd:FuncData} (Z:Blt K w mg) (F:FunD K "_law_same" "_law_same" (defArgs Y9) (defBody Y9) (defScope Y9) [] [] f fd) (hm:mg "_law_same"=some (.ref f)):∀d,Ok P w K mg base "_law_same" Y9 (1+d) 2 A3B (upc (m__law_same d))
  | 0=> (C2o (n:=2) (ps:=A3B) hm F).up (by omega) upc.m (fun _ _ _ _ ⟨_,_,_,_,z⟩=> z)
  | d+1=> Ok.mk' (k:=1+d) upc.m hm F B3I rfl (fun cdv A outer s H EX G E hr gk tk=> C0E (d:=d) (j:=1+d) Z (B3S Z F hm d) (hr.mono (by omega)) gk tk) (B98 d)
theorem B9C {P:Program} {w:World} {K:PySem.W.Frag} {mg:Str→Option Value} {base:Heap} {f:Addr} {fd:FuncData} (Z:Blt K w mg) (F:FunD K "_law_sizes" "_law_sizes" (defArgs b8) (defBody b8) (defScope b8) [] [] f fd) (hm:mg "_law_sizes"=some (.ref f)) (O__law_take:Ok P w K mg base "_law_take" P3 1 2 Y8 (upc G7)):Ok P w K mg base "_law_sizes" b8 2 3 A5L (upc A27):=
  Ok.mk' upc.m hm F B24 rfl (fun cdv A outer s H EX G E hr gk tk=> B9V Z O__law_take hr gk tk) B9M
theorem B8I {P:Program} {w:World} {K:PySem.W.Frag} {mg:Str→Option Value} {base:Heap} {f:Addr} {fd:FuncData} (Z:Blt K w mg) (F:FunD K "_law_any_sizes" "_law_any_sizes" (defArgs f9) (defBody f9) (defScope f9) [] [] f fd) (hm:mg "_law_any_sizes"=some (.ref f)) (O__law_sizes:Ok P w K mg base "_law_sizes" b8 2 3 A5L (upc A27)) (O__law_pick:Ok P w K mg base "_law_pick" V4 2 2 A1Q (upc W5)):Ok P w K mg base "_law_any_sizes" f9 3 1 A4z (upc A2y):=
  Ok.mk' upc.m hm F B2O rfl (fun cdv A outer s H EX G E hr gk tk=> B8P Z O__law_sizes O__law_pick hr gk tk) B8K
theorem B88 {P:Program} {w:World} {K:PySem.W.Frag} {mg:Str→Option Value} {base:Heap} {f:Addr} {fd:FuncData} (Z:Blt K w mg) (F:FunD K "_law_number" "_law_number" (defArgs i6) (defBody i6) (defScope i6) [] [] f fd) (hm:mg "_law_number"=some (.ref f)) (O__law_take:Ok P w K mg base "_law_take" P3 1 2 Y8 (upc G7)) (O__law_pick:Ok P w K mg base "_law_pick" V4 2 2 A1Q (upc W5)):Ok P w K mg base "_law_number" i6 3 1 A5I (upc A22):=
  Ok.mk' upc.m hm F B2r rfl (fun cdv A outer s H EX G E hr gk tk=> B84 Z O__law_take O__law_pick hr gk tk) B89
theorem B8e {P:Program} {w:World} {K:PySem.W.Frag} {mg:Str→Option Value} {base:Heap} {f:Addr} {fd:FuncData} (Z:Blt K w mg) (F:FunD K "_law_shuffled" "_law_shuffled" (defArgs Z8) (defBody Z8) (defScope Z8) [] [] f fd) (hm:mg "_law_shuffled"=some (.ref f)) (O__law_take:Ok P w K mg base "_law_take" P3 1 2 Y8 (upc G7)):Ok P w K mg base "_law_shuffled" Z8 2 2 A43 (upc A2z):=
  Ok.mk' upc.m hm F B2Y rfl (fun cdv A outer s H EX G E hr gk tk=> B8V Z O__law_take hr gk tk) B8h
theorem B76 {P:Program} {w:World} {K:PySem.W.Frag} {mg:Str→Option Value} {base:Heap} {f:Addr} {fd:FuncData} (Z:Blt K w mg) (F:FunD K "_law_some_casks" "_law_some_casks" (defArgs d7) (defBody d7) (defScope d7) [] [] f fd) (hm:mg "_law_some_casks"=some (.ref f)) (O__law_shuffled:Ok P w K mg base "_law_shuffled" Z8 2 2 A43 (upc A2z)):Ok P w K mg base "_law_some_casks" d7 3 3 A4r (upc A0X):=
  Ok.mk' upc.m hm F B2K rfl (fun cdv A outer s H EX G E hr gk tk=> B73 Z O__law_shuffled hr gk tk) B75
theorem B9N {P:Program} {w:World} {K:PySem.W.Frag} {mg:Str→Option Value} {base:Heap} {f:Addr} {fd:FuncData} (Z:Blt K w mg) (F:FunD K "_law_alike" "_law_alike" (defArgs Y6) (defBody Y6) (defScope Y6) [] [] f fd) (hm:mg "_law_alike"=some (.ref f)):Ok P w K mg base "_law_alike" Y6 1 1 A5S (upc A24):=
  Ok.mk' upc.m hm F B2v rfl (fun cdv A outer s H EX G E hr gk tk=> B9J Z hr gk tk) B9e
theorem B9y {P:Program} {w:World} {K:PySem.W.Frag} {mg:Str→Option Value} {base:Heap} {f:Addr} {fd:FuncData} (Z:Blt K w mg) (F:FunD K "_law_deed" "_law_deed" (defArgs j3) (defBody j3) (defScope j3) [] [] f fd) (hm:mg "_law_deed"=some (.ref f)) (O__law_take:Ok P w K mg base "_law_take" P3 1 2 Y8 (upc G7)) (O__law_alike:Ok P w K mg base "_law_alike" Y6 1 1 A5S (upc A24)) (O__law_pick:Ok P w K mg base "_law_pick" V4 2 2 A1Q (upc W5)) (O__law_some_casks:Ok P w K mg base "_law_some_casks" d7 3 3 A4r (upc A0X)):Ok P w K mg base "_law_deed" j3 4 4 A5a (upc A3A):=
  Ok.mk' upc.m hm F B3R rfl (fun cdv A outer s H EX G E hr gk tk=> B99 Z O__law_take O__law_alike O__law_pick O__law_some_casks hr gk tk) B9w
theorem C0W {P:Program} {w:World} {K:PySem.W.Frag} {mg:Str→Option Value} {base:Heap} {f:Addr} {fd:FuncData} (Z:Blt K w mg) (F:FunD K "_law_row" "_law_row" (defArgs b9) (defBody b9) (defScope b9) [] [] f fd) (hm:mg "_law_row"=some (.ref f)) (O__law_take:Ok P w K mg base "_law_take" P3 1 2 Y8 (upc G7)) (O__law_deed:Ok P w K mg base "_law_deed" j3 4 4 A5a (upc A3A)) (O__law_number:Ok P w K mg base "_law_number" i6 3 1 A5I (upc A22)):Ok P w K mg base "_law_row" b9 5 4 A5k (upc A3C):=
  Ok.mk' upc.m hm F B3Z rfl (fun cdv A outer s H EX G E hr gk tk=> C0m Z O__law_take O__law_deed O__law_number hr gk tk) C0S
theorem B9A {P:Program} {w:World} {K:PySem.W.Frag} {mg:Str→Option Value} {base:Heap} {f:Addr} {fd:FuncData} (Z:Blt K w mg) (R_NoRound:XkOk P w K mg base "NoRound" "no round" ["name"]) (cl:Cls K (He.ga K "Book")) (M:Meth K (He.ga K "Book") "there" f) (F:FunD K "there" (("Book":Str)++"."++"there") (defArgs T5) (defBody T5) (defScope T5) [] [] f fd):OkM P w K mg base "Book" "there" T5 3 2 A0B [] (upc Q3):=
  OkM.mk' upc.m cl M F B2u rfl (fun cdv A outer s H EX G E hr gk tk=> B87 Z R_NoRound hr gk tk) B8B
theorem B8x {P:Program} {w:World} {K:PySem.W.Frag} {mg:Str→Option Value} {base:Heap} {f:Addr} {fd:FuncData} (Z:Blt K w mg) (O_Book__there:OkM P w K mg base "Book" "there" T5 3 2 A0B [] (upc Q3)) (cl:Cls K (He.ga K "Book")) (M:Meth K (He.ga K "Book") "steps" f) (F:FunD K "steps" (("Book":Str)++"."++"steps") (defArgs X8) (defBody X8) (defScope X8) [] [] f fd):OkM P w K mg base "Book" "steps" X8 4 2 A21 [] (upc o7):=
  OkM.mk' upc.m cl M F B2o rfl (fun cdv A outer s H EX G E hr gk tk=> B82 Z O_Book__there hr gk tk) B8A
theorem B9R {P:Program} {w:World} {K:PySem.W.Frag} {mg:Str→Option Value} {base:Heap} {f:Addr} {fd:FuncData} (Z:Blt K w mg) (O_Book__there:OkM P w K mg base "Book" "there" T5 3 2 A0B [] (upc Q3)) (cl:Cls K (He.ga K "Book")) (M:Meth K (He.ga K "Book") "flat" f) (F:FunD K "flat" (("Book":Str)++"."++"flat") (defArgs Y0) (defBody Y0) (defScope Y0) [] [] f fd):OkM P w K mg base "Book" "flat" Y0 4 2 A25 [] (upc o9):=
  OkM.mk' upc.m cl M F B28 rfl (fun cdv A outer s H EX G E hr gk tk=> B9E Z O_Book__there hr gk tk) B9G
theorem B8Z {P:Program} {w:World} {K:PySem.W.Frag} {mg:Str→Option Value} {base:Heap} {f:Addr} {fd:FuncData} (Z:Blt K w mg) (O_Book__there:OkM P w K mg base "Book" "there" T5 3 2 A0B [] (upc Q3)) (O_is_call:Ok P w K mg base "is_call" T6 1 1 A0D (upc O0)) (cl:Cls K (He.ga K "Book")) (M:Meth K (He.ga K "Book") "callers" f) (F:FunD K "callers" (("Book":Str)++"."++"callers") (defArgs U3) (defBody U3) (defScope U3) [] [] f fd):OkM P w K mg base "Book" "callers" U3 4 2 A1P [] (upc W4):=
  OkM.mk' upc.m cl M F B2X rfl (fun cdv A outer s H EX G E hr gk tk=> B8d Z O_Book__there O_is_call hr gk tk) B8W
theorem B81 {P:Program} {w:World} {K:PySem.W.Frag} {mg:Str→Option Value} {base:Heap} {f:Addr} {fd:FuncData} (Z:Blt K w mg) (cl:Cls K (He.ga K "Book")) (M:Meth K (He.ga K "Book") "names" f) (F:FunD K "names" (("Book":Str)++"."++"names") (defArgs T4) (defBody T4) (defScope T4) [] [] f fd):OkM P w K mg base "Book" "names" T4 1 1 A0A [] (upc R5):=
  OkM.mk' upc.m cl M F B2p rfl (fun cdv A outer s H EX G E hr gk tk=> B8w Z hr gk tk) B86
theorem B9q {P:Program} {w:World} {K:PySem.W.Frag} {mg:Str→Option Value} {base:Heap} {f:Addr} {fd:FuncData} (Z:Blt K w mg) (F:FunD K "_law_told" "_law_told" (defArgs Z0) (defBody Z0) (defScope Z0) [] [] f fd) (hm:mg "_law_told"=some (.ref f)) (O_Book__names:OkM P w K mg base "Book" "names" T4 1 1 A0A [] (upc R5)) (O_Book__callers:OkM P w K mg base "Book" "callers" U3 4 2 A1P [] (upc W4)) (O_Book__flat:OkM P w K mg base "Book" "flat" Y0 4 2 A25 [] (upc o9)) (O_Book__steps:OkM P w K mg base "Book" "steps" X8 4 2 A21 [] (upc o7)):Ok P w K mg base "_law_told" Z0 5 1 A5c (upc o8):=
  Ok.mk' upc.m hm F B3F rfl (fun cdv A outer s H EX G E hr gk tk=> B9j Z O_Book__names O_Book__callers O_Book__flat O_Book__steps hr gk tk) B8b
theorem B8r {P:Program} {w:World} {K:PySem.W.Frag} {mg:Str→Option Value} {base:Heap} {f:Addr} {fd:FuncData} (Z:Blt K w mg) (F:FunD K "_law_told" "_law_told" (defArgs i4) (defBody i4) (defScope i4) [] [] f fd) (hm:mg "_law_told"=some (.ref f)) (O_Book__names:OkM P w K mg base "Book" "names" T4 1 1 A0A [] (upc R5)) (O_Book__callers:OkM P w K mg base "Book" "callers" U3 4 2 A1P [] (upc W4)) (O_Book__flat:OkM P w K mg base "Book" "flat" Y0 4 2 A25 [] (upc o9)) (O_Book__steps:OkM P w K mg base "Book" "steps" X8 4 2 A21 [] (upc o7)):Ok P w K mg base "_law_told" i4 5 1 A48 (upc A2v):=
  Ok.mk' upc.m hm F B2a rfl (fun cdv A outer s H EX G E hr gk tk=> B8t Z O_Book__names O_Book__callers O_Book__flat O_Book__steps hr gk tk) B7x
theorem B8F {P:Program} {w:World} {K:PySem.W.Frag} {mg:Str→Option Value} {base:Heap} {f:Addr} {fd:FuncData} (Z:Blt K w mg) (O_look_sizes:Ok P w K mg base "look_sizes" i9 3 1 A5R (upc A20)) (cl:Cls K (He.ga K "Book")) (M:Meth K (He.ga K "Book") "__init__" f) (F:FunD K "__init__" (("Book":Str)++"."++"__init__") (defArgs U2) (defBody U2) (defScope U2) [] [] f fd):OkM P w K mg base "Book" "__init__" U2 4 2 A0Y [] (upc P4):=
  OkM.mk' upc.m cl M F B2P rfl (fun cdv A outer s H EX G E hr gk tk=> B8J Z O_look_sizes hr gk tk) B8C
theorem B8E {P:Program} {w:World} {K:PySem.W.Frag} {mg:Str→Option Value} {base:Heap} {f:Addr} {fd:FuncData} (Z:Blt K w mg) (O_is_name:Ok P w K mg base "is_name" c5 1 1 A5l (upc A3G)) (R_BadName:XkOk P w K mg base "BadName" "bad name" []) (R_Taken:XkOk P w K mg base "Taken" "taken" ["name"]) (R_TooMany:XkOk P w K mg base "TooMany" "too many" ["most"]) (cl:Cls K (He.ga K "Book")) (M:Meth K (He.ga K "Book") "look_new" f) (F:FunD K "look_new" (("Book":Str)++"."++"look_new") (defArgs e9) (defBody e9) (defScope e9) [] [] f fd):OkM P w K mg base "Book" "look_new" e9 3 2 A4w [] (upc A2B):=
  OkM.mk' upc.m cl M F B2S rfl (fun cdv A outer s H EX G E hr gk tk=> B8M Z O_is_name R_BadName R_Taken R_TooMany hr gk tk) B7s
theorem B79 {P:Program} {w:World} {K:PySem.W.Frag} {mg:Str→Option Value} {base:Heap} {f:Addr} {fd:FuncData} (Z:Blt K w mg) (O_is_call:Ok P w K mg base "is_call" T6 1 1 A0D (upc O0)) (cl:Cls K (He.ga K "Book")) (M:Meth K (He.ga K "Book") "laid_out" f) (F:FunD K "laid_out" (("Book":Str)++"."++"laid_out") (defArgs f7) (defBody f7) (defScope f7) [] [] f fd):OkM P w K mg base "Book" "laid_out" f7 2 2 A4y [] (upc A2C):=
  OkM.mk' upc.m cl M F B2U rfl (fun cdv A outer s H EX G E hr gk tk=> B8T Z O_is_call hr gk tk) B8L
theorem B7u {P:Program} {w:World} {K:PySem.W.Frag} {mg:Str→Option Value} {base:Heap} {f:Addr} {fd:FuncData} (Z:Blt K w mg) (O_is_call:Ok P w K mg base "is_call" T6 1 1 A0D (upc O0)) (O_call_fault:Ok P w K mg base "call_fault" i8 1 1 A5X (upc A2F)) (O_fault_of:Ok P w K mg base "fault_of" k8 2 2 A5g (upc A2I)) (O_Book__there:OkM P w K mg base "Book" "there" T5 3 2 A0B [] (upc Q3)) (R_BadRow:XkOk P w K mg base "BadRow" "bad row" ["step","place"]) (cl:Cls K (He.ga K "Book")) (M:Meth K (He.ga K "Book") "look_step" f) (F:FunD K "look_step" (("Book":Str)++"."++"look_step") (defArgs d9) (defBody d9) (defScope d9) [] [] f fd):OkM P w K mg base "Book" "look_step" d9 4 3 A4t [] (upc A2A):=
  OkM.mk' upc.m cl M F B2M rfl (fun cdv A outer s H EX G E hr gk tk=> B71 Z O_is_call O_call_fault O_fault_of O_Book__there R_BadRow hr gk tk) B7q
theorem B8p {P:Program} {w:World} {K:PySem.W.Frag} {mg:Str→Option Value} {base:Heap} {f:Addr} {fd:FuncData} (Z:Blt K w mg) (O_is_call:Ok P w K mg base "is_call" T6 1 1 A0D (upc O0)) (cl:Cls K (He.ga K "Book")) (M:Meth K (He.ga K "Book") "length" f) (F:FunD K "length" (("Book":Str)++"."++"length") (defArgs Z9) (defBody Z9) (defScope Z9) [] [] f fd):OkM P w K mg base "Book" "length" Z9 2 2 A44 [] (upc A2E):=
  OkM.mk' upc.m cl M F B2d rfl (fun cdv A outer s H EX G E hr gk tk=> B8i Z O_is_call hr gk tk) B8m
theorem B8u {P:Program} {w:World} {K:PySem.W.Frag} {mg:Str→Option Value} {base:Heap} {f:Addr} {fd:FuncData} (Z:Blt K w mg) (O_Book__look_new:OkM P w K mg base "Book" "look_new" e9 3 2 A4w [] (upc A2B)) (O_Book__look_step:OkM P w K mg base "Book" "look_step" d9 4 3 A4t [] (upc A2A)) (O_Book__length:OkM P w K mg base "Book" "length" Z9 2 2 A44 [] (upc A2E)) (O_Book__laid_out:OkM P w K mg base "Book" "laid_out" f7 2 2 A4y [] (upc A2C)) (R_TooLong:XkOk P w K mg base "TooLong" "too long" ["most"]) (cl:Cls K (He.ga K "Book")) (M:Meth K (He.ga K "Book") "write" f) (F:FunD K "write" (("Book":Str)++"."++"write") (defArgs X9) (defBody X9) (defScope X9) [] [] f fd):OkM P w K mg base "Book" "write" X9 5 3 A23 [] (upc g8):=
  OkM.mk' upc.m cl M F B2n rfl (fun cdv A outer s H EX G E hr gk tk=> B85 Z O_Book__look_new O_Book__look_step O_Book__length O_Book__laid_out R_TooLong hr gk tk) B8N
theorem B8l {P:Program} {w:World} {K:PySem.W.Frag} {mg:Str→Option Value} {base:Heap} {f:Addr} {fd:FuncData} (Z:Blt K w mg) (F:FunD K "_law_written" "_law_written" (defArgs i5) (defBody i5) (defScope i5) [] [] f fd) (hm:mg "_law_written"=some (.ref f)) (O_Book____init__:OkM P w K mg base "Book" "__init__" U2 4 2 A0Y [] (upc P4)) (O_Book__write:OkM P w K mg base "Book" "write" X9 5 3 A23 [] (upc g8)):Ok P w K mg base "_law_written" i5 6 2 A5A (upc d8):=
  Ok.mk' upc.m hm F B2j rfl (fun cdv A outer s H EX G E hr gk tk=> B8s Z O_Book____init__ O_Book__write hr gk tk) B7z
theorem B9g {P:Program} {w:World} {K:PySem.W.Frag} {mg:Str→Option Value} {base:Heap} {f:Addr} {fd:FuncData} (Z:Blt K w mg) (O_Book____init__:OkM P w K mg base "Book" "__init__" U2 4 2 A0Y [] (upc P4)) (cl:Cls K (He.ga K "Book")) (M:Meth K (He.ga K "Book") "twin" f) (F:FunD K "twin" (("Book":Str)++"."++"twin") (defArgs Y7) (defBody Y7) (defScope Y7) [] [] f fd):OkM P w K mg base "Book" "twin" Y7 6 1 A5T [] (upc m9):=
  OkM.mk' upc.m cl M F B21 rfl (fun cdv A outer s H EX G E hr gk tk=> B9c Z O_Book____init__ hr gk tk) B9a
theorem B9X {P:Program} {w:World} {K:PySem.W.Frag} {mg:Str→Option Value} {base:Heap} {f:Addr} {fd:FuncData} (Z:Blt K w mg) (O_Book__callers:OkM P w K mg base "Book" "callers" U3 4 2 A1P [] (upc W4)) (R_InUse:XkOk P w K mg base "InUse" "in use" ["name"]) (cl:Cls K (He.ga K "Book")) (M:Meth K (He.ga K "Book") "drop" f) (F:FunD K "drop" (("Book":Str)++"."++"drop") (defArgs i7) (defBody i7) (defScope i7) [] [] f fd):OkM P w K mg base "Book" "drop" i7 5 2 A5U [] (upc A2G):=
  OkM.mk' upc.m cl M F B25 rfl (fun cdv A outer s H EX G E hr gk tk=> B9U Z O_Book__callers R_InUse hr gk tk) B9b
theorem B8n {P:Program} {w:World} {K:PySem.W.Frag} {mg:Str→Option Value} {base:Heap} {f:Addr} {fd:FuncData} (Z:Blt K w mg) (O_Book__names:OkM P w K mg base "Book" "names" T4 1 1 A0A [] (upc R5)) (cl:Cls K (He.ga K "Book")) (M:Meth K (He.ga K "Book") "__eq__" f) (F:FunD K "__eq__" (("Book":Str)++"."++"__eq__") (defArgs g9) (defBody g9) (defScope g9) [] [] f fd):OkM P w K mg base "Book" "__eq__" g9 2 2 A47 [] (upc Q1):=
  OkM.mk' upc.m cl M F B2h rfl (fun cdv A outer s H EX G E hr gk tk=> B8o Z O_Book__names hr gk tk) B70
theorem o_law {P:Program} {w:World} {K:PySem.W.Frag} {mg:Str→Option Value} {base:Heap} {f:Addr} {fd:FuncData} (Z:Blt K w mg) (F:FunD K "law" "law" (defArgs o3) (defBody o3) (defScope o3) [] [] f fd) (hm:mg "law"=some (.ref f)) (O__law_open:Ok P w K mg base "_law_open" j9 1 1 A5Z (upc A28)) (O__law_any_sizes:Ok P w K mg base "_law_any_sizes" f9 3 1 A4z (upc A2y)) (O__law_row:Ok P w K mg base "_law_row" b9 5 4 A5k (upc A3C)) (O__law_written:Ok P w K mg base "_law_written" i5 6 2 A5A (upc d8)) (O_Book__twin:OkM P w K mg base "Book" "twin" Y7 6 1 A5T [] (upc m9)) (O__law_told:Ok P w K mg base "_law_told" Z0 5 1 A5c (upc o8)) (O_Book____eq__:OkM P w K mg base "Book" "__eq__" g9 2 2 A47 [] (upc Q1)) (O__law_same:Ok P w K mg base "_law_same" Y9 9 2 A3B (upc (m__law_same 8))) (O__law_told__R:Ok P w K mg base "_law_told" i4 5 1 A48 (upc A2v)) (O_Book__names:OkM P w K mg base "Book" "names" T4 1 1 A0A [] (upc R5)) (O__law_take:Ok P w K mg base "_law_take" P3 1 2 Y8 (upc G7)) (O_Book__write:OkM P w K mg base "Book" "write" X9 5 3 A23 [] (upc g8)) (O_Book__drop:OkM P w K mg base "Book" "drop" i7 5 2 A5U [] (upc A2G)) (O_Book____init__:OkM P w K mg base "Book" "__init__" U2 4 2 A0Y [] (upc P4)):Ok P w K mg base "law" o3 10 1 A86 (upc m_law):=
  Ok.mk' upc.m hm F B64 rfl (fun cdv A outer s H EX G E hr gk tk=> C50 Z O__law_open O__law_any_sizes O__law_row O__law_written O_Book__twin O__law_told O_Book____eq__ O__law_same O__law_told__R O_Book__names O__law_take O_Book__write O_Book__drop O_Book____init__ hr gk tk) C5e
end Ab
namespace Ab
open PySem PySem.Spec PyProof.Rows L2 RZ
theorem hFacts {P:Program} {w:World} {K:PySem.W.Frag} {h:Heap} {mg:Str→Option Value} {f:Addr} (X:K.In h) (G:h.Ns mainGlobals mg) (hfa:mg ("law":Str)=some (.ref f)) (c:He.SaysD hFa hFn K) (x:hEx K=true):
    ∃fd:FuncData,(∀(s:Shared) (v:Value),BindsTo s fd ⟨[v],[]⟩ [("_law_script",v)])∧∀base:Heap,(∀p∈(A2q K).map (·.1),LamX.TabB base mg p.1 p.2)→FnOk P w K mg base (L2.CX P w) 10 f fd A86 (O9 K 1 (upc m_law)):=by
  obtain ⟨fd_look_sizes,F_look_sizes⟩:=c.def_ 0 (d:=B2z) rfl
  have g_look_sizes:=He.glo_ok X G (c.fact 0 (f:= .glo "look_sizes") rfl)
  obtain ⟨fd_has_count,F_has_count⟩:=c.def_ 1 (d:=B3H) rfl
  have g_has_count:=He.glo_ok X G (c.fact 1 (f:= .glo "has_count") rfl)
  obtain ⟨fd_first_bad,F_first_bad⟩:=c.def_ 2 (d:=B3G) rfl
  have g_first_bad:=He.glo_ok X G (c.fact 2 (f:= .glo "first_bad") rfl)
  obtain ⟨fd_fault_of,F_fault_of⟩:=c.def_ 3 (d:=B3h) rfl
  have g_fault_of:=He.glo_ok X G (c.fact 3 (f:= .glo "fault_of") rfl)
  obtain ⟨fd_is_name,F_is_name⟩:=c.def_ 4 (d:=B3w) rfl
  have g_is_name:=He.glo_ok X G (c.fact 4 (f:= .glo "is_name") rfl)
  obtain ⟨fd_is_call,F_is_call⟩:=c.def_ 5 (d:=B32) rfl
  have g_is_call:=He.glo_ok X G (c.fact 5 (f:= .glo "is_call") rfl)
  obtain ⟨fd_call_fault,F_call_fault⟩:=c.def_ 6 (d:=B20) rfl
  have g_call_fault:=He.glo_ok X G (c.fact 6 (f:= .glo "call_fault") rfl)
  obtain ⟨fd__law_open,F__law_open⟩:=c.def_ 7 (d:=B3E) rfl
  have g__law_open:=He.glo_ok X G (c.fact 7 (f:= .glo "_law_open") rfl)
  obtain ⟨fd__law_take,F__law_take⟩:=c.def_ 8 (d:=B3M) rfl
  have g__law_take:=He.glo_ok X G (c.fact 8 (f:= .glo "_law_take") rfl)
  obtain ⟨fd__law_pick,F__law_pick⟩:=c.def_ 9 (d:=B3N) rfl
  have g__law_pick:=He.glo_ok X G (c.fact 9 (f:= .glo "_law_pick") rfl)
  obtain ⟨fd__law_same,F__law_same⟩:=c.def_ 10 (d:=B3B) rfl
  have g__law_same:=He.glo_ok X G (c.fact 10 (f:= .glo "_law_same") rfl)
  obtain ⟨fd__law_sizes,F__law_sizes⟩:=c.def_ 11 (d:=B29) rfl
  have g__law_sizes:=He.glo_ok X G (c.fact 11 (f:= .glo "_law_sizes") rfl)
  obtain ⟨fd__law_any_sizes,F__law_any_sizes⟩:=c.def_ 12 (d:=B2V) rfl
  have g__law_any_sizes:=He.glo_ok X G (c.fact 12 (f:= .glo "_law_any_sizes") rfl)
  obtain ⟨fd__law_number,F__law_number⟩:=c.def_ 13 (d:=B2m) rfl
  have g__law_number:=He.glo_ok X G (c.fact 13 (f:= .glo "_law_number") rfl)
  obtain ⟨fd__law_shuffled,F__law_shuffled⟩:=c.def_ 14 (d:=B2Z) rfl
  have g__law_shuffled:=He.glo_ok X G (c.fact 14 (f:= .glo "_law_shuffled") rfl)
  obtain ⟨fd__law_some_casks,F__law_some_casks⟩:=c.def_ 15 (d:=B2N) rfl
  have g__law_some_casks:=He.glo_ok X G (c.fact 15 (f:= .glo "_law_some_casks") rfl)
  obtain ⟨fd__law_alike,F__law_alike⟩:=c.def_ 16 (d:=B2x) rfl
  have g__law_alike:=He.glo_ok X G (c.fact 16 (f:= .glo "_law_alike") rfl)
  obtain ⟨fd__law_deed,F__law_deed⟩:=c.def_ 17 (d:=B3T) rfl
  have g__law_deed:=He.glo_ok X G (c.fact 17 (f:= .glo "_law_deed") rfl)
  obtain ⟨fd__law_row,F__law_row⟩:=c.def_ 18 (d:=B3U) rfl
  have g__law_row:=He.glo_ok X G (c.fact 18 (f:= .glo "_law_row") rfl)
  obtain ⟨fd__law_told,F__law_told⟩:=c.def_ 19 (d:=B3J) rfl
  have g__law_told:=He.glo_ok X G (c.fact 19 (f:= .glo "_law_told") rfl)
  obtain ⟨fd__law_told__R,F__law_told__R⟩:=c.def_ 20 (d:=B2i) rfl
  have g__law_told__R:=He.glo_ok X G (c.fact 20 (f:= .glo "_law_told") rfl)
  obtain ⟨fd__law_written,F__law_written⟩:=c.def_ 21 (d:=B2c) rfl
  have g__law_written:=He.glo_ok X G (c.fact 21 (f:= .glo "_law_written") rfl)
  obtain ⟨fd_law,F_law⟩:=c.def_ 22 (d:=B6t) rfl
  have g_law:=He.glo_ok X G (c.fact 22 (f:= .glo "law") rfl)
  unfold hEx at x
  simp only [Bool.and_eq_true] at x
  have h_BadName:=He.glo_ok X G (c.fact 45 (f:= .glo "BadName") rfl)
  obtain ⟨fdi_BadName,Fi_BadName⟩:=c.def_ 23 (d:=B3W) rfl
  have h_BadRow:=He.glo_ok X G (c.fact 46 (f:= .glo "BadRow") rfl)
  obtain ⟨fdi_BadRow,Fi_BadRow⟩:=c.def_ 24 (d:=B3r) rfl
  have h_BadSizes:=He.glo_ok X G (c.fact 47 (f:= .glo "BadSizes") rfl)
  obtain ⟨fdi_BadSizes,Fi_BadSizes⟩:=c.def_ 25 (d:=B3P) rfl
  have h_InUse:=He.glo_ok X G (c.fact 48 (f:= .glo "InUse") rfl)
  obtain ⟨fdi_InUse,Fi_InUse⟩:=c.def_ 26 (d:=B4e) rfl
  have h_NoRound:=He.glo_ok X G (c.fact 49 (f:= .glo "NoRound") rfl)
  obtain ⟨fdi_NoRound,Fi_NoRound⟩:=c.def_ 27 (d:=B3g) rfl
  have h_Taken:=He.glo_ok X G (c.fact 50 (f:= .glo "Taken") rfl)
  obtain ⟨fdi_Taken,Fi_Taken⟩:=c.def_ 28 (d:=B4M) rfl
  have h_TooLong:=He.glo_ok X G (c.fact 51 (f:= .glo "TooLong") rfl)
  obtain ⟨fdi_TooLong,Fi_TooLong⟩:=c.def_ 29 (d:=B3c) rfl
  have h_TooMany:=He.glo_ok X G (c.fact 52 (f:= .glo "TooMany") rfl)
  obtain ⟨fdi_TooMany,Fi_TooMany⟩:=c.def_ 30 (d:=B3a) rfl
  have cl_Book:Cls K (He.ga K "Book"):=He.cls_ok (c.fact 54 (f:= .cls "Book") rfl)
  have go_Book:=He.glo_ok X G (c.fact 53 (f:= .glo "Book") rfl)
  obtain ⟨fd_Book__there,F_Book__there⟩:=c.def_ 31 (d:=B2t) rfl
  have M_Book__there:=He.meth_ok (c.fact 58 (f:= .meth "Book" "there") rfl)
  obtain ⟨fd_Book__steps,F_Book__steps⟩:=c.def_ 32 (d:=B2s) rfl
  have M_Book__steps:=He.meth_ok (c.fact 59 (f:= .meth "Book" "steps") rfl)
  obtain ⟨fd_Book__flat,F_Book__flat⟩:=c.def_ 33 (d:=B22) rfl
  have M_Book__flat:=He.meth_ok (c.fact 60 (f:= .meth "Book" "flat") rfl)
  obtain ⟨fd_Book__callers,F_Book__callers⟩:=c.def_ 34 (d:=B2W) rfl
  have M_Book__callers:=He.meth_ok (c.fact 61 (f:= .meth "Book" "callers") rfl)
  obtain ⟨fd_Book__names,F_Book__names⟩:=c.def_ 35 (d:=B2l) rfl
  have M_Book__names:=He.meth_ok (c.fact 62 (f:= .meth "Book" "names") rfl)
  obtain ⟨fd_Book____init__,F_Book____init__⟩:=c.def_ 36 (d:=B2T) rfl
  have M_Book____init__:=He.meth_ok (c.fact 63 (f:= .meth "Book" "__init__") rfl)
  obtain ⟨fd_Book__look_new,F_Book__look_new⟩:=c.def_ 37 (d:=B2Q) rfl
  have M_Book__look_new:=He.meth_ok (c.fact 64 (f:= .meth "Book" "look_new") rfl)
  obtain ⟨fd_Book__laid_out,F_Book__laid_out⟩:=c.def_ 38 (d:=B2R) rfl
  have M_Book__laid_out:=He.meth_ok (c.fact 65 (f:= .meth "Book" "laid_out") rfl)
  obtain ⟨fd_Book__look_step,F_Book__look_step⟩:=c.def_ 39 (d:=B2L) rfl
  have M_Book__look_step:=He.meth_ok (c.fact 66 (f:= .meth "Book" "look_step") rfl)
  obtain ⟨fd_Book__length,F_Book__length⟩:=c.def_ 40 (d:=B2e) rfl
  have M_Book__length:=He.meth_ok (c.fact 67 (f:= .meth "Book" "length") rfl)
  obtain ⟨fd_Book__write,F_Book__write⟩:=c.def_ 41 (d:=B2k) rfl
  have M_Book__write:=He.meth_ok (c.fact 68 (f:= .meth "Book" "write") rfl)
  obtain ⟨fd_Book__twin,F_Book__twin⟩:=c.def_ 42 (d:=B26) rfl
  have M_Book__twin:=He.meth_ok (c.fact 69 (f:= .meth "Book" "twin") rfl)
  obtain ⟨fd_Book__drop,F_Book__drop⟩:=c.def_ 43 (d:=B23) rfl
  have M_Book__drop:=He.meth_ok (c.fact 70 (f:= .meth "Book" "drop") rfl)
  obtain ⟨fd_Book____eq__,F_Book____eq__⟩:=c.def_ 44 (d:=B2f) rfl
  have M_Book____eq__:=He.meth_ok (c.fact 71 (f:= .meth "Book" "__eq__") rfl)
  have Z:Blt K w mg:=⟨He.free_ok X G (c.fact 23 (f:= .free "all") rfl),
    He.free_ok X G (c.fact 24 (f:= .free "any") rfl),
    He.free_ok X G (c.fact 25 (f:= .free "bool") rfl),
    He.free_ok X G (c.fact 26 (f:= .free "enumerate") rfl),
    He.free_ok X G (c.fact 27 (f:= .free "int") rfl),
    He.free_ok X G (c.fact 28 (f:= .free "isinstance") rfl),
    He.free_ok X G (c.fact 29 (f:= .free "len") rfl),
    He.free_ok X G (c.fact 30 (f:= .free "list") rfl),
    He.free_ok X G (c.fact 31 (f:= .free "range") rfl),
    He.free_ok X G (c.fact 32 (f:= .free "str") rfl),
    He.free_ok X G (c.fact 33 (f:= .free "sum") rfl),
    He.free_ok X G (c.fact 34 (f:= .free "tuple") rfl),
    He.int_ok X G (c.fact 35 (f:= .int "GREAT" 1000000000000000000000000000000) rfl),
    He.str_ok X G (c.fact 36 (f:= .str "LETTERS" ("abcdefghijklmnopqrstuvwxyz":Str)) rfl),
    He.int_ok X G (c.fact 37 (f:= .int "LONGEST" 8) rfl),
    He.int_ok X G (c.fact 38 (f:= .int "MOST_CALLS" 9) rfl),
    He.int_ok X G (c.fact 39 (f:= .int "MOST_CASKS" 6) rfl),
    He.int_ok X G (c.fact 40 (f:= .int "MOST_FLAT" 200) rfl),
    He.int_ok X G (c.fact 41 (f:= .int "MOST_ROUNDS" 12) rfl),
    He.int_ok X G (c.fact 42 (f:= .int "MOST_SIZE" 40) rfl),
    ⟨_,_,He.glo_ok X G (c.fact 43 (f:= .glo "PATHS") rfl),fun H=> He.tupB_ok x.1.1.1.1.1.1.1.1.1.1.1 H,fun H=> .cons .str (.cons .str (.nil))⟩,
    ⟨_,_,He.glo_ok X G (c.fact 44 (f:= .glo "PLAIN") rfl),fun H=> He.tupB_ok x.1.1.1.1.1.1.1.1.1.1.2 H,fun H=> .cons .str (.cons .str (.cons .str (.nil)))⟩,
    ⟨cl_Book,He.noat_ok (c.fact 55 (f:= .noat "Book" "casks") rfl)⟩,
    ⟨cl_Book,He.noat_ok (c.fact 56 (f:= .noat "Book" "laid") rfl)⟩,
    ⟨cl_Book,He.noat_ok (c.fact 57 (f:= .noat "Book" "written") rfl)⟩,
    ⟨go_Book,(He.mkr_ok (c.fact 72 (f:= .mkr "Book") rfl)).makes,(He.mkr_ok (c.fact 72 (f:= .mkr "Book") rfl)).kp⟩,
    C5A x.1.2,
    C33 x.2 go_Book cl_Book⟩
  have e:=hfa.symm.trans g_law
  cases e
  have b:=FunD.bindsA (ps:=A86) F_law fun _ _ _ _ _ _ us hl=> match us,hl with | [_],_=> rfl
  refine ⟨fd_law,fun s v=> b s [v] rfl,fun base TBs=> ?_⟩
  have R_BadName:XkOk P w K mg base "BadName" "bad name" []:=xk0 (A2c x.1.1.1.1.1.1.1.1.1.2) h_BadName Fi_BadName C0X (fun _ _ _ _ _ _ us hl=> match us,hl with | [_],_=> rfl)
  have R_BadRow:XkOk P w K mg base "BadRow" "bad row" ["step","place"]:=xk2 (A2c x.1.1.1.1.1.1.1.1.2) h_BadRow Fi_BadRow C04 (fun _ _ _ _ _ _ us hl=> match us,hl with | [_,_,_],_=> rfl)
  have R_BadSizes:XkOk P w K mg base "BadSizes" "bad sizes" ["cask"]:=xk1 (A2c x.1.1.1.1.1.1.1.2) h_BadSizes Fi_BadSizes C0I (fun _ _ _ _ _ _ us hl=> match us,hl with | [_,_],_=> rfl)
  have R_InUse:XkOk P w K mg base "InUse" "in use" ["name"]:=xk1 (A2c x.1.1.1.1.1.1.2) h_InUse Fi_InUse C1a (fun _ _ _ _ _ _ us hl=> match us,hl with | [_,_],_=> rfl)
  have R_NoRound:XkOk P w K mg base "NoRound" "no round" ["name"]:=xk1 (A2c x.1.1.1.1.1.2) h_NoRound Fi_NoRound C0k (fun _ _ _ _ _ _ us hl=> match us,hl with | [_,_],_=> rfl)
  have R_Taken:XkOk P w K mg base "Taken" "taken" ["name"]:=xk1 (A2c x.1.1.1.1.2) h_Taken Fi_Taken C1d (fun _ _ _ _ _ _ us hl=> match us,hl with | [_,_],_=> rfl)
  have R_TooLong:XkOk P w K mg base "TooLong" "too long" ["most"]:=xk1 (A2c x.1.1.1.2) h_TooLong Fi_TooLong C0p (fun _ _ _ _ _ _ us hl=> match us,hl with | [_,_],_=> rfl)
  have R_TooMany:XkOk P w K mg base "TooMany" "too many" ["most"]:=xk1 (A2c x.1.1.2) h_TooMany Fi_TooMany C0Y (fun _ _ _ _ _ _ us hl=> match us,hl with | [_,_],_=> rfl)
  have O__law_open:=B91 (P:=P) (w:=w) (base:=base) Z F__law_open g__law_open
  have O__law_take:=B9l (P:=P) (w:=w) (base:=base) Z F__law_take g__law_take
  have O__law_sizes:=B9C (P:=P) (w:=w) (base:=base) Z F__law_sizes g__law_sizes O__law_take
  have O__law_pick:=B90 (P:=P) (w:=w) (base:=base) Z F__law_pick g__law_pick O__law_take
  have O__law_any_sizes:=B8I (P:=P) (w:=w) (base:=base) Z F__law_any_sizes g__law_any_sizes O__law_sizes O__law_pick
  have O__law_alike:=B9N (P:=P) (w:=w) (base:=base) Z F__law_alike g__law_alike
  have O__law_shuffled:=B8e (P:=P) (w:=w) (base:=base) Z F__law_shuffled g__law_shuffled O__law_take
  have O__law_some_casks:=B76 (P:=P) (w:=w) (base:=base) Z F__law_some_casks g__law_some_casks O__law_shuffled
  have O__law_deed:=B9y (P:=P) (w:=w) (base:=base) Z F__law_deed g__law_deed O__law_take O__law_alike O__law_pick O__law_some_casks
  have O__law_number:=B88 (P:=P) (w:=w) (base:=base) Z F__law_number g__law_number O__law_take O__law_pick
  have O__law_row:=C0W (P:=P) (w:=w) (base:=base) Z F__law_row g__law_row O__law_take O__law_deed O__law_number
  have O_look_sizes:=B9I (P:=P) (w:=w) (base:=base) Z F_look_sizes g_look_sizes R_BadSizes
  have O_Book____init__:=B8F (P:=P) (w:=w) (base:=base) Z O_look_sizes cl_Book M_Book____init__ F_Book____init__
  have O_is_name:=C1A (P:=P) (w:=w) (base:=base) Z F_is_name g_is_name
  have O_Book__look_new:=B8E (P:=P) (w:=w) (base:=base) Z O_is_name R_BadName R_Taken R_TooMany cl_Book M_Book__look_new F_Book__look_new
  have O_is_call:=C1E (P:=P) (w:=w) (base:=base) Z F_is_call g_is_call
  have O_call_fault:=B9F (P:=P) (w:=w) (base:=base) Z F_call_fault g_call_fault
  have O_has_count:=C0F (P:=P) (w:=w) (base:=base) Z F_has_count g_has_count
  have O_first_bad:=C0C (P:=P) (w:=w) (base:=base) Z F_first_bad g_first_bad
  have O_fault_of:=C0g (P:=P) (w:=w) (base:=base) Z F_fault_of g_fault_of O_has_count O_first_bad
  have O_Book__there:=B9A (P:=P) (w:=w) (base:=base) Z R_NoRound cl_Book M_Book__there F_Book__there
  have O_Book__look_step:=B7u (P:=P) (w:=w) (base:=base) Z O_is_call O_call_fault O_fault_of O_Book__there R_BadRow cl_Book M_Book__look_step F_Book__look_step
  have O_Book__length:=B8p (P:=P) (w:=w) (base:=base) Z O_is_call cl_Book M_Book__length F_Book__length
  have O_Book__laid_out:=B79 (P:=P) (w:=w) (base:=base) Z O_is_call cl_Book M_Book__laid_out F_Book__laid_out
  have O_Book__write:=B8u (P:=P) (w:=w) (base:=base) Z O_Book__look_new O_Book__look_step O_Book__length O_Book__laid_out R_TooLong cl_Book M_Book__write F_Book__write
  have O__law_written:=B8l (P:=P) (w:=w) (base:=base) Z F__law_written g__law_written O_Book____init__ O_Book__write
  have O_Book__twin:=B9g (P:=P) (w:=w) (base:=base) Z O_Book____init__ cl_Book M_Book__twin F_Book__twin
  have O_Book__names:=B81 (P:=P) (w:=w) (base:=base) Z cl_Book M_Book__names F_Book__names
  have O_Book__callers:=B8Z (P:=P) (w:=w) (base:=base) Z O_Book__there O_is_call cl_Book M_Book__callers F_Book__callers
  have O_Book__flat:=B9R (P:=P) (w:=w) (base:=base) Z O_Book__there cl_Book M_Book__flat F_Book__flat
  have O_Book__steps:=B8x (P:=P) (w:=w) (base:=base) Z O_Book__there cl_Book M_Book__steps F_Book__steps
  have O__law_told:=B9q (P:=P) (w:=w) (base:=base) Z F__law_told g__law_told O_Book__names O_Book__callers O_Book__flat O_Book__steps
  have O_Book____eq__:=B8n (P:=P) (w:=w) (base:=base) Z O_Book__names cl_Book M_Book____eq__ F_Book____eq__
  have O__law_same:=B3S (P:=P) (w:=w) (base:=base) Z F__law_same g__law_same 8
  have O__law_told__R:=B8r (P:=P) (w:=w) (base:=base) Z F__law_told__R g__law_told__R O_Book__names O_Book__callers O_Book__flat O_Book__steps
  have O_Book__drop:=B9X (P:=P) (w:=w) (base:=base) Z O_Book__callers R_InUse cl_Book M_Book__drop F_Book__drop
  have O_law:=o_law (P:=P) (w:=w) (base:=base) Z F_law g_law O__law_open O__law_any_sizes O__law_row O__law_written O_Book__twin O__law_told O_Book____eq__ O__law_same O__law_told__R O_Book__names O__law_take O_Book__write O_Book__drop O_Book____init__
  obtain ⟨f2,fd2,hm2,FD2,F2⟩:=O_law.ex
  have e2:=hm2.symm.trans g_law
  cases e2
  have e3:fd2=fd_law:=FunD.one FD2 F_law
  rw [←e3]
  exact F2
end Ab
open PySem PySem.W PySem.Calls PyProof.Rows
theorem PySem.Challenge.cw_hidelater_k28_books_and_their_twins_holds : PySem.Challenge.rw_hidelater_k28_books_and_their_twins.Holds := by
  w_on;o_law
  refine HandSHeadRun.head_any (r:=OpenLaw.row PySem.Challenge.rw_hidelater_k28_books_and_their_twins) (q:=view (OpenLaw.row PySem.Challenge.rw_hidelater_k28_books_and_their_twins).prog [47]) (H:=Ab.hHk) (ob:=Ab.hOb) (M:=5000) (loose:=Ab.hNms) (d:=HandSHeadRun.topDef (OpenLaw.row PySem.Challenge.rw_hidelater_k28_books_and_their_twins).prog 47) (kwd:=[]) Ab.hOb_eq
    (by kernel_rfl) (fun s=> by kernel_rfl) Ab.hRun (by kernel_rfl) (by kernel_rfl) (by kernel_rfl) (by rfl) (by first | assumption | decide+kernel) (by decide+kernel) ⟨rfl,rfl,rfl,rfl,rfl,by decide+kernel⟩ ?hw ?hc
  case hw=> w_witness2
  case hc=>
    refine Ab.walk_end (l:=PySem.Challenge.rw_hidelater_k28_books_and_their_twins) (j:=10) (y:="_law_script") rfl (by kernel_rfl) ⟨rfl,by decide,by decide⟩ ?F
    intro w mg fa h Y G hmg0
    obtain ⟨K,KX,⟨c,ex⟩,no,te⟩:=Y
    have hmg:mg ("law":PySem.Str)=some (.ref fa):=by
      have e:(HandSHeadRun.topDef (OpenLaw.row PySem.Challenge.rw_hidelater_k28_books_and_their_twins).prog 47).name=("law":PySem.Str):=by kernel_rfl
      rw [←e]
      exact hmg0
    obtain ⟨fd,hb,hF⟩:=Ab.hFacts (P:=(PySem.Challenge.rw_hidelater_k28_books_and_their_twins).prog) (w:=w) KX G hmg c ex
    exact ⟨K,fd,Ab.upc Ab.m_law,KX,no,te,Ab.law_says,hb,hF⟩
